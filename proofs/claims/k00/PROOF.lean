import PyProof.Rows.All
import Wide.All
import OpenK.AllK
import Wide.FinOn
import HandS.ForMost
import KE.DataEq
import HandS.Wide
import HandS.TupAny
import HandS.IsInst
import HandS.Gcd
import HandS.SortInts
import HandS.Deep
import HandS.Conv
import HandS.Style
import HandS.RevRange
import HandS.SetFor
import HandS.More
import HandS.Remove
import HandS.TupLe
import HandS.Dict
import HandS.WordsDict
import HandS.SortRule
import HandS.Zip
import HandS.TupSets
import HandS.Comp
import HandS.Strs
import HandS.Exc
import HandS.ExcCtx
import HandS.HotCalls
import HandS.ExcField
import HandS.ExcIs
import HandS.ExcInit
import HandS.WordsExc
import KE.KExcSuper
import KE.KSuper
import KE.KExcIs
import PySem.Challenge.RW_linktrees_k00_fractions
set_option Elab.async false
set_option linter.all false
set_option maxRecDepth 100000
namespace PyL
open PySem PySem.Spec L2
set_option autoImplicit false

/-- data without addresses -/
inductive D where
  | non | bl (b : Bool) | int (i : Int) | str (x : Str)
  | lst (ds : List D) | tup (ds : List D)
  | dK (kvs : List (Key × V)) | dT (kvs : List (List Key × V))
  | scr (K : PySem.W.Frag) (ns : List Int)
  | exc (a : Addr) (dd : Option Addr) (cls : Str) (ns : List Str) (ds : List D)

abbrev PA1 := Addr → Prop
/-- a list of the module's own writing -/
def WrL (K : PySem.W.Frag) (a : Addr) (xs : List V) : Prop :=
  ∃ (o : Obj) (its : Array Value) (n : Nat), K.lookup a = some o ∧ o.cls = .type "list" ∧ o.dict = none ∧ o.data = .seq its n ∧ its.size ≤ sizeLine ∧ Vals xs its.toList

/-- the dict of an exception -/
def XdAt (S : PA1) (H : Hp) (d : Option Addr) (l : List (Str × V)) : Prop := match d with
  | none => l = []
  | some p => ¬ S p ∧ H p = some (.xd l)
theorem XdAt.imp {S S' : PA1} {H H' : Hp} (h : ∀ b o, H b = some o → ¬ S b → H' b = some o ∧ ¬ S' b) {d : Option Addr} {l : List (Str × V)} (x : XdAt S H d l) : XdAt S' H' d l := by
  cases d with
  | none => exact x
  | some p => exact ⟨(h p _ x.2 x.1).2, (h p _ x.2 x.1).1⟩

mutual
/-- v stands for d in H, all of it outside of S -/
def Rp (S : PA1) (H : Hp) : D → V → Prop
  | .non, v => v = .non
  | .bl b, v => v = .bl b
  | .int i, v => v = .int i
  | .str x, v => v = .str x
  | .lst ds, v => ∃ a xs, v = .ref a ∧ ¬ S a ∧ H a = some (.lst xs) ∧ RpL S H ds xs
  | .tup ds, v => ∃ a xs, v = .ref a ∧ ¬ S a ∧ H a = some (.tup xs) ∧ RpL S H ds xs
  | .dK kvs, v => ∃ a, v = .ref a ∧ ¬ S a ∧ H a = some (.dK kvs)
  | .dT kvs, v => ∃ a, v = .ref a ∧ ¬ S a ∧ H a = some (.dT kvs)
  | .scr K ns, v => ∃ a, v = .ref a ∧ ((¬ S a ∧ ∃ o, H a = some (.frz o (.lst (ns.map V.int)))) ∨ WrL K a (ns.map V.int))
  | .exc a dd _ ns ds, v => v = .ref a ∧ ∃ l xs, XdAt S H dd l ∧ RpL S H ds xs ∧ ∀ p ∈ ns.zip xs, l.lookup p.1 = some p.2
def RpL (S : PA1) (H : Hp) : List D → List V → Prop
  | [], xs => xs = []
  | d :: ds, xs => ∃ x r, xs = x :: r ∧ Rp S H d x ∧ RpL S H ds r
end

mutual
theorem Rp.imp {S S' : PA1} {H H' : Hp} (h : ∀ b o, H b = some o → ¬ S b → H' b = some o ∧ ¬ S' b) : ∀ (d : D) (v : V), Rp S H d v → Rp S' H' d v
  | .non, _, x => x
  | .bl _, _, x => x
  | .int _, _, x => x
  | .str _, _, x => x
  | .lst ds, _, ⟨a, xs, e, n, r, l⟩ =>
    let ⟨o, ho⟩ : ∃ o, H a = some o := ⟨_, r⟩
    ⟨a, xs, e, (h a o ho n).2, (h a _ r n).1, RpL.imp h ds xs l⟩
  | .tup ds, _, ⟨a, xs, e, n, r, l⟩ =>
    let ⟨o, ho⟩ : ∃ o, H a = some o := ⟨_, r⟩
    ⟨a, xs, e, (h a o ho n).2, (h a _ r n).1, RpL.imp h ds xs l⟩
  | .dK kvs, _, ⟨a, e, n, r⟩ => ⟨a, e, (h a _ r n).2, (h a _ r n).1⟩
  | .dT kvs, _, ⟨a, e, n, r⟩ => ⟨a, e, (h a _ r n).2, (h a _ r n).1⟩
  | .scr _ _, _, ⟨a, e, q⟩ => ⟨a, e, q.elim (fun ⟨n, o, r⟩ => .inl ⟨(h a _ r n).2, o, (h a _ r n).1⟩) .inr⟩
  | .exc _ _ _ _ ds, _, ⟨e, l, xs, x, r, n⟩ => ⟨e, l, xs, x.imp h, RpL.imp h ds xs r, n⟩
theorem RpL.imp {S S' : PA1} {H H' : Hp} (h : ∀ b o, H b = some o → ¬ S b → H' b = some o ∧ ¬ S' b) : ∀ (ds : List D) (xs : List V), RpL S H ds xs → RpL S' H' ds xs
  | [], _, x => x
  | d :: ds, _, ⟨x, r, e, p, q⟩ => ⟨x, r, e, Rp.imp h d x p, RpL.imp h ds r q⟩
end

theorem RpL.length {S : PA1} {H : Hp} : ∀ {ds : List D} {xs : List V}, RpL S H ds xs → ds.length = xs.length
  | [], _, e => by rw [show _ = [] from e]; rfl
  | _ :: _, _, ⟨_, _, e, _, q⟩ => by rw [e, List.length_cons, List.length_cons, q.length]
theorem RpL.get {S : PA1} {H : Hp} : ∀ {ds : List D} {xs : List V} {i : Nat} {d : D}, RpL S H ds xs → ds[i]? = some d → ∃ x, xs[i]? = some x ∧ Rp S H d x
  | [], _, _, _, _, h => by simp at h
  | c :: ds, _, 0, d, ⟨x, r, e, p, q⟩, h => by
    have : c = d := by simpa using h
    subst this; subst e
    exact ⟨x, rfl, p⟩
  | c :: ds, _, i + 1, d, ⟨x, r, e, p, q⟩, h => by
    subst e
    obtain ⟨y, hy, py⟩ := RpL.get (i := i) q (by simpa using h)
    exact ⟨y, by simpa using hy, py⟩
theorem RpL.get' {S : PA1} {H : Hp} {ds : List D} {xs : List V} {i : Nat} {x : V} (r : RpL S H ds xs) (h : xs[i]? = some x) : ∃ d, ds[i]? = some d ∧ Rp S H d x := by
  have hi : i < xs.length := (List.getElem?_eq_some_iff.mp h).1
  have hj : i < ds.length := by rw [r.length]; exact hi
  obtain ⟨y, hy, py⟩ := r.get (List.getElem?_eq_getElem hj)
  rw [h] at hy; cases hy
  exact ⟨_, List.getElem?_eq_getElem hj, py⟩
theorem RpL.append {S : PA1} {H : Hp} : ∀ {ds es : List D} {xs ys : List V}, RpL S H ds xs → RpL S H es ys → RpL S H (ds ++ es) (xs ++ ys)
  | [], _, _, _, e, q => by rw [show _ = [] from e]; exact q
  | _ :: _, _, _, _, ⟨x, r, e, p, q⟩, q' => ⟨x, _, by rw [e]; rfl, p, q.append q'⟩
theorem RpL.take {S : PA1} {H : Hp} : ∀ {ds : List D} {xs : List V} (n : Nat), RpL S H ds xs → RpL S H (ds.take n) (xs.take n)
  | [], _, n, e => by rw [show _ = [] from e]; simp [RpL]
  | _ :: _, _, 0, _ => rfl
  | _ :: _, _, n + 1, ⟨x, r, e, p, q⟩ => ⟨x, _, by rw [e]; rfl, p, q.take n⟩
theorem RpL.drop {S : PA1} {H : Hp} : ∀ {ds : List D} {xs : List V} (n : Nat), RpL S H ds xs → RpL S H (ds.drop n) (xs.drop n)
  | [], _, n, e => by rw [show _ = [] from e]; simp [RpL]
  | _ :: _, _, 0, h => h
  | _ :: _, _, n + 1, ⟨x, r, e, p, q⟩ => by rw [e]; exact q.drop n
theorem RpL.snoc {S : PA1} {H : Hp} {ds : List D} {xs : List V} {d : D} {x : V} (h : RpL S H ds xs) (p : Rp S H d x) : RpL S H (ds ++ [d]) (xs ++ [x]) := h.append ⟨x, [], rfl, p, rfl⟩
theorem RpL.of_get {S : PA1} {H : Hp} : ∀ {ds : List D} {xs : List V}, ds.length = xs.length → (∀ (i : Nat) d x, ds[i]? = some d → xs[i]? = some x → Rp S H d x) → RpL S H ds xs
  | [], xs, h, _ => by cases xs with | nil => rfl | cons _ _ => simp at h
  | d :: ds, [], h, _ => by simp at h
  | d :: ds, x :: xs, h, g => ⟨x, xs, rfl, g 0 d x rfl rfl, RpL.of_get (by simpa using h) fun i d' x' a b => g (i + 1) d' x' (by simpa using a) (by simpa using b)⟩
theorem RpL.reverse {S : PA1} {H : Hp} : ∀ {ds : List D} {xs : List V}, RpL S H ds xs → RpL S H ds.reverse xs.reverse
  | [], _, e => by rw [show _ = [] from e]; rfl
  | d :: ds, _, ⟨x, r, e, p, q⟩ => by rw [e, List.reverse_cons, List.reverse_cons]; exact q.reverse.snoc p
theorem RpL.set {S : PA1} {H : Hp} {d : D} {x : V} (p : Rp S H d x) : ∀ {ds : List D} {xs : List V} (i : Nat), RpL S H ds xs → RpL S H (ds.set i d) (xs.set i x)
  | [], _, i, e => by rw [show _ = [] from e]; rfl
  | _ :: _, _, 0, ⟨y, r, e, _, q⟩ => ⟨x, r, by rw [e]; rfl, p, q⟩
  | _ :: _, _, i + 1, ⟨y, r, e, p', q⟩ => ⟨y, _, by rw [e]; rfl, p', q.set p i⟩

/-! ### owned -/
/-- items one by one, the footprints apart -/
def AllF (P : D → V → List Addr → Prop) : List D → List V → List Addr → Prop
  | [], xs, fp => xs = [] ∧ fp = []
  | d :: ds, xs, fp => ∃ x r f1 f2, xs = x :: r ∧ P d x f1 ∧ AllF P ds r f2 ∧ fp = f1 ++ f2 ∧ ∀ a, a ∈ f1 → a ∉ f2

def Ow (S : PA1) (H : Hp) : Nat → D → V → List Addr → Prop
  | 0, d, v, fp => Rp S H d v ∧ fp = []
  | k + 1, .lst ds, v, fp => ∃ a xs fq, v = .ref a ∧ H a = some (.lst xs) ∧ AllF (Ow S H k) ds xs fq ∧ fp = a :: fq ∧ a ∉ fq
  | k + 1, .tup ds, v, fp => ∃ a xs, v = .ref a ∧ ¬ S a ∧ H a = some (.tup xs) ∧ AllF (Ow S H k) ds xs fp
  | k + 1, .dK kvs, v, fp => ∃ a, v = .ref a ∧ H a = some (.dK kvs) ∧ fp = [a]
  | k + 1, .dT kvs, v, fp => ∃ a, v = .ref a ∧ H a = some (.dT kvs) ∧ fp = [a]
  | k + 1, .scr K ns, v, fp => Rp S H (.scr K ns) v ∧ fp = []
  | k + 1, .exc a dd c ns ds, v, fp => Rp S H (.exc a dd c ns ds) v ∧ fp = []
  | k + 1, .non, v, fp => v = .non ∧ fp = []
  | k + 1, .bl b, v, fp => v = .bl b ∧ fp = []
  | k + 1, .int i, v, fp => v = .int i ∧ fp = []
  | k + 1, .str x, v, fp => v = .str x ∧ fp = []

theorem AllF.imp {P Q : D → V → List Addr → Prop} : ∀ {ds : List D} {xs : List V} {fp : List Addr}, AllF P ds xs fp → (∀ d v f, (∀ a ∈ f, a ∈ fp) → P d v f → Q d v f) → AllF Q ds xs fp
  | [], _, _, h, _ => h
  | _ :: _, _, _, ⟨x, r, f1, f2, e, p, q, ef, dj⟩, g =>
    ⟨x, r, f1, f2, e, g _ _ _ (fun a ha => by rw [ef]; exact List.mem_append_left _ ha) p, q.imp fun d v f hf => g d v f fun a ha => by rw [ef]; exact List.mem_append_right _ (hf a ha), ef, dj⟩

theorem Ow.imp {S S' : PA1} {H H' : Hp} (h : ∀ b o, H b = some o → ¬ S b → H' b = some o ∧ ¬ S' b) : ∀ (k : Nat) (d : D) (v : V) (fp : List Addr), (∀ b o, b ∈ fp → H b = some o → H' b = some o) → Ow S H k d v fp → Ow S' H' k d v fp
  | 0, d, v, fp, _, ⟨p, e⟩ => ⟨Rp.imp h d v p, e⟩
  | k + 1, .lst ds, v, fp, g, ⟨a, xs, fq, e, ha, al, ef, nd⟩ => ⟨a, xs, fq, e, g _ _ (by rw [ef]; exact List.mem_cons_self) ha,
      al.imp fun d x f hf p => Ow.imp h k d x f (fun b o hb => g b o (by rw [ef]; exact List.mem_cons_of_mem _ (hf b hb))) p, ef, nd⟩
  | k + 1, .tup ds, v, fp, g, ⟨a, xs, e, n, r, al⟩ =>
    let ⟨o, ho⟩ : ∃ o, H a = some o := ⟨_, r⟩
    ⟨a, xs, e, (h a o ho n).2, (h a _ r n).1, al.imp fun d x f hf p => Ow.imp h k d x f (fun b o hb => g b o (hf b hb)) p⟩
  | k + 1, .dK kvs, v, fp, g, ⟨a, e, ha, ef⟩ => ⟨a, e, g _ _ (by rw [ef]; exact List.mem_singleton.mpr rfl) ha, ef⟩
  | k + 1, .dT kvs, v, fp, g, ⟨a, e, ha, ef⟩ => ⟨a, e, g _ _ (by rw [ef]; exact List.mem_singleton.mpr rfl) ha, ef⟩
  | k + 1, .scr K ns, v, fp, g, ⟨p, e⟩ => ⟨Rp.imp h (.scr K ns) v p, e⟩
  | k + 1, .exc a dd c ns ds, v, fp, g, ⟨p, e⟩ => ⟨Rp.imp h (.exc a dd c ns ds) v p, e⟩
  | k + 1, .non, _, _, _, x => x
  | k + 1, .bl _, _, _, _, x => x
  | k + 1, .int _, _, _, _, x => x
  | k + 1, .str _, _, _, _, x => x

/-- tracked, a list or a dict -/
def Mt : HO → Prop
  | .lst _ => True
  | .dK _ => True
  | .dT _ => True
  | _ => False
def TrM (H : Hp) (a : Addr) : Prop := ∃ o, H a = some o ∧ Mt o
theorem TrM.grow {H H' : Hp} {a : Addr} (h : TrM H a) (e : Same H H') : TrM H' a := let ⟨o, q, m⟩ := h; ⟨o, e _ _ q, m⟩
theorem TrM.notTup {H : Hp} {a : Addr} {xs : List V} (h : TrM H a) (r : H a = some (.tup xs)) : False := by
  obtain ⟨o, e, m⟩ := h
  rw [e] at r; cases r; exact m
theorem TrM.notFrz {H : Hp} {a : Addr} {o : Obj} {u : HO} (h : TrM H a) (r : H a = some (.frz o u)) : False := by
  obtain ⟨o, e, m⟩ := h
  rw [e] at r; cases r; exact m
/-- what is owned is there -/
theorem AllF.there {P : D → V → List Addr → Prop} {H : Hp} (h : ∀ d v f, P d v f → ∀ a ∈ f, TrM H a) : ∀ {ds : List D} {xs : List V} {fp : List Addr}, AllF P ds xs fp → ∀ a ∈ fp, TrM H a
  | [], _, _, ⟨_, e⟩, a, ha => by rw [e] at ha; cases ha
  | _ :: _, _, _, ⟨x, r, f1, f2, e, p, q, ef, dj⟩, a, ha => by
    rw [ef] at ha
    rcases List.mem_append.mp ha with ha | ha
    · exact h _ _ _ p a ha
    · exact q.there h a ha
theorem Ow.there {S : PA1} {H : Hp} : ∀ (k : Nat) (d : D) (v : V) (fp : List Addr), Ow S H k d v fp → ∀ a ∈ fp, TrM H a
  | 0, _, _, _, ⟨_, e⟩, a, ha => by rw [e] at ha; cases ha
  | k + 1, .lst ds, v, fp, ⟨b, xs, fq, e, hb, al, ef, nd⟩, a, ha => by
    rw [ef] at ha
    rcases List.mem_cons.mp ha with z | z
    · exact ⟨.lst xs, z ▸ hb, trivial⟩
    · exact al.there (fun d x f p => Ow.there k d x f p) a z
  | k + 1, .tup ds, v, fp, ⟨b, xs, e, n, r, al⟩, a, ha => al.there (fun d x f p => Ow.there k d x f p) a ha
  | k + 1, .dK kvs, v, fp, ⟨b, e, hb, ef⟩, a, ha => by rw [ef] at ha; exact ⟨.dK kvs, (List.mem_singleton.mp ha) ▸ hb, trivial⟩
  | k + 1, .dT kvs, v, fp, ⟨b, e, hb, ef⟩, a, ha => by rw [ef] at ha; exact ⟨.dT kvs, (List.mem_singleton.mp ha) ▸ hb, trivial⟩
  | k + 1, .scr _ _, _, _, ⟨_, e⟩, a, ha => by rw [e] at ha; cases ha
  | k + 1, .exc _ _ _ _ _, _, _, ⟨_, e⟩, a, ha => by rw [e] at ha; cases ha
  | k + 1, .non, _, _, ⟨_, e⟩, a, ha => by rw [e] at ha; cases ha
  | k + 1, .bl _, _, _, ⟨_, e⟩, a, ha => by rw [e] at ha; cases ha
  | k + 1, .int _, _, _, ⟨_, e⟩, a, ha => by rw [e] at ha; cases ha
  | k + 1, .str _, _, _, ⟨_, e⟩, a, ha => by rw [e] at ha; cases ha

/-- frozen: outside of any S' that lies within S and holds nothing owned -/
theorem AllF.toL {P : D → V → List Addr → Prop} {S : PA1} {H : Hp} : ∀ {ds : List D} {xs : List V} {fp : List Addr}, AllF P ds xs fp → (∀ d v f, (∀ a ∈ f, a ∈ fp) → P d v f → Rp S H d v) → RpL S H ds xs
  | [], _, _, ⟨e, _⟩, _ => e
  | _ :: _, _, _, ⟨x, r, f1, f2, e, p, q, ef, dj⟩, g =>
    ⟨x, r, e, g _ _ _ (fun a ha => by rw [ef]; exact List.mem_append_left _ ha) p, q.toL fun d v f hf => g d v f fun a ha => by rw [ef]; exact List.mem_append_right _ (hf a ha)⟩
theorem Ow.frz {S S' : PA1} {H : Hp} (hs : ∀ a o, H a = some o → S' a → S a) : ∀ (k : Nat) (d : D) (v : V) (fp : List Addr), (∀ a ∈ fp, ¬ S' a) → Ow S H k d v fp → Rp S' H d v
  | 0, d, v, fp, _, ⟨p, e⟩ => Rp.imp (fun b o e n => ⟨e, fun z => n (hs b o e z)⟩) d v p
  | k + 1, .lst ds, v, fp, g, ⟨a, xs, fq, e, ha, al, ef, nd⟩ => ⟨a, xs, e, g a (by rw [ef]; exact List.mem_cons_self), ha,
      al.toL fun d x f hf p => Ow.frz hs k d x f (fun b hb => g b (by rw [ef]; exact List.mem_cons_of_mem _ (hf b hb))) p⟩
  | k + 1, .tup ds, v, fp, g, ⟨a, xs, e, n, r, al⟩ =>
    let ⟨o, ho⟩ : ∃ o, H a = some o := ⟨_, r⟩
    ⟨a, xs, e, fun z => n (hs a o ho z), r, al.toL fun d x f hf p => Ow.frz hs k d x f (fun b hb => g b (hf b hb)) p⟩
  | k + 1, .dK kvs, v, fp, g, ⟨a, e, ha, ef⟩ => ⟨a, e, g a (by rw [ef]; exact List.mem_singleton.mpr rfl), ha⟩
  | k + 1, .dT kvs, v, fp, g, ⟨a, e, ha, ef⟩ => ⟨a, e, g a (by rw [ef]; exact List.mem_singleton.mpr rfl), ha⟩
  | k + 1, .scr K ns, v, fp, g, ⟨p, e⟩ => Rp.imp (fun b o e n => ⟨e, fun z => n (hs b o e z)⟩) (.scr K ns) v p
  | k + 1, .exc a dd c ns ds, v, fp, g, ⟨p, e⟩ => Rp.imp (fun b o e n => ⟨e, fun z => n (hs b o e z)⟩) (.exc a dd c ns ds) v p
  | k + 1, .non, _, _, _, x => x.1
  | k + 1, .bl _, _, _, _, x => x.1
  | k + 1, .int _, _, _, _, x => x.1
  | k + 1, .str _, _, _, _, x => x.1

/-! nothing below the own part is a list or a dict -/
mutual
def af : Nat → D → Bool
  | 0, .lst _ => false
  | 0, .dK _ => false
  | 0, .dT _ => false
  | 0, .tup ds => afL 0 ds
  | k + 1, .lst ds => afL k ds
  | k + 1, .tup ds => afL k ds
  | k + 1, .dK _ => true
  | k + 1, .dT _ => true
  | _, .scr _ _ => true
  | _, .exc _ _ _ _ _ => false
  | _, .non => true
  | _, .bl _ => true
  | _, .int _ => true
  | _, .str _ => true
def afL : Nat → List D → Bool
  | _, [] => true
  | k, d :: ds => af k d && afL k ds
end
mutual
theorem Rp.af {S S' : PA1} {H : Hp} (h : ∀ a, S' a → TrM H a) : ∀ (d : D) (v : V), af 0 d = true → Rp S H d v → Rp S' H d v
  | .non, _, _, x => x
  | .bl _, _, _, x => x
  | .int _, _, _, x => x
  | .str _, _, _, x => x
  | .lst _, _, q, _ => by simp [PyL.af] at q
  | .dK _, _, q, _ => by simp [PyL.af] at q
  | .dT _, _, q, _ => by simp [PyL.af] at q
  | .tup ds, v, q, ⟨a, xs, e, n, r, l⟩ => ⟨a, xs, e, fun z => (h a z).notTup r, r, RpL.af h ds xs (by simpa [PyL.af] using q) l⟩
  | .scr _ _, _, _, ⟨a, e, q⟩ => ⟨a, e, q.elim (fun ⟨n, o, r⟩ => .inl ⟨fun z => (h a z).notFrz r, o, r⟩) .inr⟩
  | .exc _ _ _ _ _, _, q, _ => by simp [PyL.af] at q
theorem RpL.af {S S' : PA1} {H : Hp} (h : ∀ a, S' a → TrM H a) : ∀ (ds : List D) (xs : List V), afL 0 ds = true → RpL S H ds xs → RpL S' H ds xs
  | [], _, _, x => x
  | d :: ds, _, q, ⟨x, r, e, p, l⟩ => by
    simp only [PyL.afL, Bool.and_eq_true] at q
    exact ⟨x, r, e, Rp.af h d x q.1 p, RpL.af h ds r q.2 l⟩
end
theorem AllF.af {P Q : D → V → List Addr → Prop} {k : Nat} : ∀ {ds : List D} {xs : List V} {fp : List Addr}, afL k ds = true → AllF P ds xs fp → (∀ d v f, PyL.af k d = true → P d v f → Q d v f) → AllF Q ds xs fp
  | [], _, _, _, h, _ => h
  | d :: ds, _, _, q, ⟨x, r, f1, f2, e, p, l, ef, dj⟩, g => by
    simp only [PyL.afL, Bool.and_eq_true] at q
    exact ⟨x, r, f1, f2, e, g _ _ _ q.1 p, l.af q.2 g, ef, dj⟩
theorem Ow.af {S S' : PA1} {H : Hp} (h : ∀ a, S' a → TrM H a) : ∀ (k : Nat) (d : D) (v : V) (fp : List Addr), PyL.af k d = true → Ow S H k d v fp → Ow S' H k d v fp
  | 0, d, v, fp, q, ⟨p, e⟩ => ⟨Rp.af h d v q p, e⟩
  | k + 1, .lst ds, v, fp, q, ⟨a, xs, fq, e, ha, al, ef, nd⟩ => ⟨a, xs, fq, e, ha, al.af (k := k) (by simpa [PyL.af] using q) fun d x f z p => Ow.af h k d x f z p, ef, nd⟩
  | k + 1, .tup ds, v, fp, q, ⟨a, xs, e, n, r, al⟩ => ⟨a, xs, e, fun z => (h a z).notTup r, r, al.af (k := k) (by simpa [PyL.af] using q) fun d x f z p => Ow.af h k d x f z p⟩
  | k + 1, .scr K ns, v, _, q, ⟨p, e⟩ => ⟨Rp.af h (.scr K ns) v rfl p, e⟩
  | k + 1, .exc _ _ _ _ _, _, _, q, _ => by simp [PyL.af] at q
  | k + 1, .dK _, _, _, _, x => x
  | k + 1, .dT _, _, _, _, x => x
  | k + 1, .non, _, _, _, x => x
  | k + 1, .bl _, _, _, _, x => x
  | k + 1, .int _, _, _, _, x => x
  | k + 1, .str _, _, _, _, x => x

/-! ### outcomes -/
/-- an exception: its class, its fields -/
structure Exn where
  cls : Str
  fs : List (Str × D)
inductive Res (α : Type) where
  | ok (a : α) | exn (x : Exn) | bad
def Res.bind {α β : Type} : Res α → (α → Res β) → Res β
  | .ok a, f => f a
  | .exn x, _ => .exn x
  | .bad, _ => .bad
instance : Monad Res where
  pure := Res.ok
  bind := Res.bind

/-- a value: its datum, how deep it is one's own, the slots whose own parts it (its items) may hold -/
structure R where
  d : D
  k : Nat
  e : List Nat
  c : List Nat
abbrev Slot := Option (D × Nat)
abbrev Ev := List Slot
abbrev FE := Ev → Res R
end PyL

namespace PyL
open PySem PySem.Spec L2
set_option autoImplicit false

abbrev FP := Nat → List Addr
def inS (S0 : PA1) (F : FP) (e : List Nat) : PA1 := fun a => S0 a ∨ ∃ i, i ∉ e ∧ a ∈ F i

theorem same_upd {H : Hp} {p : Addr} {o : HO} (h : H p = none) : Same H (upd H p o) := fun b x e => by
  rw [upd_ne (ne_of_none e h)]
  exact e
theorem Same.none {H H' : Hp} (e : Same H H') {l : Addr} (h : H' l = Option.none) : H l = Option.none := e.free h

/-- the slots' values, for expressions -/
structure EE (S0 : PA1) (ρ : Ev) (σ : St) (H : Hp) (F : FP) : Prop where
  len : ρ.length = σ.length
  rep : ∀ i d k, ρ[i]? = some (some (d, k)) → ∃ v, σ[i]? = some (some v) ∧ Ow (inS S0 F []) H k d v (F i)
  disj : ∀ i j a, a ∈ F i → a ∈ F j → i = j
  trk : ∀ i a, a ∈ F i → TrM H a
  out : ∀ a, S0 a → TrM H a
  apart : ∀ i a, a ∈ F i → ¬ S0 a

theorem EE.inTr {S0 : PA1} {ρ : Ev} {σ : St} {H : Hp} {F : FP} (E : EE S0 ρ σ H F) {e : List Nat} {a : Addr} (h : inS S0 F e a) : TrM H a := by
  rcases h with h | ⟨i, _, h⟩
  · exact E.out a h
  · exact E.trk i a h
theorem EE.fresh {S0 : PA1} {ρ : Ev} {σ : St} {H : Hp} {F : FP} (E : EE S0 ρ σ H F) {e : List Nat} {a : Addr} (h : inS S0 F e a) (n : H a = none) : False := by
  obtain ⟨o, q, _⟩ := E.inTr h
  rw [n] at q; cases q
/-- the heap grows, more is forbidden -/
theorem EE.ext {S0 S1 : PA1} {ρ : Ev} {σ : St} {H H' : Hp} {F : FP} (E : EE S0 ρ σ H F) (sm : Same H H') (h1 : ∀ a, S1 a → S0 a ∨ H a = none) (h2 : ∀ a, S1 a → TrM H' a) : EE S1 ρ σ H' F where
  len := E.len
  rep := fun i d k h => by
    obtain ⟨v, e, o⟩ := E.rep i d k h
    refine ⟨v, e, Ow.imp (fun b o q n => ⟨sm _ _ q, fun z => ?_⟩) k d v _ (fun b o _ q => sm _ _ q) o⟩
    rcases z with z | ⟨j, hj, z⟩
    · rcases h1 b z with z | z
      · exact n (.inl z)
      · rw [z] at q; cases q
    · exact n (.inr ⟨j, hj, z⟩)
  disj := E.disj
  trk := fun i a h => (E.trk i a h).grow sm
  out := h2
  apart := fun i a h z => by
    rcases h1 a z with q | q
    · exact E.apart i a h q
    · obtain ⟨o, e, _⟩ := E.trk i a h
      rw [q] at e; cases e
theorem EE.grow {S0 : PA1} {ρ : Ev} {σ : St} {H H' : Hp} {F : FP} (E : EE S0 ρ σ H F) (sm : Same H H') : EE S0 ρ σ H' F :=
  E.ext sm (fun _ h => .inl h) fun a h => (E.out a h).grow sm

/-! ### slots that are frozen -/
def frz1 (i : Nat) (ρ : Ev) : Ev := match ρ[i]? with
  | some (some (d, _)) => ρ.set i (some (d, 0))
  | _ => ρ
def frzL : List Nat → Ev → Ev
  | [], ρ => ρ
  | i :: e, ρ => frzL e (frz1 i ρ)
def cutF (e : List Nat) (F : FP) : FP := fun j => if j ∈ e then [] else F j
theorem cutF_mem {e : List Nat} {F : FP} {j : Nat} {a : Addr} : a ∈ cutF e F j ↔ j ∉ e ∧ a ∈ F j := by
  unfold cutF
  split
  · simp_all
  · simp_all
theorem cutF_cons (i : Nat) (e : List Nat) (F : FP) : cutF (i :: e) F = cutF e (cutF [i] F) := by
  funext j
  unfold cutF
  by_cases h1 : j = i <;> by_cases h2 : j ∈ e <;> simp [h1, h2]
theorem cutF_nil (F : FP) : cutF [] F = F := by funext j; simp [cutF]
theorem inS_cut {S0 : PA1} {F : FP} {e e' : List Nat} {a : Addr} : inS S0 (cutF e F) e' a ↔ inS S0 F (e ++ e') a := by
  unfold inS
  constructor
  · rintro (h | ⟨i, h1, h2⟩)
    · exact .inl h
    · obtain ⟨h3, h4⟩ := cutF_mem.mp h2
      exact .inr ⟨i, by simp [h1, h3], h4⟩
  · rintro (h | ⟨i, h1, h2⟩)
    · exact .inl h
    · have : i ∉ e ∧ i ∉ e' := by simpa using h1
      exact .inr ⟨i, this.2, cutF_mem.mpr ⟨this.1, h2⟩⟩
theorem frz1_len (i : Nat) (ρ : Ev) : (frz1 i ρ).length = ρ.length := by
  unfold frz1
  split <;> simp
theorem frzL_len : ∀ (e : List Nat) (ρ : Ev), (frzL e ρ).length = ρ.length
  | [], _ => rfl
  | i :: e, ρ => by unfold frzL; rw [frzL_len e, frz1_len]
theorem EE.frz1 {S0 : PA1} {ρ : Ev} {σ : St} {H : Hp} {F : FP} (E : EE S0 ρ σ H F) (i : Nat) : EE S0 (frz1 i ρ) σ H (cutF [i] F) where
  len := by rw [frz1_len]; exact E.len
  rep := fun j d k h => by
    have sub : ∀ a, inS S0 (cutF [i] F) [] a → inS S0 F [] a := fun a z => by
      rcases z with z | ⟨n, _, z⟩
      · exact .inl z
      · exact .inr ⟨n, by simp, (cutF_mem.mp z).2⟩
    by_cases hj : j = i
    · subst hj
      unfold PyL.frz1 at h
      cases q : ρ[j]? with
      | none => rw [q] at h; simp only at h; rw [q] at h; cases h
      | some s =>
        cases s with
        | none => rw [q] at h; simp only at h; rw [q] at h; cases h
        | some p =>
          obtain ⟨d', k'⟩ := p
          rw [q] at h
          simp only at h
          rw [List.getElem?_set_self (List.getElem?_eq_some_iff.mp q).1] at h
          cases h
          obtain ⟨v, e, o⟩ := E.rep j d k' q
          refine ⟨v, e, Ow.frz (fun a _ _ z => sub a z) k' d v _ (fun a ha z => ?_) o, by simp [cutF]⟩
          rcases z with z | ⟨n, _, z⟩
          · exact E.apart j a ha z
          · obtain ⟨z1, z2⟩ := cutF_mem.mp z
            exact z1 (by simp [E.disj _ _ _ z2 ha])
    · have h' : ρ[j]? = some (some (d, k)) := by
        unfold PyL.frz1 at h
        split at h
        · rw [List.getElem?_set_ne (Ne.symm hj)] at h; exact h
        · exact h
      obtain ⟨v, e, o⟩ := E.rep j d k h'
      refine ⟨v, e, ?_⟩
      rw [show cutF [i] F j = F j by simp [cutF, hj]]
      exact Ow.imp (fun b o q n => ⟨q, fun z => n (sub b z)⟩) k d v _ (fun _ _ _ q => q) o
  disj := fun a b c h1 h2 => E.disj a b c (cutF_mem.mp h1).2 (cutF_mem.mp h2).2
  trk := fun j a h => E.trk j a (cutF_mem.mp h).2
  out := E.out
  apart := fun j a h => E.apart j a (cutF_mem.mp h).2
theorem EE.frzL {S0 : PA1} {σ : St} {H : Hp} : ∀ (e : List Nat) {ρ : Ev} {F : FP}, EE S0 ρ σ H F → EE S0 (frzL e ρ) σ H (cutF e F)
  | [], ρ, F, E => by rw [cutF_nil]; exact E
  | i :: e, ρ, F, E => by rw [cutF_cons]; exact EE.frzL e (E.frz1 i)

/-! ### a value -/
def ItD (S : PA1) (H : Hp) : D → V → Prop
  | .lst ds, v => ∃ a xs, v = .ref a ∧ H a = some (.lst xs) ∧ RpL S H ds xs
  | .tup ds, v => ∃ a xs, v = .ref a ∧ H a = some (.tup xs) ∧ RpL S H ds xs
  | _, _ => True
theorem ItD.imp {S S' : PA1} {H H' : Hp} (sm : Same H H') (h : ∀ b o, H b = some o → ¬ S b → ¬ S' b) : ∀ {d : D} {v : V}, ItD S H d v → ItD S' H' d v
  | .lst ds, _, ⟨a, xs, e, r, l⟩ => ⟨a, xs, e, sm _ _ r, RpL.imp (fun b o q n => ⟨sm _ _ q, h b o q n⟩) _ _ l⟩
  | .tup ds, _, ⟨a, xs, e, r, l⟩ => ⟨a, xs, e, sm _ _ r, RpL.imp (fun b o q n => ⟨sm _ _ q, h b o q n⟩) _ _ l⟩
  | .non, _, _ => trivial
  | .bl _, _, _ => trivial
  | .int _, _, _ => trivial
  | .str _, _, _ => trivial
  | .dK _, _, _ => trivial
  | .dT _, _, _ => trivial
  | .scr _ _, _, _ => trivial
  | .exc _ _ _ _ _, _, _ => trivial
theorem ItD.of {S : PA1} {H : Hp} : ∀ {d : D} {v : V}, Rp S H d v → ItD S H d v
  | .lst ds, _, ⟨a, xs, e, _, r, l⟩ => ⟨a, xs, e, r, l⟩
  | .tup ds, _, ⟨a, xs, e, _, r, l⟩ => ⟨a, xs, e, r, l⟩
  | .non, _, _ => trivial
  | .bl _, _, _ => trivial
  | .int _, _, _ => trivial
  | .str _, _, _ => trivial
  | .dK _, _, _ => trivial
  | .dT _, _, _ => trivial
  | .scr _ _, _, _ => trivial
  | .exc _ _ _ _ _, _, _ => trivial

structure VR (S0 : PA1) (F : FP) (H : Hp) (r : R) (v : V) (fp : List Addr) : Prop where
  ow : Ow (fun a => inS S0 F r.e a ∨ a ∈ fp) H r.k r.d v fp
  it : ItD (inS S0 F r.c) H r.d v
/-- .. frozen -/
structure Fz (S0 : PA1) (F : FP) (H : Hp) (r : R) (v : V) : Prop where
  rp : Rp (inS S0 F r.e) H r.d v
  it : ItD (inS S0 F r.c) H r.d v
theorem VR.fz {S0 : PA1} {F : FP} {H : Hp} {r : R} {v : V} {fp : List Addr} (h : VR S0 F H r v fp) (n : ∀ a ∈ fp, ¬ inS S0 F r.e a) : Fz S0 F H r v :=
  ⟨Ow.frz (fun _ _ _ z => .inl z) _ _ _ _ n h.ow, h.it⟩
theorem Fz.grow {S0 : PA1} {F : FP} {H H' : Hp} {r : R} {v : V} (h : Fz S0 F H r v) (sm : Same H H') : Fz S0 F H' r v :=
  ⟨Rp.imp (fun b o q n => ⟨sm _ _ q, n⟩) _ _ h.rp, h.it.imp sm fun _ _ _ n => n⟩
theorem Fz.vr {S0 : PA1} {F : FP} {H : Hp} {r : R} {v : V} (h : Fz S0 F H r v) (hk : r.k = 0) : VR S0 F H r v [] :=
  ⟨by rw [hk]; exact ⟨Rp.imp (fun b o q n => ⟨q, fun z => z.elim n (fun z => by cases z)⟩) _ _ h.rp, rfl⟩, h.it⟩
/-- a plain reading -/
abbrev Rr (H : Hp) (d : D) (v : V) : Prop := Rp (fun _ => False) H d v
theorem Fz.rr {S0 : PA1} {F : FP} {H : Hp} {r : R} {v : V} (h : Fz S0 F H r v) : Rr H r.d v := Rp.imp (fun b o q _ => ⟨q, fun z => z⟩) _ _ h.rp

/-- an exception's wish -/
abbrev WK := Str → Option Addr → St → Hp → Prop
def W0 : WK := fun _ _ _ _ => False
/-- an exception's fields -/
def repF (S : PA1) (fs : List (Str × D)) (d : Option Addr) (H : Hp) : Prop := ∃ l xs, XdAt S H d l ∧ RpL S H (fs.map (·.2)) xs ∧ ∀ p ∈ (fs.map (·.1)).zip xs, l.lookup p.1 = some p.2
theorem repF.imp {S S' : PA1} {H H' : Hp} {fs : List (Str × D)} {d : Option Addr} (h : ∀ b o, H b = some o → ¬ S b → H' b = some o ∧ ¬ S' b) (r : repF S fs d H) : repF S' fs d H' := by
  obtain ⟨l, xs, x, r, n⟩ := r
  exact ⟨l, xs, x.imp h, RpL.imp h _ _ r, n⟩
theorem repF.mono {S S' : PA1} {H : Hp} {fs : List (Str × D)} {d : Option Addr} (h : ∀ a, S' a → S a) (r : repF S fs d H) : repF S' fs d H := r.imp fun _ _ e n => ⟨e, fun z => n (h _ z)⟩

def Post (W : WK) (S0 : PA1) (F : FP) (σ : St) (H : Hp) (Q : VK) : Res R → Prop
  | .ok r => ∀ v H' fp, Same H H' → (∀ a ∈ fp, H a = none) → VR S0 F H' r v fp → Q v H'
  | .exn x => ∀ H', Same H H' → ∀ d, repF S0 x.fs d H' → W x.cls d σ H'
  | .bad => False
theorem Post.grow {W : WK} {S0 : PA1} {F : FP} {σ : St} {H H1 : Hp} {Q : VK} : ∀ {r : Res R}, Post W S0 F σ H Q r → Same H H1 → Post W S0 F σ H1 Q r
  | .ok r, h, sm => fun v H' fp s n q => h v H' fp (sm.trans s) (fun a ha => sm.free (n a ha)) q
  | .exn x, h, sm => fun H' s => h H' (sm.trans s)
  | .bad, h, _ => h
def rdE (W : WK) (f : FE) : TE := fun σ H Q => ∃ S0 ρ F, EE S0 ρ σ H F ∧ Post W S0 F σ H Q (f ρ)

abbrev FT := Ev → Res Bool
def PostT (W : WK) (S0 : PA1) (σ : St) (H : Hp) (Q : Bool → Hp → Prop) : Res Bool → Prop
  | .ok b => ∀ H', Same H H' → Q b H'
  | .exn x => ∀ H', Same H H' → ∀ d, repF S0 x.fs d H' → W x.cls d σ H'
  | .bad => False
theorem PostT.grow {W : WK} {S0 : PA1} {σ : St} {H H1 : Hp} {Q : Bool → Hp → Prop} : ∀ {r : Res Bool}, PostT W S0 σ H Q r → Same H H1 → PostT W S0 σ H1 Q r
  | .ok _, h, sm => fun H' s => h H' (sm.trans s)
  | .exn x, h, sm => fun H' s => h H' (sm.trans s)
  | .bad, h, _ => h
def rdT (W : WK) (f : FT) : TT := fun σ H Q => ∃ S0 ρ F, EE S0 ρ σ H F ∧ PostT W S0 σ H Q (f ρ)

/-- one after the other -/
theorem post_bind {W : WK} {S0 : PA1} {ρ : Ev} {F : FP} {σ : St} {H : Hp} {f : FE} {Q : VK} {g : R → Res R} {K : V → Hp → Prop} (E : EE S0 ρ σ H F) (h : Post W S0 F σ H Q ((f ρ).bind g))
    (k : ∀ r v H1 fp, Same H H1 → (∀ a ∈ fp, H a = none) → VR S0 F H1 r v fp → EE S0 ρ σ H1 F → Post W S0 F σ H1 Q (g r) → K v H1) : rdE W f σ H K := by
  refine ⟨S0, ρ, F, E, ?_⟩
  cases q : f ρ with
  | ok r =>
    rw [q] at h
    exact fun v H1 fp s n vr => k r v H1 fp s n vr (E.grow s) (Post.grow h s)
  | exn x => rw [q] at h; exact h
  | bad => rw [q] at h; exact h
theorem postT_bind {W : WK} {S0 : PA1} {ρ : Ev} {F : FP} {σ : St} {H : Hp} {f : FE} {Q : Bool → Hp → Prop} {g : R → Res Bool} {K : V → Hp → Prop} (E : EE S0 ρ σ H F) (h : PostT W S0 σ H Q ((f ρ).bind g))
    (k : ∀ r v H1 fp, Same H H1 → (∀ a ∈ fp, H a = none) → VR S0 F H1 r v fp → EE S0 ρ σ H1 F → PostT W S0 σ H1 Q (g r) → K v H1) : rdE W f σ H K := by
  refine ⟨S0, ρ, F, E, ?_⟩
  cases q : f ρ with
  | ok r =>
    rw [q] at h
    exact fun v H1 fp s n vr => k r v H1 fp s n vr (E.grow s) (PostT.grow h s)
  | exn x => rw [q] at h; exact h
  | bad => rw [q] at h; exact h
theorem tt_bind {W : WK} {S0 : PA1} {ρ : Ev} {F : FP} {σ : St} {H : Hp} {f : FT} {Q : Bool → Hp → Prop} {g : Bool → Res Bool} {K : Bool → Hp → Prop} (E : EE S0 ρ σ H F) (h : PostT W S0 σ H Q ((f ρ).bind g))
    (k : ∀ b H1, Same H H1 → EE S0 ρ σ H1 F → PostT W S0 σ H1 Q (g b) → K b H1) : rdT W f σ H K := by
  refine ⟨S0, ρ, F, E, ?_⟩
  cases q : f ρ with
  | ok b =>
    rw [q] at h
    exact fun H1 s => k b H1 s (E.grow s) (PostT.grow h s)
  | exn x => rw [q] at h; exact h
  | bad => rw [q] at h; exact h
theorem te_bind {W : WK} {S0 : PA1} {ρ : Ev} {F : FP} {σ : St} {H : Hp} {f : FT} {Q : VK} {g : Bool → Res R} {K : Bool → Hp → Prop} (E : EE S0 ρ σ H F) (h : Post W S0 F σ H Q ((f ρ).bind g))
    (k : ∀ b H1, Same H H1 → EE S0 ρ σ H1 F → Post W S0 F σ H1 Q (g b) → K b H1) : rdT W f σ H K := by
  refine ⟨S0, ρ, F, E, ?_⟩
  cases q : f ρ with
  | ok b =>
    rw [q] at h
    exact fun H1 s => k b H1 s (E.grow s) (Post.grow h s)
  | exn x => rw [q] at h; exact h
  | bad => rw [q] at h; exact h

theorem peI {X : Cx} {e : Expr} {t t' : TE} (h : PE X e t) (i : ∀ σ H Q, t' σ H Q → t σ H Q) : PE X e t' := ⟨fun pins s σ H Q I q => h.run pins s σ H Q I (i σ H Q q)⟩
theorem ptI {X : Cx} {e : Expr} {t t' : TT} (h : PT X e t) (i : ∀ σ H Q, t' σ H Q → t σ H Q) : PT X e t' := ⟨fun pins s σ H Q I q => h.run pins s σ H Q I (i σ H Q q)⟩
theorem pwI {X : Cx} {e : Expr} {t t' : TT} (h : PW X e t) (i : ∀ σ H Q, t' σ H Q → t σ H Q) : PW X e t' := ⟨fun w pins s σ H Q I q => h.run w pins s σ H Q I (i σ H Q q)⟩
theorem psI {X : Cx} {e : Stmt} {t t' : TS} (h : PS X e t) (i : ∀ D σ H, t' D σ H → t D σ H) : PS X e t' := ⟨fun pins s σ H D I q => h.run pins s σ H D I (i D σ H q)⟩
theorem pssI {X : Cx} {e : List Stmt} {t t' : TS} (h : PSs X e t) (i : ∀ D σ H, t' D σ H → t D σ H) : PSs X e t' := ⟨fun pins s σ H D I q => h.run pins s σ H D I (i D σ H q)⟩
theorem paI {X : Cx} {e : List Expr} {t t' : TA} (h : PA X e t) (i : ∀ σ H Q, t' σ H Q → t σ H Q) : PA X e t' := ⟨fun p pins s σ H Q I q => h.run p pins s σ H Q I (i σ H Q q)⟩
theorem piI {X : Cx} {tg e : Expr} {t t' : TI} (h : PI X tg e t) (i : ∀ σ H R, t' σ H R → t σ H R) : PI X tg e t' := ⟨fun pins s σ H R I q => h.run pins s σ H R I (i σ H R q)⟩
theorem piOr {X : Cx} {tg e : Expr} {t t' : TI} (h : PI X tg e t) (h' : PI X tg e t') : PI X tg e (fun σ H R => t σ H R ∨ t' σ H R) := ⟨fun pins s σ H R I q => q.elim (h.run pins s σ H R I) (h'.run pins s σ H R I)⟩

/-! ### names, constants -/
def scal : D → Bool
  | .non => true
  | .bl _ => true
  | .int _ => true
  | .str _ => true
  | _ => false
def al1 (i : Nat) (d : D) (k : Nat) : R := ⟨d, 0, if k = 0 || scal d then [] else [i], if k ≤ 1 || scal d then [] else [i]⟩
def fVar (i : Nat) : FE := fun ρ => match ρ[i]? with
  | some (some (d, k)) => .ok (al1 i d k)
  | _ => .bad
def fC (d : D) : FE := fun _ => .ok ⟨d, 0, [], []⟩

theorem scal_rp {S S' : PA1} {H H' : Hp} {d : D} {v : V} (h : scal d = true) (p : Rp S H d v) : Rp S' H' d v := by
  cases d <;> first | exact p | (simp [scal] at h)
theorem scal_ow {S S' : PA1} {H H' : Hp} {d : D} {v : V} {k : Nat} {fp : List Addr} (h : scal d = true) (p : Ow S H k d v fp) (k' : Nat) : Ow S' H' k' d v [] ∧ fp = [] := by
  cases k <;> cases k' <;> cases d <;> first | (simp [scal] at h; done) | exact ⟨⟨p.1, rfl⟩, p.2⟩
/-- what an owned value's items are outside of -/
theorem items_of {S : PA1} {H : Hp} {d : D} {v : V} {k : Nat} {fp : List Addr} {S' : PA1} (p : Ow S H k d v fp) (hs : ∀ a o, H a = some o → S' a → S a) (hk : k ≤ 1 ∨ ∀ a ∈ fp, ¬ S' a) : ItD S' H d v := by
  cases k with
  | zero => exact ItD.of (Rp.imp (fun b o e n => ⟨e, fun z => n (hs b o e z)⟩) d v p.1)
  | succ k =>
    cases d with
    | lst ds =>
      obtain ⟨a, xs, fq, e, ha, al, ef, nd⟩ := p
      refine ⟨a, xs, e, ha, al.toL fun d x f hf q => Ow.frz hs k d x f (fun b hb => ?_) q⟩
      rcases hk with hk | hk
      · have : k = 0 := by omega
        subst this
        rw [q.2] at hb; cases hb
      · exact hk b (by rw [ef]; exact List.mem_cons_of_mem _ (hf b hb))
    | tup ds =>
      obtain ⟨a, xs, e, n, r, al⟩ := p
      refine ⟨a, xs, e, r, al.toL fun d x f hf q => Ow.frz hs k d x f (fun b hb => ?_) q⟩
      rcases hk with hk | hk
      · have : k = 0 := by omega
        subst this
        rw [q.2] at hb; cases hb
      · exact hk b (hf b hb)
    | _ => trivial

theorem EE.var {S0 : PA1} {ρ : Ev} {σ : St} {H : Hp} {F : FP} (E : EE S0 ρ σ H F) {i : Nat} {d : D} {k : Nat} (h : ρ[i]? = some (some (d, k))) : ∃ v, σ[i]? = some (some v) ∧ Fz S0 F H (al1 i d k) v := by
  obtain ⟨v, e, o⟩ := E.rep i d k h
  have sub : ∀ (e : List Nat) a o, H a = some o → inS S0 F e a → inS S0 F [] a := fun e a _ _ z => by
    rcases z with z | ⟨n, _, z⟩
    · exact .inl z
    · exact .inr ⟨n, by simp, z⟩
  refine ⟨v, e, ?_, ?_⟩
  · by_cases hs : scal d = true
    · exact (scal_ow (S' := _) (H' := _) hs o 0).1.1
    · refine Ow.frz (sub _) k d v _ (fun a ha z => ?_) o
      unfold al1 at z
      by_cases hk : k = 0
      · subst hk; rw [o.2] at ha; cases ha
      · simp only [hk, hs, decide_false, Bool.or_self, Bool.false_eq_true, if_false] at z
        rcases z with z | ⟨n, hn, z⟩
        · exact E.apart i a ha z
        · exact hn (by simp [E.disj _ _ _ z ha])
  · by_cases hs : scal d = true
    · cases d <;> first | trivial | (simp [scal] at hs; done)
    · refine items_of o (sub _) ?_
      by_cases hk : k ≤ 1
      · exact .inl hk
      · refine .inr fun a ha z => ?_
        unfold al1 at z
        simp only [hk, hs, decide_false, Bool.or_self, Bool.false_eq_true, if_false] at z
        rcases z with z | ⟨n, hn, z⟩
        · exact E.apart i a ha z
        · exact hn (by simp [E.disj _ _ _ z ha])

section
variable {X : Cx} {W : WK}
theorem e_var (i : Nat) {x : Str} {pos : Pos} (hN : X.N[i]? = some x := by rfl) (hv : Vis X.env.scope x := by first | exact Or.inl rfl | exact Or.inr (Or.inl rfl) | exact Or.inr (Or.inr rfl)) (hd : (x == ("__debug__" : Str)) = false := by decide)
    (hcd : (x == ("__classdict__" : Str)) = false := by decide) : PE X (.Name x pos) (rdE W (fVar i)) := by
  refine peI (pe_var (i := i) hN hv hd hcd) fun σ H Q h => ?_
  obtain ⟨S0, ρ, F, E, p⟩ := h
  unfold fVar at p
  cases q : ρ[i]? with
  | none => rw [q] at p; exact p.elim
  | some s =>
    cases s with
    | none => rw [q] at p; exact p.elim
    | some dk =>
      obtain ⟨d, k⟩ := dk
      rw [q] at p
      obtain ⟨v, e, z⟩ := E.var q
      exact ⟨v, e, p v H [] (Same.refl H) (fun a ha => by cases ha) (z.vr rfl)⟩
theorem e_int {i j pos} : PE X (.Constant (.int i) j pos) (rdE W (fC (.int i))) := peI pe_int fun σ H Q ⟨S0, ρ, F, E, p⟩ => p _ H [] (Same.refl H) (fun a ha => by cases ha) ⟨⟨rfl, rfl⟩, trivial⟩
theorem e_bl {b j pos} : PE X (.Constant (.bool b) j pos) (rdE W (fC (.bl b))) := peI pe_bl fun σ H Q ⟨S0, ρ, F, E, p⟩ => p _ H [] (Same.refl H) (fun a ha => by cases ha) ⟨⟨rfl, rfl⟩, trivial⟩
theorem e_non {j pos} : PE X (.Constant .none j pos) (rdE W (fC .non)) := peI pe_non fun σ H Q ⟨S0, ρ, F, E, p⟩ => p _ H [] (Same.refl H) (fun a ha => by cases ha) ⟨⟨rfl, rfl⟩, trivial⟩
theorem e_str {x j pos} : PE X (.Constant (.str x) j pos) (rdE W (fC (.str x))) := peI pe_str fun σ H Q ⟨S0, ρ, F, E, p⟩ => p _ H [] (Same.refl H) (fun a ha => by cases ha) ⟨⟨rfl, rfl⟩, trivial⟩
end
end PyL

namespace PyL
open PySem PySem.Spec L2
set_option autoImplicit false

/-! ### two values, by an operator -/
abbrev G2 := R → R → Res R
def OpOk (r2 : R2) (g : G2) : Prop := ∀ (S0 : PA1) (ρ : Ev) (σ : St) (H : Hp) (F : FP) (W : WK) (ra rb : R) (x y : V) (Q : VK), EE S0 ρ σ H F → Fz S0 F H ra x → Fz S0 F H rb y → Post W S0 F σ H Q (g ra rb) → r2 x y H Q
def fBin (g : G2) (fa fb : FE) : FE := fun ρ => (fa ρ).bind fun ra => (fb ρ).bind fun rb => g ra rb
def toB (r : R) : Res Bool := match r.d with
  | .bl b => .ok b
  | _ => .bad
def fTest (f : FE) : FT := fun ρ => (f ρ).bind toB

theorem EE.nin {S0 : PA1} {ρ : Ev} {σ : St} {H : Hp} {F : FP} (E : EE S0 ρ σ H F) {fp : List Addr} (n : ∀ a ∈ fp, H a = none) (e : List Nat) : ∀ a ∈ fp, ¬ inS S0 F e a := fun a ha z => E.fresh z (n a ha)

theorem rd_bin {W : WK} {fa fb : FE} {g : G2} {r2 : R2} (hg : OpOk r2 g) {σ : St} {H : Hp} {Q : VK} (h : rdE W (fBin g fa fb) σ H Q) : tOp r2 (rdE W fa) (rdE W fb) σ H Q := by
  obtain ⟨S0, ρ, F, E, p⟩ := h
  refine post_bind E p fun ra x H1 fp1 s1 n1 v1 E1 p1 => post_bind E1 p1 fun rb y H2 fp2 s2 n2 v2 E2 p2 => ?_
  exact hg S0 ρ σ H2 F W ra rb x y Q E2 ((v1.fz (E.nin n1 _)).grow s2) (v2.fz (E1.nin n2 _)) p2

/-- a scalar as an outcome -/
def scR (d : D) : R := ⟨d, 0, [], []⟩
theorem post_sc {W : WK} {S0 : PA1} {F : FP} {σ : St} {H : Hp} {Q : VK} {d : D} {v : V} (h : Post W S0 F σ H Q (.ok (scR d))) (hr : Rp (fun a => inS S0 F [] a ∨ a ∈ ([] : List Addr)) H d v) (hs : scal d = true) : Q v H :=
  h v H [] (Same.refl H) (fun a ha => by cases ha) ⟨⟨hr, rfl⟩, by cases d <;> first | trivial | (simp [scal] at hs)⟩
theorem post_sc' {W : WK} {S0 : PA1} {F : FP} {σ : St} {H H' : Hp} {Q : VK} {d : D} {v : V} (h : Post W S0 F σ H Q (.ok (scR d))) (sm : Same H H') (hr : Rp (fun a => inS S0 F [] a ∨ a ∈ ([] : List Addr)) H' d v) (hs : scal d = true) : Q v H' :=
  h v H' [] sm (fun a ha => by cases ha) ⟨⟨hr, rfl⟩, by cases d <;> first | trivial | (simp [scal] at hs)⟩
/-- a new list whose items are as those of known values -/
theorem post_lst {W : WK} {S0 : PA1} {ρ : Ev} {F : FP} {σ : St} {H : Hp} {Q : VK} {ds : List D} {c : List Nat} {xs : List V} (E : EE S0 ρ σ H F) (h : Post W S0 F σ H Q (.ok ⟨.lst ds, 1, c, c⟩)) (hl : RpL (inS S0 F c) H ds xs) :
    ∀ p, H p = none → Q (.ref p) (upd H p (.lst xs)) := fun p np => by
  have sm := same_upd (o := .lst xs) np
  have L : RpL (fun a => inS S0 F c a ∨ a ∈ [p]) (upd H p (.lst xs)) ds xs := RpL.imp (fun b o q n => ⟨sm _ _ q, fun z => z.elim n fun z => ne_of_none q np (List.mem_singleton.mp z)⟩) _ _ hl
  have al : ∀ (ds : List D) (xs : List V), RpL (fun a => inS S0 F c a ∨ a ∈ [p]) (upd H p (.lst (xs))) ds xs → True := fun _ _ _ => trivial
  refine h _ _ [p] sm (fun a ha => by rw [List.mem_singleton.mp ha]; exact np) ⟨⟨p, xs, [], rfl, upd_same, ?_, rfl, by simp⟩, ⟨p, xs, rfl, upd_same, RpL.imp (fun b o q n => ⟨q, fun z => n (.inl z)⟩) _ _ L⟩⟩
  have go : ∀ {ds : List D} {xs : List V} {S : PA1} {K : Hp}, RpL S K ds xs → AllF (Ow S K 0) ds xs [] := by
    intro ds
    induction ds with
    | nil => intro xs S K h; exact ⟨h, rfl⟩
    | cons d ds ih => intro xs S K h; obtain ⟨x, r, e, p, q⟩ := h; exact ⟨x, r, [], [], e, ⟨p, rfl⟩, ih q, rfl, by simp⟩
  exact go L
theorem post_tup {W : WK} {S0 : PA1} {ρ : Ev} {F : FP} {σ : St} {H : Hp} {Q : VK} {ds : List D} {c : List Nat} {xs : List V} (E : EE S0 ρ σ H F) (h : Post W S0 F σ H Q (.ok ⟨.tup ds, 0, c, c⟩)) (hl : RpL (inS S0 F c) H ds xs) :
    ∀ p, H p = none → Q (.ref p) (upd H p (.tup xs)) := fun p np => by
  have sm := same_upd (o := .tup xs) np
  have L : RpL (inS S0 F c) (upd H p (.tup xs)) ds xs := RpL.imp (fun b o q n => ⟨sm _ _ q, n⟩) _ _ hl
  refine h _ _ [] sm (fun a ha => by cases ha) ⟨⟨⟨p, xs, rfl, fun z => z.elim (fun z => E.fresh z np) (fun z => by cases z), upd_same, RpL.imp (fun b o q n => ⟨q, fun z => z.elim n (fun z => by cases z)⟩) _ _ L⟩, rfl⟩, ⟨p, xs, rfl, upd_same, L⟩⟩
/-- an item of a known value -/
def itemR (r : R) (d : D) : R := if af 0 d then scR d else ⟨d, 0, r.c, r.c⟩
theorem post_item {W : WK} {S0 : PA1} {ρ : Ev} {F : FP} {σ : St} {H : Hp} {Q : VK} {d : D} {c : R} {v : V} (E : EE S0 ρ σ H F) (h : Post W S0 F σ H Q (.ok (itemR c d))) (hr : Rp (inS S0 F c.c) H d v) : Q v H := by
  unfold itemR at h
  by_cases hs : af 0 d = true
  · rw [if_pos hs] at h
    have hr' : Rp (inS S0 F []) H d v := Rp.af (fun a z => E.inTr z) d v hs hr
    exact h v H [] (Same.refl H) (fun a ha => by cases ha) ⟨⟨Rp.imp (fun b o q n => ⟨q, fun z => z.elim n (fun z => by cases z)⟩) _ _ hr', rfl⟩, ItD.of hr'⟩
  · rw [if_neg hs] at h
    exact h v H [] (Same.refl H) (fun a ha => by cases ha) ⟨⟨Rp.imp (fun b o q n => ⟨q, fun z => z.elim n (fun z => by cases z)⟩) _ _ hr, rfl⟩, ItD.of hr⟩

theorem Fz.lst {S0 : PA1} {F : FP} {H : Hp} {r : R} {v : V} {ds : List D} (h : Fz S0 F H r v) (e : r.d = .lst ds) : ∃ a xs, v = .ref a ∧ H a = some (.lst xs) ∧ RpL (inS S0 F r.c) H ds xs := by
  have := h.it
  rw [e] at this
  exact this
theorem Fz.tup {S0 : PA1} {F : FP} {H : Hp} {r : R} {v : V} {ds : List D} (h : Fz S0 F H r v) (e : r.d = .tup ds) : ∃ a xs, v = .ref a ∧ H a = some (.tup xs) ∧ RpL (inS S0 F r.c) H ds xs := by
  have := h.it
  rw [e] at this
  exact this
theorem Fz.int {S0 : PA1} {F : FP} {H : Hp} {r : R} {v : V} {i : Int} (h : Fz S0 F H r v) (e : r.d = .int i) : v = .int i := by
  have := h.rp; rw [e] at this; exact this
theorem Fz.bl {S0 : PA1} {F : FP} {H : Hp} {r : R} {v : V} {i : Bool} (h : Fz S0 F H r v) (e : r.d = .bl i) : v = .bl i := by
  have := h.rp; rw [e] at this; exact this
theorem Fz.str {S0 : PA1} {F : FP} {H : Hp} {r : R} {v : V} {i : Str} (h : Fz S0 F H r v) (e : r.d = .str i) : v = .str i := by
  have := h.rp; rw [e] at this; exact this
theorem inS_mono {S0 : PA1} {F : FP} {e e' : List Nat} {a : Addr} (h : ∀ i ∈ e, i ∈ e') (z : inS S0 F e' a) : inS S0 F e a := by
  rcases z with z | ⟨i, hi, z⟩
  · exact .inl z
  · exact .inr ⟨i, fun q => hi (h i q), z⟩
theorem RpL.weak {S0 : PA1} {F : FP} {H : Hp} {e e' : List Nat} {ds : List D} {xs : List V} (h : ∀ i ∈ e, i ∈ e') (l : RpL (inS S0 F e) H ds xs) : RpL (inS S0 F e') H ds xs :=
  RpL.imp (fun b o q n => ⟨q, fun z => n (inS_mono h z)⟩) _ _ l
theorem Rp.weak {S0 : PA1} {F : FP} {H : Hp} {e e' : List Nat} {d : D} {x : V} (h : ∀ i ∈ e, i ∈ e') (l : Rp (inS S0 F e) H d x) : Rp (inS S0 F e') H d x :=
  Rp.imp (fun b o q n => ⟨q, fun z => n (inS_mono h z)⟩) _ _ l

def okI (i : Int) : Res R := .ok (scR (.int i))
def okB (b : Bool) : Res R := .ok (scR (.bl b))
theorem okI_post {W : WK} {S0 : PA1} {F : FP} {σ : St} {H : Hp} {Q : VK} {i : Int} (h : Post W S0 F σ H Q (okI i)) : Q (.int i) H := post_sc h rfl rfl
theorem okB_post {W : WK} {S0 : PA1} {F : FP} {σ : St} {H : Hp} {Q : VK} {i : Bool} (h : Post W S0 F σ H Q (okB i)) : Q (.bl i) H := post_sc h rfl rfl
theorem okB_post' {W : WK} {S0 : PA1} {F : FP} {σ : St} {H H' : Hp} {Q : VK} {i : Bool} (h : Post W S0 F σ H Q (okB i)) (sm : Same H H') : Q (.bl i) H' := post_sc' h sm rfl rfl

/-! ### + - * // % ** -/
def gAdd : G2 := fun ra rb => match ra.d, rb.d with
  | .int i, .int j => okI (i + j)
  | .lst xs, .lst ys => if xs.length + ys.length ≤ sizeLine then .ok ⟨.lst (xs ++ ys), 1, ra.c ++ rb.c, ra.c ++ rb.c⟩ else .bad
  | .tup xs, .tup ys => if xs.length + ys.length ≤ sizeLine ∧ xs ≠ [] ∧ ys ≠ [] then .ok ⟨.tup (xs ++ ys), 0, ra.c ++ rb.c, ra.c ++ rb.c⟩ else .bad
  | .str x, .str y => if x.length + y.length ≤ sizeLine then .ok (scR (.str (x ++ y))) else .bad
  | _, _ => .bad
def rAddA (K : PySem.W.Frag) : R2 := fun x y H Q => (∃ i j, x = .int i ∧ y = .int j ∧ Q (.int (i + j)) H) ∨ rCat x y H Q ∨ rCatA K x y H Q ∨ (∃ i j, x = .str i ∧ y = .str j ∧ i.length + j.length ≤ sizeLine ∧ Q (.str (i ++ j)) H)
theorem or_add {X : Cx} : OpR X (binaryOp .Add) (rAddA X.K) := op_add.or (op_cat.or (op_catA.or op_add_str))
theorem ok_add {K : PySem.W.Frag} : OpOk (rAddA K) gAdd := by
  intro S0 ρ σ H F W ra rb x y Q E hx hy p
  unfold gAdd at p
  split at p
  · rename_i i j ea eb
    exact .inl ⟨i, j, hx.int ea, hy.int eb, okI_post p⟩
  · rename_i xs ys ea eb
    split at p
    · rename_i hz
      obtain ⟨a, us, rfl, ha, la⟩ := hx.lst ea
      obtain ⟨b, ws, rfl, hb, lb⟩ := hy.lst eb
      refine .inr (.inl ⟨a, b, us, ws, rfl, rfl, ha, hb, by rw [← la.length, ← lb.length]; exact hz, ?_⟩)
      exact post_lst E p ((la.weak fun i h => List.mem_append_left _ h).append (lb.weak fun i h => List.mem_append_right _ h))
    · exact p.elim
  · rename_i xs ys ea eb
    split at p
    · rename_i hz
      obtain ⟨hz, n1, n2⟩ := hz
      obtain ⟨a, us, rfl, ha, la⟩ := hx.tup ea
      obtain ⟨b, ws, rfl, hb, lb⟩ := hy.tup eb
      have m1 : us ≠ [] := fun z => by rw [z] at la; have := la.length; exact n1 (List.eq_nil_of_length_eq_zero this)
      have m2 : ws ≠ [] := fun z => by rw [z] at lb; have := lb.length; exact n2 (List.eq_nil_of_length_eq_zero this)
      refine .inr (.inr (.inl ⟨a, b, us, ws, rfl, rfl, SqT.of ha, SqT.of hb, by rw [← la.length, ← lb.length]; exact hz, fun z => absurd z m1, fun _ z => absurd z m2, fun _ _ => ?_⟩))
      exact post_tup E p ((la.weak fun i h => List.mem_append_left _ h).append (lb.weak fun i h => List.mem_append_right _ h))
    · exact p.elim
  · rename_i i j ea eb
    split at p
    · rename_i hz
      exact .inr (.inr (.inr ⟨i, j, hx.str ea, hy.str eb, hz, post_sc p rfl rfl⟩))
    · exact p.elim
  · exact p.elim

def gSub : G2 := fun ra rb => match ra.d, rb.d with
  | .int i, .int j => okI (i - j)
  | _, _ => .bad
theorem ok_sub : OpOk (rI0 fun i j => .int (i - j)) gSub := by
  intro S0 ρ σ H F W ra rb x y Q E hx hy p
  unfold gSub at p
  split at p
  · rename_i i j ea eb
    exact ⟨i, j, hx.int ea, hy.int eb, okI_post p⟩
  · exact p.elim

def CMulL (i j : Int) : Prop := i.natAbs.log2 + j.natAbs.log2 < 134000000
instance (i j : Int) : Decidable (CMulL i j) := inferInstanceAs (Decidable (_ < _))
theorem CMulL.ok {i j : Int} (h : CMulL i j) : IntMulOk i j := by
  have b : ∀ x : Int, Builtin.Int.intBits x ≤ x.natAbs.log2 + 1 := fun x => by
    unfold Builtin.Int.intBits
    split <;> omega
  have h1 := b i
  have h2 := b j
  have h3 : i.natAbs.log2 + j.natAbs.log2 < 134000000 := h
  have e : bitsLine = 134217728 := by decide
  unfold IntMulOk
  intro z
  rw [Bool.and_eq_true] at z
  have z2 := z.2
  unfold Builtin.Int.intTooBig at z2
  have z3 := of_decide_eq_true z2
  rw [e] at z3
  omega
theorem op_mulL {X : Cx} : OpR X (binaryOp .Mult) (rI CMulL fun i j => .int (i * j)) := opI fun _ _ _ _ _ _ _ hc q => PyProof.Rows.mul_int q hc.ok
def repL (xs : List D) (k : Int) : List D := (List.replicate k.toNat xs).flatten
def gMul : G2 := fun ra rb => match ra.d, rb.d with
  | .int i, .int j => if CMulL i j then okI (i * j) else .bad
  | .lst xs, .int k => if -(2 ^ 63) ≤ k ∧ k < 2 ^ 63 ∧ xs.length * k.toNat ≤ sizeLine then .ok ⟨.lst (repL xs k), 1, ra.c, ra.c⟩ else .bad
  | _, _ => .bad
theorem RpL.rep {S : PA1} {H : Hp} {ds : List D} {xs : List V} (h : RpL S H ds xs) : ∀ k : Nat, RpL S H (List.replicate k ds).flatten (List.replicate k xs).flatten
  | 0 => rfl
  | k + 1 => by
    rw [List.replicate_succ, List.flatten_cons, List.replicate_succ, List.flatten_cons]
    exact h.append (h.rep k)
theorem ok_mul : OpOk (fun x y H Q => rI CMulL (fun i j => .int (i * j)) x y H Q ∨ rRep x y H Q) gMul := by
  intro S0 ρ σ H F W ra rb x y Q E hx hy p
  unfold gMul at p
  split at p
  · rename_i i j ea eb
    split at p
    · rename_i hc
      exact .inl ⟨i, j, hx.int ea, hy.int eb, hc, okI_post p⟩
    · exact p.elim
  · rename_i xs k ea eb
    split at p
    · rename_i hz
      obtain ⟨h1, h2, hz⟩ := hz
      obtain ⟨a, us, rfl, ha, la⟩ := hx.lst ea
      refine .inr ⟨a, k, us, rfl, hy.int eb, ha, h1, h2, by rw [← la.length]; exact hz, ?_⟩
      exact post_lst E p (la.rep _)
    · exact p.elim
  · exact p.elim

def CDivL (i j : Int) : Prop := j ≠ 0 ∧ (j.natAbs.log2 < 9000 ∨ i.natAbs.log2 < j.natAbs.log2 + 4400)
instance (i j : Int) : Decidable (CDivL i j) := inferInstanceAs (Decidable (_ ∧ _))
theorem noPy2 {x y : Int} (h : y.natAbs.log2 < 9000 ∨ x.natAbs.log2 < y.natAbs.log2 + 4400) (h0 : y ≠ 0) : Builtin.divisionGoesByPylong x y = false := by
  rcases h with h | h
  · exact PyProof.noPylong_of_log2 h
  · have key : (if x == 0 then 0 else x.natAbs.log2 / 30 + 1) ≤ (if y == 0 then 0 else y.natAbs.log2 / 30 + 1) + 150 := by
      rw [if_neg (show ¬ (y == 0) = true by simpa using h0)]
      split <;> omega
    show (decide ((if y == 0 then 0 else y.natAbs.log2 / 30 + 1) > 300) && decide ((if x == 0 then 0 else x.natAbs.log2 / 30 + 1) > (if y == 0 then 0 else y.natAbs.log2 / 30 + 1) + 150)) = false
    rw [decide_eq_false (Nat.not_lt.mpr key), Bool.and_false]
theorem op_fdivL {X : Cx} : OpR X (binaryOp .FloorDiv) (rI CDivL fun i j => .int (i.fdiv j)) := opI fun i j _ _ _ _ _ hc q => PyProof.Rows.floordiv_int hc.1 q (.inl (noPy2 hc.2 hc.1))
def gDiv : G2 := fun ra rb => match ra.d, rb.d with
  | .int i, .int j => if CDivL i j then okI (i.fdiv j) else .bad
  | _, _ => .bad
theorem ok_div : OpOk (rI CDivL fun i j => .int (i.fdiv j)) gDiv := by
  intro S0 ρ σ H F W ra rb x y Q E hx hy p
  unfold gDiv at p
  split at p
  · rename_i i j ea eb
    split at p
    · rename_i hc
      exact ⟨i, j, hx.int ea, hy.int eb, hc, okI_post p⟩
    · exact p.elim
  · exact p.elim
def gMod : G2 := fun ra rb => match ra.d, rb.d with
  | .int i, .int j => if j ≠ 0 then okI (i.fmod j) else .bad
  | _, _ => .bad
theorem ok_mod : OpOk (rI (fun _ j => j ≠ 0) fun i j => .int (i.fmod j)) gMod := by
  intro S0 ρ σ H F W ra rb x y Q E hx hy p
  unfold gMod at p
  split at p
  · rename_i i j ea eb
    split at p
    · rename_i hc
      exact ⟨i, j, hx.int ea, hy.int eb, hc, okI_post p⟩
    · exact p.elim
  · exact p.elim
instance (i j : Int) : Decidable (CPow i j) := inferInstanceAs (Decidable (_ ∧ _ ∧ _))
def gPow : G2 := fun ra rb => match ra.d, rb.d with
  | .int i, .int j => if CPow i j then okI (i ^ j.toNat) else .bad
  | _, _ => .bad
theorem ok_pow : OpOk (rI CPow fun i j => .int (i ^ j.toNat)) gPow := by
  intro S0 ρ σ H F W ra rb x y Q E hx hy p
  unfold gPow at p
  split at p
  · rename_i i j ea eb
    split at p
    · rename_i hc
      exact ⟨i, j, hx.int ea, hy.int eb, hc, okI_post p⟩
    · exact p.elim
  · exact p.elim

/-! ### comparisons of ints -/
def gCmp (f : Int → Int → Bool) : G2 := fun ra rb => match ra.d, rb.d with
  | .int i, .int j => okB (f i j)
  | _, _ => .bad
theorem ok_cmp (f : Int → Int → Bool) : OpOk (rI0 fun i j => .bl (f i j)) (gCmp f) := by
  intro S0 ρ σ H F W ra rb x y Q E hx hy p
  unfold gCmp at p
  split at p
  · rename_i i j ea eb
    exact ⟨i, j, hx.int ea, hy.int eb, okB_post p⟩
  · exact p.elim
def gLt := gCmp fun i j => decide (i < j)
def gLe := gCmp fun i j => decide (i ≤ j)
def gGt := gCmp fun i j => decide (j < i)
def gGe := gCmp fun i j => decide (j ≤ i)
theorem ok_lt : OpOk (rI0 fun i j => .bl (decide (i < j))) gLt := ok_cmp _
theorem ok_le : OpOk (rI0 fun i j => .bl (decide (i ≤ j))) gLe := ok_cmp _
theorem ok_gt : OpOk (rI0 fun i j => .bl (decide (j < i))) gGt := ok_cmp _
theorem ok_ge : OpOk (rI0 fun i j => .bl (decide (j ≤ i))) gGe := ok_cmp _

/-! ### == and in, of data -/
mutual
def toPy : D → PyData
  | .non => .none
  | .bl b => .bool b
  | .int i => .int i
  | .str x => .str x
  | .lst ds => .list (toPyL ds)
  | .tup ds => .tuple (toPyL ds)
  | .dK _ => .none
  | .dT _ => .none
  | .scr _ _ => .none
  | .exc _ _ _ _ _ => .none
def toPyL : List D → List PyData
  | [] => []
  | d :: ds => toPy d :: toPyL ds
end
/-! plain: no dict, not too deep -/
mutual
def pln : Nat → D → Bool
  | _, .non => true
  | _, .bl _ => true
  | _, .int _ => true
  | _, .str _ => true
  | 0, .lst _ => false
  | 0, .tup _ => false
  | n + 1, .lst ds => plnL n ds
  | n + 1, .tup ds => plnL n ds
  | _, .dK _ => false
  | _, .dT _ => false
  | _, .scr _ _ => false
  | _, .exc _ _ _ _ _ => false
def plnL : Nat → List D → Bool
  | _, [] => true
  | n, d :: ds => pln n d && plnL n ds
end
mutual
def deq : D → D → Bool
  | .non, .non => true
  | .bl a, .bl b => a == b
  | .bl a, .int j => (if a then 1 else 0) == j
  | .int i, .bl b => i == (if b then 1 else 0)
  | .int i, .int j => i == j
  | .str x, .str y => x == y
  | .lst xs, .lst ys => deqL xs ys
  | .tup xs, .tup ys => deqL xs ys
  | _, _ => false
def deqL : List D → List D → Bool
  | [], [] => true
  | x :: xs, y :: ys => deq x y && deqL xs ys
  | _, _ => false
end
end PyL

namespace PyL
open PySem PySem.Spec L2
set_option autoImplicit false

/-! ### data of the model -/
mutual
theorem pln_plain : ∀ (n : Nat) (d : D), pln n d = true → (toPy d).plain = true ∧ (toPy d).depth ≤ n
  | _, .non, _ => ⟨rfl, Nat.zero_le _⟩
  | _, .bl _, _ => ⟨rfl, Nat.zero_le _⟩
  | _, .int _, _ => ⟨rfl, Nat.zero_le _⟩
  | _, .str _, _ => ⟨rfl, Nat.zero_le _⟩
  | 0, .lst _, h => by simp [pln] at h
  | 0, .tup _, h => by simp [pln] at h
  | n + 1, .lst ds, h => by
    have q := plnL_plain n ds (by simpa [pln] using h)
    simp only [toPy, PyData.plain, PyData.depth]
    exact ⟨q.1, by omega⟩
  | n + 1, .tup ds, h => by
    have q := plnL_plain n ds (by simpa [pln] using h)
    simp only [toPy, PyData.plain, PyData.depth]
    exact ⟨q.1, by omega⟩
  | _, .dK _, h => by simp [pln] at h
  | _, .dT _, h => by simp [pln] at h
  | _, .scr _ _, h => by simp [pln] at h
  | _, .exc _ _ _ _ _, h => by simp [pln] at h
theorem plnL_plain : ∀ (n : Nat) (ds : List D), plnL n ds = true → PyData.plainAll (toPyL ds) = true ∧ PyData.depthAll (toPyL ds) ≤ n
  | _, [], _ => ⟨rfl, Nat.zero_le _⟩
  | n, d :: ds, h => by
    simp only [plnL, Bool.and_eq_true] at h
    have q1 := pln_plain n d h.1
    have q2 := plnL_plain n ds h.2
    simp only [toPyL, PyData.plainAll, PyData.depthAll, q1.1, q2.1, Bool.and_self, true_and]
    omega
end
mutual
theorem deq_py : ∀ (n : Nat) (a b : D), pln n a = true → pln n b = true → PyData.eqv (toPy a) (toPy b) = deq a b
  | n, a, b, ha, hb => by
    cases a <;> cases b <;> first | (simp [pln] at ha; done) | (simp [pln] at hb; done) | rfl | skip
    · cases n with
      | zero => simp [pln] at ha
      | succ n => exact deqL_py n _ _ (by simpa [pln] using ha) (by simpa [pln] using hb)
    · cases n with
      | zero => simp [pln] at ha
      | succ n => exact deqL_py n _ _ (by simpa [pln] using ha) (by simpa [pln] using hb)
theorem deqL_py : ∀ (n : Nat) (a b : List D), plnL n a = true → plnL n b = true → PyData.eqvAll (toPyL a) (toPyL b) = deqL a b
  | _, [], [], _, _ => rfl
  | _, [], _ :: _, _, _ => rfl
  | _, _ :: _, [], _, _ => rfl
  | n, x :: xs, y :: ys, ha, hb => by
    simp only [plnL, Bool.and_eq_true] at ha hb
    simp only [toPyL, PyData.eqvAll, deqL]
    rw [deq_py n x y ha.1 hb.1, deqL_py n xs ys ha.2 hb.2]
end
mutual
theorem Rp.dp {K : PySem.W.Frag} {S : PA1} {H : Hp} (n : Nat) : ∀ (d : D) (v : V), pln n d = true → Rp S H d v → Dp K H v (toPy d)
  | .non, _, _, h => by cases h; exact .non
  | .bl b, _, _, h => by cases h; exact .bl b
  | .int i, _, _, h => by cases h; exact .int i
  | .str x, _, _, h => by cases h; exact .str x
  | .lst ds, _, q, ⟨a, xs, e, _, r, l⟩ => by
    cases n with
    | zero => simp [pln] at q
    | succ n => rw [e]; exact .lst (SqL.of r) (RpL.dp n ds xs (by simpa [pln] using q) l)
  | .tup ds, _, q, ⟨a, xs, e, _, r, l⟩ => by
    cases n with
    | zero => simp [pln] at q
    | succ n => rw [e]; exact .tup (SqT.of r) (RpL.dp n ds xs (by simpa [pln] using q) l)
  | .dK _, _, h, _ => by simp [pln] at h
  | .dT _, _, h, _ => by simp [pln] at h
  | .scr _ _, _, h, _ => by simp [pln] at h
  | .exc _ _ _ _ _, _, h, _ => by simp [pln] at h
theorem RpL.dp {K : PySem.W.Frag} {S : PA1} {H : Hp} (n : Nat) : ∀ (ds : List D) (xs : List V), plnL n ds = true → RpL S H ds xs → DpAll K H xs (toPyL ds)
  | [], _, _, h => by rw [show _ = [] from h]; exact .nil
  | d :: ds, _, q, ⟨x, r, e, p, l⟩ => by
    simp only [plnL, Bool.and_eq_true] at q
    rw [e]
    exact .cons (Rp.dp n d x q.1 p) (RpL.dp n ds r q.2 l)
end

def rEqP (K : PySem.W.Frag) : R2 := fun x y H Q => ∃ d e, Dp K H x d ∧ Dp K H y e ∧ d.plain = true ∧ e.plain = true ∧ d.depth ≤ 60 ∧ Q (.bl (PyData.eqv d e)) H
def rNeP (K : PySem.W.Frag) : R2 := fun x y H Q => ∃ d e, Dp K H x d ∧ Dp K H y e ∧ d.plain = true ∧ e.plain = true ∧ d.depth ≤ 60 ∧ Q (.bl (!PyData.eqv d e)) H
def rInP (K : PySem.W.Frag) (neg : Bool) : R2 := fun x y H Q => ∃ d ds, Dp K H x d ∧ (Dp K H y (.list ds) ∨ Dp K H y (.tuple ds)) ∧ d.plain = true ∧ PyData.plainAll ds = true ∧ d.depth ≤ 60 ∧ Q (.bl (if neg then !(ds.any fun z => PyData.eqv z d) else ds.any fun z => PyData.eqv z d)) H
section
variable {X : Cx}
theorem or_eq (hu : X.A.units + 62 < cLine) : OpR X (compareOp .Eq) (rEqP X.K) := by
  intro pins s σ H x y v u Q I rx ry h
  obtain ⟨d, e, hd, he, sd, se, dp, q⟩ := h
  obtain ⟨as, r1⟩ := Dp.reads I d x v hd rx
  obtain ⟨bs, r2⟩ := Dp.reads I e y u he ry
  exact SeqAt.eq_plain r1 r2 sd se (by omega) ⟨.bl _, H, I, rfl, q⟩
theorem or_ne (hu : X.A.units + 62 < cLine) : OpR X (compareOp .NotEq) (rNeP X.K) := by
  intro pins s σ H x y v u Q I rx ry h
  obtain ⟨d, e, hd, he, sd, se, dp, q⟩ := h
  obtain ⟨as, r1⟩ := Dp.reads I d x v hd rx
  obtain ⟨bs, r2⟩ := Dp.reads I e y u he ry
  exact SeqAt.ne_plain r1 r2 sd se (by omega) ⟨.bl _, H, I, rfl, q⟩
theorem or_in (hu : X.A.units + 62 < cLine) : OpR X (compareOp .In) (rInP X.K false) := by
  intro pins s σ H x y v u Q I rx ry h
  obtain ⟨d, ds, hd, he, sd, se, dp, q⟩ := h
  obtain ⟨as, r1⟩ := Dp.reads I d x v hd rx
  rcases he with he | he
  · obtain ⟨bs, r2⟩ := Dp.reads I (.list ds) y u he ry
    exact SeqAt.in_list_data r2 r1 se sd (by omega) ⟨.bl _, H, I, rfl, q⟩
  · obtain ⟨bs, r2⟩ := Dp.reads I (.tuple ds) y u he ry
    exact SeqAt.in_tuple_data r2 r1 se sd (by omega) ⟨.bl _, H, I, rfl, q⟩
theorem or_nin (hu : X.A.units + 62 < cLine) : OpR X (compareOp .NotIn) (rInP X.K true) := by
  intro pins s σ H x y v u Q I rx ry h
  obtain ⟨d, ds, hd, he, sd, se, dp, q⟩ := h
  obtain ⟨as, r1⟩ := Dp.reads I d x v hd rx
  rcases he with he | he
  · obtain ⟨bs, r2⟩ := Dp.reads I (.list ds) y u he ry
    exact SeqAt.notIn_list_data r2 r1 se sd (by omega) ⟨.bl _, H, I, rfl, q⟩
  · obtain ⟨bs, r2⟩ := Dp.reads I (.tuple ds) y u he ry
    exact SeqAt.notIn_tuple_data r2 r1 se sd (by omega) ⟨.bl _, H, I, rfl, q⟩
end
def gEq : G2 := fun ra rb => if pln 60 ra.d && pln 60 rb.d then okB (deq ra.d rb.d) else .bad
def gNe : G2 := fun ra rb => if pln 60 ra.d && pln 60 rb.d then okB (!deq ra.d rb.d) else .bad
theorem ok_eq {K : PySem.W.Frag} : OpOk (rEqP K) gEq := by
  intro S0 ρ σ H F W ra rb x y Q E hx hy p
  unfold gEq at p
  split at p
  · rename_i h
    simp only [Bool.and_eq_true] at h
    have q1 := pln_plain 60 _ h.1
    have q2 := pln_plain 60 _ h.2
    refine ⟨_, _, Rp.dp 60 _ _ h.1 hx.rp, Rp.dp 60 _ _ h.2 hy.rp, q1.1, q2.1, q1.2, ?_⟩
    rw [deq_py 60 _ _ h.1 h.2]
    exact okB_post p
  · exact p.elim
theorem ok_ne {K : PySem.W.Frag} : OpOk (rNeP K) gNe := by
  intro S0 ρ σ H F W ra rb x y Q E hx hy p
  unfold gNe at p
  split at p
  · rename_i h
    simp only [Bool.and_eq_true] at h
    have q1 := pln_plain 60 _ h.1
    have q2 := pln_plain 60 _ h.2
    refine ⟨_, _, Rp.dp 60 _ _ h.1 hx.rp, Rp.dp 60 _ _ h.2 hy.rp, q1.1, q2.1, q1.2, ?_⟩
    rw [deq_py 60 _ _ h.1 h.2]
    exact okB_post p
  · exact p.elim
def memD (ds : List D) (d : D) : Bool := ds.any fun z => deq z d
def gIn (neg : Bool) : G2 := fun ra rb => match rb.d with
  | .lst ds => if pln 60 ra.d && plnL 60 ds then okB (if neg then !memD ds ra.d else memD ds ra.d) else .bad
  | .tup ds => if pln 60 ra.d && plnL 60 ds then okB (if neg then !memD ds ra.d else memD ds ra.d) else .bad
  | _ => .bad
theorem any_py (n : Nat) (d : D) (hd : pln n d = true) : ∀ ds : List D, plnL n ds = true → ((toPyL ds).any fun z => PyData.eqv z (toPy d)) = memD ds d
  | [], _ => rfl
  | x :: xs, h => by
    simp only [plnL, Bool.and_eq_true] at h
    unfold memD
    simp only [toPyL, List.any_cons]
    rw [deq_py n x d h.1 hd, any_py n d hd xs h.2]
    rfl
theorem ok_in {K : PySem.W.Frag} (neg : Bool) : OpOk (rInP K neg) (gIn neg) := by
  intro S0 ρ σ H F W ra rb x y Q E hx hy p
  unfold gIn at p
  split at p
  · rename_i ds eb
    split at p
    · rename_i h
      simp only [Bool.and_eq_true] at h
      obtain ⟨b, us, rfl, hb, lb⟩ := hy.lst eb
      have q1 := pln_plain 60 _ h.1
      have q2 := plnL_plain 60 _ h.2
      refine ⟨_, toPyL ds, Rp.dp 60 _ _ h.1 hx.rp, .inl (.lst (SqL.of hb) (RpL.dp 60 _ _ h.2 lb)), q1.1, q2.1, q1.2, ?_⟩
      rw [any_py 60 _ h.1 ds h.2]
      exact okB_post p
    · exact p.elim
  · rename_i ds eb
    split at p
    · rename_i h
      simp only [Bool.and_eq_true] at h
      obtain ⟨b, us, rfl, hb, lb⟩ := hy.tup eb
      have q1 := pln_plain 60 _ h.1
      have q2 := plnL_plain 60 _ h.2
      refine ⟨_, toPyL ds, Rp.dp 60 _ _ h.1 hx.rp, .inr (.tup (SqT.of hb) (RpL.dp 60 _ _ h.2 lb)), q1.1, q2.1, q1.2, ?_⟩
      rw [any_py 60 _ h.1 ds h.2]
      exact okB_post p
    · exact p.elim
  · exact p.elim

/-! ### expressions by operators -/
section
variable {X : Cx} {W : WK} {a b c : Expr} {fa fb fc : FE} {pos : Pos}
theorem e_bin {op : Operator} {r2 : R2} {g : G2} (ho : OpR X (binaryOp op) r2) (hg : OpOk r2 g) (ha : PE X a (rdE W fa)) (hb : PE X b (rdE W fb)) : PE X (.BinOp a op b pos) (rdE W (fBin g fa fb)) :=
  peI (pe_op ho ha hb) fun _ _ _ h => rd_bin hg h
theorem e_cmp {op : CmpOp} {r2 : R2} {g : G2} (ho : OpR X (compareOp op) r2) (hg : OpOk r2 g) (ha : PE X a (rdE W fa)) (hb : PE X b (rdE W fb)) (hm : behindInMarks op b = false) : PE X (.Compare a [op] [b] pos) (rdE W (fBin g fa fb)) :=
  peI (pe_cmpR ho ha hb hm) fun _ _ _ h => rd_bin hg h
theorem toB_post {S0 : PA1} {F : FP} {H : Hp} {Q : Bool → Hp → Prop} {σ : St} {r : R} {v : V} (z : Fz S0 F H r v) (h : PostT W S0 σ H Q (toB r)) : ∃ k, v = .bl k ∧ Q k H := by
  unfold toB at h
  split at h
  · rename_i b e
    exact ⟨b, z.bl e, h H (Same.refl H)⟩
  · exact h.elim
/-- a value as a test -/
theorem rd_test {f : FE} {σ : St} {H : Hp} {Q : Bool → Hp → Prop} (h : rdT W (fTest f) σ H Q) : rdE W f σ H fun x H' => ∃ k, x = .bl k ∧ Q k H' := by
  obtain ⟨S0, ρ, F, E, p⟩ := h
  exact postT_bind E p fun r v H1 fp s1 n1 v1 E1 p1 => toB_post (v1.fz (E.nin n1 _)) p1
theorem t_cmp {op : CmpOp} {r2 : R2} {g : G2} (ho : OpR X (compareOp op) r2) (hg : OpOk r2 g) (ha : PE X a (rdE W fa)) (hb : PE X b (rdE W fb)) (hm : behindInMarks op b = false) : PT X (.Compare a [op] [b] pos) (rdT W (fTest (fBin g fa fb))) :=
  ptI (pt_cmpR ho ha hb hm) fun _ _ _ h => rd_bin hg (rd_test h)
theorem t_val {e : Expr} {f : FE} (h : PE X e (rdE W f)) (he : ∀ whole, isTrue e X.env whole = (do let v ← whole; standAt e.pos; holding [v] (truthy v)) := by intro _; rfl) : PT X e (rdT W (fTest f)) :=
  ptI (pt_val h he) fun _ _ _ h => rd_test h

/-! is None -/
def gIsN (neg : Bool) (r : R) : Res R := match r.d with
  | .non => okB (!neg)
  | _ => okB neg
def fIsN (neg : Bool) (f : FE) : FE := fun ρ => (f ρ).bind (gIsN neg)
theorem Fz.isN {S0 : PA1} {F : FP} {H : Hp} {r : R} {v : V} (z : Fz S0 F H r v) (neg : Bool) : gIsN neg r = okB (if neg then !decide (v = .non) else decide (v = .non)) := by
  have h := z.rp
  unfold gIsN
  cases e : r.d with
  | non => rw [e] at h; rw [show v = V.non from h]; cases neg <;> rfl
  | lst ds => rw [e] at h; obtain ⟨a, xs, e', _⟩ := h; rw [e']; cases neg <;> rfl
  | tup ds => rw [e] at h; obtain ⟨a, xs, e', _⟩ := h; rw [e']; cases neg <;> rfl
  | dK kvs => rw [e] at h; obtain ⟨a, e', _⟩ := h; rw [e']; cases neg <;> rfl
  | dT kvs => rw [e] at h; obtain ⟨a, e', _⟩ := h; rw [e']; cases neg <;> rfl
  | scr _ ns => rw [e] at h; obtain ⟨a, e', _⟩ := h; rw [e']; cases neg <;> rfl
  | exc _ _ _ _ _ => rw [e] at h; obtain ⟨e', _⟩ := h; rw [e']; cases neg <;> rfl
  | bl b => rw [e] at h; rw [show v = V.bl b from h]; cases neg <;> rfl
  | int b => rw [e] at h; rw [show v = V.int b from h]; cases neg <;> rfl
  | str b => rw [e] at h; rw [show v = V.str b from h]; cases neg <;> rfl
theorem e_isN {j pos'} (ha : PE X a (rdE W fa)) : PE X (.Compare a [.Is] [.Constant .none j pos'] pos) (rdE W (fIsN false fa)) :=
  peI (pe_cmp (pc_isN ha) rfl) fun σ H Q ⟨S0, ρ, F, E, p⟩ => post_bind E p fun r v H1 fp s1 n1 v1 E1 p1 => by
    rw [(v1.fz (E.nin n1 _)).isN] at p1
    exact okB_post p1
theorem e_notN {j pos'} (ha : PE X a (rdE W fa)) : PE X (.Compare a [.IsNot] [.Constant .none j pos'] pos) (rdE W (fIsN true fa)) :=
  peI (pe_cmp (pc_notN ha) rfl) fun σ H Q ⟨S0, ρ, F, E, p⟩ => post_bind E p fun r v H1 fp s1 n1 v1 E1 p1 => by
    rw [(v1.fz (E.nin n1 _)).isN] at p1
    exact okB_post p1
theorem t_isN {j pos'} (ha : PE X a (rdE W fa)) : PT X (.Compare a [.Is] [.Constant .none j pos'] pos) (rdT W (fTest (fIsN false fa))) :=
  ptI (pt_cmp (pc_isN ha) rfl) fun σ H Q h => by
    obtain ⟨S0, ρ, F, E, p⟩ := rd_test h
    exact post_bind E p fun r v H1 fp s1 n1 v1 E1 p1 => by
      rw [(v1.fz (E.nin n1 _)).isN] at p1
      exact okB_post p1
theorem t_notN {j pos'} (ha : PE X a (rdE W fa)) : PT X (.Compare a [.IsNot] [.Constant .none j pos'] pos) (rdT W (fTest (fIsN true fa))) :=
  ptI (pt_cmp (pc_notN ha) rfl) fun σ H Q h => by
    obtain ⟨S0, ρ, F, E, p⟩ := rd_test h
    exact post_bind E p fun r v H1 fp s1 n1 v1 E1 p1 => by
      rw [(v1.fz (E.nin n1 _)).isN] at p1
      exact okB_post p1

/-! -a -/
def gNeg (r : R) : Res R := match r.d with
  | .int i => okI (-i)
  | _ => .bad
def fUn (g : R → Res R) (f : FE) : FE := fun ρ => (f ρ).bind g
theorem e_neg (ha : PE X a (rdE W fa)) : PE X (.UnaryOp .USub a pos) (rdE W (fUn gNeg fa)) :=
  peI (pe_un un_neg ha) fun σ H Q ⟨S0, ρ, F, E, p⟩ => post_bind E p fun r v H1 fp s1 n1 v1 E1 p1 => by
    unfold gNeg at p1
    split at p1
    · rename_i i e
      exact ⟨i, (v1.fz (E.nin n1 _)).int e, okI_post p1⟩
    · exact p1.elim

/-! and, or, not: tests -/
def fAndT (f g : FT) : FT := fun ρ => (f ρ).bind fun b => if b then g ρ else .ok false
def fOrT (f g : FT) : FT := fun ρ => (f ρ).bind fun b => if b then .ok true else g ρ
def fNotT (f : FT) : FT := fun ρ => (f ρ).bind fun b => .ok (!b)
variable {ta tb : FT} {rest : List Expr}
theorem w_and1 (ha : PT X a (rdT W ta)) : PW X (.BoolOp .And [a] pos) (rdT W ta) := pw_and1 ha
theorem w_or1 (ha : PT X a (rdT W ta)) : PW X (.BoolOp .Or [a] pos) (rdT W ta) := pw_or1 ha
theorem w_and (ha : PT X a (rdT W ta)) (hb : PW X (.BoolOp .And (b :: rest) pos) (rdT W tb)) : PW X (.BoolOp .And (a :: b :: rest) pos) (rdT W (fAndT ta tb)) :=
  pwI (pw_and ha hb) fun σ H Q ⟨S0, ρ, F, E, p⟩ => tt_bind E p fun k H1 s1 E1 p1 => by
    cases k with
    | true => exact iteT ⟨S0, ρ, F, E1, p1⟩
    | false => exact iteF (p1 H1 (Same.refl H1))
theorem w_or (ha : PT X a (rdT W ta)) (hb : PW X (.BoolOp .Or (b :: rest) pos) (rdT W tb)) : PW X (.BoolOp .Or (a :: b :: rest) pos) (rdT W (fOrT ta tb)) :=
  pwI (pw_or ha hb) fun σ H Q ⟨S0, ρ, F, E, p⟩ => tt_bind E p fun k H1 s1 E1 p1 => by
    cases k with
    | true => exact iteT (p1 H1 (Same.refl H1))
    | false => exact iteF ⟨S0, ρ, F, E1, p1⟩
theorem t_w (h : PW X a (rdT W ta)) : PT X a (rdT W ta) := h.pt
theorem t_not (ha : PT X a (rdT W ta)) : PT X (.UnaryOp .Not a pos) (rdT W (fNotT ta)) :=
  ptI (pt_not ha) fun σ H Q ⟨S0, ρ, F, E, p⟩ => tt_bind E p fun k H1 s1 E1 p1 => p1 H1 (Same.refl H1)
/-! .. values -/
def fOfT (f : FT) : FE := fun ρ => (f ρ).bind okB
def fAndV (f : FE) (g : FE) : FE := fun ρ => (f ρ).bind fun r => (toB r).bind fun b => if b then g ρ else okB false
def fOrV (f : FE) (g : FE) : FE := fun ρ => (f ρ).bind fun r => (toB r).bind fun b => if b then okB true else g ρ
def fNotV (f : FE) : FE := fun ρ => (f ρ).bind fun r => (toB r).bind fun b => okB (!b)
theorem e_one {op} (h : PE X a (rdE W fa)) : PE X (.BoolOp op [a] pos) (rdE W fa) := pe_one h
theorem post_toB {S0 : PA1} {F : FP} {H : Hp} {Q : VK} {σ : St} {r : R} {v : V} {g : Bool → Res R} (z : Fz S0 F H r v) (h : Post W S0 F σ H Q ((toB r).bind g)) : ∃ k, v = .bl k ∧ Post W S0 F σ H Q (g k) := by
  unfold toB at h
  split at h
  · rename_i b e
    exact ⟨b, z.bl e, h⟩
  · exact h.elim
theorem e_and (ha : PE X a (rdE W fa)) (hb : PE X (.BoolOp .And (b :: rest) pos) (rdE W fb)) : PE X (.BoolOp .And (a :: b :: rest) pos) (rdE W (fAndV fa fb)) :=
  peI (pe_and ha hb) fun σ H Q ⟨S0, ρ, F, E, p⟩ => post_bind E p fun r v H1 fp s1 n1 v1 E1 p1 => by
    obtain ⟨k, e, p2⟩ := post_toB (v1.fz (E.nin n1 _)) p1
    refine ⟨k, e, ?_⟩
    cases k with
    | true => exact iteT ⟨S0, ρ, F, E1, p2⟩
    | false => exact iteF (okB_post p2)
theorem e_or (ha : PE X a (rdE W fa)) (hb : PE X (.BoolOp .Or (b :: rest) pos) (rdE W fb)) : PE X (.BoolOp .Or (a :: b :: rest) pos) (rdE W (fOrV fa fb)) :=
  peI (pe_or ha hb) fun σ H Q ⟨S0, ρ, F, E, p⟩ => post_bind E p fun r v H1 fp s1 n1 v1 E1 p1 => by
    obtain ⟨k, e, p2⟩ := post_toB (v1.fz (E.nin n1 _)) p1
    refine ⟨k, e, ?_⟩
    cases k with
    | true => exact iteT (okB_post p2)
    | false => exact iteF ⟨S0, ρ, F, E1, p2⟩
theorem e_not (ha : PE X a (rdE W fa)) : PE X (.UnaryOp .Not a pos) (rdE W (fNotV fa)) :=
  peI (pe_not ha) fun σ H Q ⟨S0, ρ, F, E, p⟩ => post_bind E p fun r v H1 fp s1 n1 v1 E1 p1 => by
    obtain ⟨k, e, p2⟩ := post_toB (v1.fz (E.nin n1 _)) p1
    exact ⟨k, e, okB_post p2⟩
def fIte (t : FT) (f g : FE) : FE := fun ρ => (t ρ).bind fun b => if b then f ρ else g ρ
theorem e_ite {t : Expr} {ft : FT} (ht : PT X t (rdT W ft)) (ha : PE X a (rdE W fa)) (hb : PE X b (rdE W fb)) : PE X (.IfExp t a b pos) (rdE W (fIte ft fa fb)) :=
  peI (pe_ifExp ht ha hb) fun σ H Q ⟨S0, ρ, F, E, p⟩ => te_bind E p fun k H1 s1 E1 p1 => by
    cases k with
    | true => exact iteT ⟨S0, ρ, F, E1, p1⟩
    | false => exact iteF ⟨S0, ρ, F, E1, p1⟩

/-! a < b < c -/
def fChain (g g' : G2) (fa fb fc : FE) : FE := fun ρ => (fa ρ).bind fun ra => (fb ρ).bind fun rb => (g ra rb).bind fun r => (toB r).bind fun k => if k then (fc ρ).bind fun rc => g' rb rc else okB false
theorem rd_chain {g' : G2} {r r' : R2} {f : Int → Int → Bool} (hr : r = rI0 fun i j => .bl (f i j)) (hg' : OpOk r' g') {σ : St} {H : Hp} {Q : VK} (h : rdE W (fChain (gCmp f) g' fa fb fc) σ H Q) : tChain r r' (rdE W fa) (rdE W fb) (rdE W fc) σ H Q := by
  obtain ⟨S0, ρ, F, E, p⟩ := h
  refine post_bind E p fun ra x H1 fp1 s1 n1 v1 E1 p1 => post_bind E1 p1 fun rb y H2 fp2 s2 n2 v2 E2 p2 => ?_
  have z1 := (v1.fz (E.nin n1 ra.e)).grow s2
  have z2 := v2.fz (E1.nin n2 rb.e)
  subst hr
  unfold gCmp at p2
  split at p2
  · rename_i i j ea eb
    refine ⟨i, j, z1.int ea, z2.int eb, f i j, rfl, ?_⟩
    have p2 : Post W S0 F σ H2 Q (if f i j = true then (fc ρ).bind fun rc => g' rb rc else okB false) := p2
    cases hf : f i j with
    | true =>
      rw [hf, if_pos rfl] at p2
      exact iteT (post_bind E2 p2 fun rc w H3 fp3 s3 n3 v3 E3 p3 => hg' S0 ρ σ H3 F W rb rc y w Q E3 (z2.grow s3) (v3.fz (E2.nin n3 _)) p3)
    | false =>
      rw [hf, if_neg Bool.false_ne_true] at p2
      exact iteF (okB_post p2)
  · exact p2.elim
theorem e_chain {op op' : CmpOp} {g' : G2} {r' : R2} {f : Int → Int → Bool} (ho : OpR X (compareOp op) (rI0 fun i j => .bl (f i j))) (ho' : OpR X (compareOp op') r') (hg' : OpOk r' g') (ha : PE X a (rdE W fa)) (hb : PE X b (rdE W fb)) (hc : PE X c (rdE W fc))
    (hm : lastMarks [op, op'] [b, c] = false := by with_unfolding_all rfl) : PE X (.Compare a [op, op'] [b, c] pos) (rdE W (fChain (gCmp f) g' fa fb fc)) :=
  peI (pe_chain ho ho' ha hb hc hm) fun _ _ _ h => rd_chain rfl hg' h
theorem t_chain {op op' : CmpOp} {g' : G2} {r' : R2} {f : Int → Int → Bool} (ho : OpR X (compareOp op) (rI0 fun i j => .bl (f i j))) (ho' : OpR X (compareOp op') r') (hg' : OpOk r' g') (ha : PE X a (rdE W fa)) (hb : PE X b (rdE W fb)) (hc : PE X c (rdE W fc))
    (hm : lastMarks [op, op'] [b, c] = false := by with_unfolding_all rfl) : PT X (.Compare a [op, op'] [b, c] pos) (rdT W (fTest (fChain (gCmp f) g' fa fb fc))) :=
  ptI (pt_chain ho ho' ha hb hc hm) fun _ _ _ h => rd_chain rfl hg' (rd_test h)
end
end PyL

namespace PyL
open PySem PySem.Spec L2
set_option autoImplicit false

/-! ### values in a row -/
def VRL (S0 : PA1) (F : FP) (T : List Addr) (H : Hp) : List R → List V → List Addr → Prop
  | [], vs, fp => vs = [] ∧ fp = []
  | r :: rs, vs, fp => ∃ v t f1 f2, vs = v :: t ∧ Ow (fun a => inS S0 F r.e a ∨ a ∈ T) H r.k r.d v f1 ∧ ItD (inS S0 F r.c) H r.d v ∧ VRL S0 F T H rs t f2 ∧ fp = f1 ++ f2 ∧ ∀ a, a ∈ f1 → a ∉ f2
abbrev FA := Ev → Res (List R)
def PostA (W : WK) (S0 : PA1) (F : FP) (σ : St) (H : Hp) (Q : List V → Hp → Prop) : Res (List R) → Prop
  | .ok rs => ∀ vs H' fp, Same H H' → (∀ a ∈ fp, H a = none) → VRL S0 F fp H' rs vs fp → Q vs H'
  | .exn x => ∀ H', Same H H' → ∀ d, repF S0 x.fs d H' → W x.cls d σ H'
  | .bad => False
def rdA (W : WK) (f : FA) : TA := fun σ H Q => ∃ S0 ρ F, EE S0 ρ σ H F ∧ PostA W S0 F σ H Q (f ρ)
def fNil : FA := fun _ => .ok []
def fCons (f : FE) (g : FA) : FA := fun ρ => (f ρ).bind fun r => (g ρ).bind fun rs => .ok (r :: rs)

theorem VRL.imp {S0 S1 : PA1} {F : FP} {T T' : List Addr} {H : Hp} (h : ∀ e b, inS S0 F e b ∨ b ∈ T' → inS S1 F e b ∨ b ∈ T) (h' : ∀ e b, inS S0 F e b → inS S1 F e b) : ∀ {rs : List R} {vs : List V} {fp : List Addr}, VRL S1 F T H rs vs fp → VRL S0 F T' H rs vs fp
  | [], _, _, x => x
  | r :: rs, _, _, ⟨v, t, f1, f2, e, o, i, l, ef, dj⟩ => ⟨v, t, f1, f2, e, Ow.imp (fun b o q n => ⟨q, fun z => n (h _ b z)⟩) _ _ _ _ (fun _ _ _ q => q) o, ItD.imp (Same.refl H) (fun b o q n z => n (h' _ b z)) i, VRL.imp h h' l, ef, dj⟩
theorem VRL.there {S0 : PA1} {F : FP} {T : List Addr} {H : Hp} : ∀ {rs : List R} {vs : List V} {fp : List Addr}, VRL S0 F T H rs vs fp → ∀ a ∈ fp, TrM H a
  | [], _, _, ⟨_, e⟩, a, ha => by rw [e] at ha; cases ha
  | r :: rs, _, _, ⟨v, t, f1, f2, e, o, i, l, ef, dj⟩, a, ha => by
    rw [ef] at ha
    rcases List.mem_append.mp ha with ha | ha
    · exact Ow.there _ _ _ _ o a ha
    · exact l.there a ha

section
variable {X : Cx} {W : WK}
theorem a_nil : PA X [] (rdA W fNil) := paI pa_nil fun σ H Q ⟨S0, ρ, F, E, p⟩ => p [] H [] (Same.refl H) (fun a ha => by cases ha) ⟨rfl, rfl⟩
theorem a_cons {e : Expr} {es : List Expr} {fe : FE} {fa : FA} (he : PE X e (rdE W fe)) (hr : PA X es (rdA W fa)) (hs : starEach (e :: es) X.env = (false, eval e X.env) :: starEach es X.env := by rfl) : PA X (e :: es) (rdA W (fCons fe fa)) := by
  refine paI (pa_cons he hr hs) fun σ H Q ⟨S0, ρ, F, E, p⟩ => ?_
  refine ⟨S0, ρ, F, E, ?_⟩
  unfold fCons at p
  cases q : fe ρ with
  | bad => rw [q] at p; exact p.elim
  | exn x => rw [q] at p; exact p
  | ok r =>
    rw [q] at p
    intro v H1 fp1 s1 n1 v1
    have tr1 : ∀ a ∈ fp1, TrM H1 a := Ow.there _ _ _ _ v1.ow
    have E1 : EE (fun a => S0 a ∨ a ∈ fp1) ρ σ H1 F := E.ext s1 (fun a h => h.elim .inl fun h => .inr (n1 a h)) fun a h => h.elim (fun h => (E.out a h).grow s1) (tr1 a)
    refine ⟨_, ρ, F, E1, ?_⟩
    have p : PostA W S0 F σ H Q ((fa ρ).bind fun rs => .ok (r :: rs)) := p
    cases q2 : fa ρ with
    | bad => rw [q2] at p; exact p.elim
    | exn x => rw [q2] at p; exact fun H' s d r => p H' (s1.trans s) d (r.mono fun _ z => .inl z)
    | ok rs =>
      rw [q2] at p
      intro vs H2 fp2 s2 n2 l2
      refine p (v :: vs) H2 (fp1 ++ fp2) (s1.trans s2) (fun a ha => (List.mem_append.mp ha).elim (n1 a) fun h => s1.free (n2 a h)) ⟨v, vs, fp1, fp2, rfl, ?_, ?_, ?_, rfl, fun a h1 h2 => ?_⟩
      · refine Ow.imp (fun b o q n => ⟨s2 _ _ q, fun z => ?_⟩) _ _ _ _ (fun b o _ q => s2 _ _ q) v1.ow
        rcases z with z | z
        · exact n (.inl z)
        · rcases List.mem_append.mp z with z | z
          · exact n (.inr z)
          · rw [n2 b z] at q; cases q
      · exact v1.it.imp s2 fun _ _ _ n => n
      · refine l2.imp (fun e b z => ?_) (fun e b z => ?_)
        · rcases z with z | z
          · rcases z with z | z
            · exact .inl (.inl (.inl z))
            · exact .inl (.inr z)
          · rcases List.mem_append.mp z with z | z
            · exact .inl (.inl (.inr z))
            · exact .inr z
        · rcases z with z | z
          · exact .inl (.inl z)
          · exact .inr z
      · obtain ⟨o, ho, _⟩ := tr1 a h1
        rw [n2 a h2] at ho; cases ho
end

/-- frozen ones -/
def FzL (S0 : PA1) (F : FP) (H : Hp) : List R → List V → Prop
  | [], vs => vs = []
  | r :: rs, vs => ∃ v t, vs = v :: t ∧ Fz S0 F H r v ∧ FzL S0 F H rs t
theorem VRL.fz {S0 : PA1} {F : FP} {T : List Addr} {H : Hp} : ∀ {rs : List R} {vs : List V} {fp : List Addr}, VRL S0 F T H rs vs fp → (∀ e, ∀ a ∈ fp, ¬ inS S0 F e a) → FzL S0 F H rs vs
  | [], _, _, ⟨e, _⟩, _ => e
  | r :: rs, _, _, ⟨v, t, f1, f2, e, o, i, l, ef, dj⟩, n => ⟨v, t, e, ⟨Ow.frz (fun _ _ _ z => .inl z) _ _ _ _ (fun a ha => n _ a (by rw [ef]; exact List.mem_append_left _ ha)) o, i⟩, l.fz fun e a ha => n e a (by rw [ef]; exact List.mem_append_right _ ha)⟩
theorem post_args {W : WK} {S0 : PA1} {ρ : Ev} {F : FP} {σ : St} {H : Hp} {f : FA} {Q : VK} {g : List R → Res R} {K : List V → Hp → Prop} (E : EE S0 ρ σ H F) (h : Post W S0 F σ H Q ((f ρ).bind g))
    (k : ∀ rs vs H1 fp, Same H H1 → (∀ a ∈ fp, H a = none) → VRL S0 F fp H1 rs vs fp → EE S0 ρ σ H1 F → Post W S0 F σ H Q (g rs) → K vs H1) : rdA W f σ H K := by
  refine ⟨S0, ρ, F, E, ?_⟩
  cases q : f ρ with
  | ok r =>
    rw [q] at h
    exact fun v H1 fp s n vr => k r v H1 fp s n vr (E.grow s) h
  | exn x => rw [q] at h; exact h
  | bad => rw [q] at h; exact h

/-! ### displays -/
def esL (rs : List R) : List Nat := (rs.map (·.e)).flatten
def cDepth (rs : List R) : Nat := match rs.filter fun r => !scal r.d with
  | [] => 0
  | r :: t => if t.all fun q => q.k == r.k then r.k else 0
def dispL (rs : List R) : Res R := if rs.length ≤ sizeLine then .ok ⟨.lst (rs.map (·.d)), cDepth rs + 1, esL rs, esL rs⟩ else .bad
def dispT (rs : List R) : Res R := if rs.length ≤ sizeLine then .ok ⟨.tup (rs.map (·.d)), if cDepth rs = 0 then 0 else cDepth rs + 1, esL rs, esL rs⟩ else .bad
def fLst (f : FA) : FE := fun ρ => (f ρ).bind dispL
def fTup (f : FA) : FE := fun ρ => (f ρ).bind dispT

theorem esL_mem {rs : List R} {r : R} (h : r ∈ rs) : ∀ i ∈ r.e, i ∈ esL rs := fun i hi => List.mem_flatten.mpr ⟨r.e, List.mem_map.mpr ⟨r, h, rfl⟩, hi⟩
theorem cDepth_k {rs : List R} {r : R} (h : r ∈ rs) (hs : scal r.d = false) (hd : cDepth rs ≠ 0) : r.k = cDepth rs := by
  have hm : r ∈ rs.filter fun r => !scal r.d := List.mem_filter.mpr ⟨h, by rw [hs]; rfl⟩
  unfold cDepth at hd ⊢
  split at hd
  · exact absurd rfl hd
  · rename_i q t e
    rw [e] at hm
    split at hd
    · rename_i ha
      show r.k = if (t.all fun q_1 => q_1.k == q.k) = true then q.k else 0
      rw [if_pos ha]
      rcases List.mem_cons.mp hm with z | z
      · rw [z]
      · have := List.all_eq_true.mp ha r z
        simpa using this
    · exact absurd rfl hd
theorem cDepth_sc {rs : List R} : (∀ r ∈ rs, scal r.d = true ∨ r.k = cDepth rs ∨ cDepth rs = 0) := fun r h => by
  by_cases hs : scal r.d = true
  · exact .inl hs
  · by_cases hd : cDepth rs = 0
    · exact .inr (.inr hd)
    · exact .inr (.inl (cDepth_k h (by simpa using hs) hd))
/-- all of one depth -/
theorem VRL.all {S0 : PA1} {F : FP} {T : List Addr} {H : Hp} {m : Nat} {E : List Nat} : ∀ {rs : List R} {vs : List V} {fp : List Addr}, VRL S0 F T H rs vs fp → (∀ r ∈ rs, scal r.d = true ∨ r.k = m) → (∀ r ∈ rs, ∀ i ∈ r.e, i ∈ E) → AllF (Ow (fun a => inS S0 F E a ∨ a ∈ T) H m) (rs.map (·.d)) vs fp
  | [], _, _, x, _, _ => x
  | r :: rs, _, _, ⟨v, t, f1, f2, e, o, i, l, ef, dj⟩, hm, he => by
    refine ⟨v, t, f1, f2, e, ?_, VRL.all l (fun r h => hm r (List.mem_cons_of_mem _ h)) (fun r h => he r (List.mem_cons_of_mem _ h)), ef, dj⟩
    have o' : Ow (fun a => inS S0 F E a ∨ a ∈ T) H r.k r.d v f1 := Ow.imp (fun b o q n => ⟨q, fun z => n (z.elim (fun z => .inl (inS_mono (he r List.mem_cons_self) z)) .inr)⟩) _ _ _ _ (fun _ _ _ q => q) o
    rcases hm r List.mem_cons_self with z | z
    · obtain ⟨o2, e2⟩ := scal_ow (S' := fun a => inS S0 F E a ∨ a ∈ T) (H' := H) z o' m
      rw [e2]; exact o2
    · rw [← z]; exact o'
theorem FzL.rp {S0 : PA1} {F : FP} {H : Hp} {E : List Nat} : ∀ {rs : List R} {vs : List V}, FzL S0 F H rs vs → (∀ r ∈ rs, ∀ i ∈ r.e, i ∈ E) → RpL (inS S0 F E) H (rs.map (·.d)) vs
  | [], _, x, _ => x
  | r :: rs, _, ⟨v, t, e, z, l⟩, he => ⟨v, t, e, Rp.weak (he r List.mem_cons_self) z.rp, FzL.rp l fun r h => he r (List.mem_cons_of_mem _ h)⟩
theorem all_zero {S : PA1} {H : Hp} : ∀ {ds : List D} {xs : List V}, RpL S H ds xs → AllF (Ow S H 0) ds xs []
  | [], _, h => ⟨h, rfl⟩
  | d :: ds, _, ⟨x, r, e, p, q⟩ => ⟨x, r, [], [], e, ⟨p, rfl⟩, all_zero q, rfl, by simp⟩
theorem AllF.mono {S S' : PA1} {H H' : Hp} {k : Nat} (h : ∀ b o, H b = some o → ¬ S b → H' b = some o ∧ ¬ S' b) (sm : Same H H') {ds : List D} {xs : List V} {fp : List Addr} (a : AllF (Ow S H k) ds xs fp) : AllF (Ow S' H' k) ds xs fp :=
  a.imp fun d v f _ p => Ow.imp h k d v f (fun b o _ q => sm _ _ q) p

section
variable {X : Cx} {W : WK} {es : List Expr} {fa : FA} {pos : Pos}
theorem e_lst (h : PA X es (rdA W fa)) : PE X (.List es pos) (rdE W (fLst fa)) := by
  refine peI (pe_lst h) fun σ H Q ⟨S0, ρ, F, E, p⟩ => post_args E p fun rs vs H1 fp s1 n1 l1 E1 p1 => ?_
  have fz := l1.fz (fun e => E.nin n1 e)
  have len : rs.length = vs.length := by have := (fz.rp (E := esL rs) fun r h => esL_mem h).length; simpa using this
  unfold dispL at p1
  split at p1
  · rename_i hz
    refine ⟨by rw [← len]; exact hz, fun q nq => ?_⟩
    have sm := same_upd (o := .lst vs) nq
    have it : ItD (inS S0 F (esL rs)) (upd H1 q (.lst vs)) (.lst (rs.map (·.d))) (.ref q) := ⟨q, vs, rfl, upd_same, RpL.imp (fun b o z n => ⟨sm _ _ z, n⟩) _ _ (fz.rp fun r h => esL_mem h)⟩
    by_cases hd : cDepth rs = 0
    · refine (Post.grow p1 s1) _ _ [q] sm (fun a ha => by rw [List.mem_singleton.mp ha]; exact nq) ⟨?_, it⟩
      simp only [hd]
      exact ⟨q, vs, [], rfl, upd_same, (all_zero (fz.rp fun r h => esL_mem h)).mono (fun b o z n => ⟨sm _ _ z, fun y => y.elim n fun y => ne_of_none z nq (List.mem_singleton.mp y)⟩) sm, rfl, by simp⟩
    · have al := l1.all (m := cDepth rs) (fun r h => (cDepth_sc r h).elim .inl fun z => z.elim .inr fun z => absurd z hd) fun r h => esL_mem h
      have nfp : q ∉ fp := fun z => by obtain ⟨o, ho, _⟩ := l1.there q z; rw [nq] at ho; cases ho
      exact p1 _ _ (q :: fp) (s1.trans sm) (fun a ha => (List.mem_cons.mp ha).elim (fun z => z ▸ s1.free nq) (n1 a)) ⟨⟨q, vs, fp, rfl, upd_same, al.mono (fun b o z n => ⟨sm _ _ z, fun y => y.elim (fun y => n (.inl y)) fun y => (List.mem_cons.mp y).elim (fun y => ne_of_none z nq y) fun y => n (.inr y)⟩) sm, rfl, nfp⟩, it⟩
  · exact p1.elim
theorem e_tup {x1} (h : PA X es (rdA W fa)) : PE X (.Tuple es x1 pos) (rdE W (fTup fa)) := by
  refine peI (pe_tup h) fun σ H Q ⟨S0, ρ, F, E, p⟩ => post_args E p fun rs vs H1 fp s1 n1 l1 E1 p1 => ?_
  have fz := l1.fz (fun e => E.nin n1 e)
  have len : rs.length = vs.length := by have := (fz.rp (E := esL rs) fun r h => esL_mem h).length; simpa using this
  unfold dispT at p1
  split at p1
  · rename_i hz
    refine ⟨by rw [← len]; exact hz, fun q nq => ?_⟩
    have sm := same_upd (o := .tup vs) nq
    have rp : RpL (inS S0 F (esL rs)) (upd H1 q (.tup vs)) (rs.map (·.d)) vs := RpL.imp (fun b o z n => ⟨sm _ _ z, n⟩) _ _ (fz.rp fun r h => esL_mem h)
    have it : ItD (inS S0 F (esL rs)) (upd H1 q (.tup vs)) (.tup (rs.map (·.d))) (.ref q) := ⟨q, vs, rfl, upd_same, rp⟩
    have nq0 : H q = none := s1.free nq
    by_cases hd : cDepth rs = 0
    · refine (Post.grow p1 s1) _ _ [] sm (fun a ha => by cases ha) ⟨?_, it⟩
      simp only [hd, if_true]
      exact ⟨⟨q, vs, rfl, fun z => z.elim (fun z => E.fresh z nq0) (fun z => by cases z), upd_same, RpL.imp (fun b o z n => ⟨z, fun y => y.elim n (fun y => by cases y)⟩) _ _ rp⟩, rfl⟩
    · have al := l1.all (m := cDepth rs) (fun r h => (cDepth_sc r h).elim .inl fun z => z.elim .inr fun z => absurd z hd) fun r h => esL_mem h
      have nfp : q ∉ fp := fun z => by obtain ⟨o, ho, _⟩ := l1.there q z; rw [nq] at ho; cases ho
      rw [if_neg hd] at p1
      exact p1 _ _ fp (s1.trans sm) n1 ⟨⟨q, vs, rfl, fun z => z.elim (fun z => E.fresh z nq0) nfp, upd_same, al.mono (fun b o z n => ⟨sm _ _ z, n⟩) sm⟩, it⟩
  · exact p1.elim
end

/-- [] that shall hold lists one's own -/
def fLstE (dep : Nat) : FE := fun _ => .ok ⟨.lst [], dep + 1, [], []⟩
section
variable {X : Cx} {W : WK} {pos : Pos}
theorem e_lstE {dep : Nat} : PE X (.List [] pos) (rdE W (fLstE dep)) :=
  peI (pe_lst pa_nil) fun σ H Q ⟨S0, ρ, F, E, p⟩ => ⟨Nat.zero_le _, fun o no => p _ _ [o] (same_upd no) (fun a ha => by rw [List.mem_singleton.mp ha]; exact no) ⟨⟨o, [], [], rfl, upd_same, ⟨rfl, rfl⟩, rfl, by simp⟩, ⟨o, [], rfl, upd_same, rfl⟩⟩⟩
end
/-! ### subscripts -/
def IxOk (r2 : R2) (g : G2) : Prop := OpOk r2 g
def gIx : G2 := fun ra rb => match ra.d, rb.d with
  | .lst ds, .int i => match atI ds i with
    | some d => .ok (itemR ra d)
    | none => .bad
  | .tup ds, .int i => match atI ds i with
    | some d => .ok (itemR ra d)
    | none => .bad
  | _, _ => .bad
theorem RpL.atI {S : PA1} {H : Hp} {ds : List D} {xs : List V} {i : Int} {d : D} (l : RpL S H ds xs) (h : L2.atI ds i = some d) : ∃ x, L2.atI xs i = some x ∧ Rp S H d x := by
  unfold L2.atI at h ⊢
  rw [← l.length]
  cases q : ixN ds.length i with
  | none => rw [q] at h; cases h
  | some j =>
    rw [q] at h
    exact l.get h
theorem ok_ix {K : PySem.W.Frag} : OpOk (fun x y H Q => rIxL K x y H Q ∨ rIxT K x y H Q) gIx := by
  intro S0 ρ σ H F W ra rb x y Q E hx hy p
  unfold gIx at p
  split at p
  · rename_i ds i ea eb
    split at p
    · rename_i d hd
      obtain ⟨a, us, rfl, ha, la⟩ := hx.lst ea
      obtain ⟨z, hz, rz⟩ := la.atI hd
      exact .inl ⟨a, us, i, z, rfl, hy.int eb, SqL.of ha, hz, post_item E p rz⟩
    · exact p.elim
  · rename_i ds i ea eb
    split at p
    · rename_i d hd
      obtain ⟨a, us, rfl, ha, la⟩ := hx.tup ea
      obtain ⟨z, hz, rz⟩ := la.atI hd
      exact .inr ⟨a, us, i, z, rfl, hy.int eb, SqT.of ha, hz, post_item E p rz⟩
    · exact p.elim
  · exact p.elim
section
variable {X : Cx} {W : WK} {a b : Expr} {fa fb : FE} {pos : Pos}
theorem e_ix (ha : PE X a (rdE W fa)) (hb : PE X b (rdE W fb)) (hs : PlainIx b := by exact fun _ _ => rfl) : PE X (.Subscript a b pos) (rdE W (fBin gIx fa fb)) :=
  peI (pe_ix (ix_list.or ix_tup) ha hb hs) fun _ _ _ h => rd_bin ok_ix h
end

/-! ### slices -/
def cutD (ds : List D) (lo hi : Option Int) : List D := (ds.drop (HT.sIx ds.length 0 lo)).take (HT.sIx ds.length ds.length hi - HT.sIx ds.length 0 lo)
abbrev FO := Ev → Res (Option Int)
def PostO (W : WK) (S0 : PA1) (σ : St) (H : Hp) (Q : Option Int → Hp → Prop) : Res (Option Int) → Prop
  | .ok b => ∀ H', Same H H' → Q b H'
  | .exn x => ∀ H', Same H H' → ∀ d, repF S0 x.fs d H' → W x.cls d σ H'
  | .bad => False
def rdO (W : WK) (f : FO) : TO := fun σ H Q => ∃ S0 ρ F, EE S0 ρ σ H F ∧ PostO W S0 σ H Q (f ρ)
def fNoP : FO := fun _ => .ok none
def toI (r : R) : Res (Option Int) := match r.d with
  | .int i => .ok (some i)
  | _ => .bad
def fPart (f : FE) : FO := fun ρ => (f ρ).bind toI
theorem poI {X : Cx} {e : Option Expr} {t t' : TO} (h : PO X e t) (i : ∀ σ H Q, t' σ H Q → t σ H Q) : PO X e t' := ⟨fun pins s σ H Q I q => h.run pins s σ H Q I (i σ H Q q)⟩
section
variable {X : Cx} {W : WK} {e : Expr} {fe : FE} {fl fh : FO}
theorem o_none : PO X none (rdO W fNoP) := poI po_none fun σ H Q ⟨S0, ρ, F, E, p⟩ => p H (Same.refl H)
theorem o_some (h : PE X e (rdE W fe)) : PO X (some e) (rdO W (fPart fe)) := poI (po_some h) fun σ H Q ⟨S0, ρ, F, E, p⟩ => by
  refine ⟨S0, ρ, F, E, ?_⟩
  unfold fPart at p
  cases q : fe ρ with
  | bad => rw [q] at p; exact p.elim
  | exn x => rw [q] at p; exact p
  | ok r =>
    rw [q] at p
    intro v H1 fp s1 n1 v1
    have z := v1.fz (E.nin n1 _)
    have p : PostO W S0 σ H Q (toI r) := p
    unfold toI at p
    split at p
    · rename_i i e
      exact ⟨i, z.int e, p H1 s1⟩
    · exact p.elim
end
def gSl (ra : R) (lo hi : Option Int) : Res R := match ra.d with
  | .lst ds => .ok ⟨.lst (cutD ds lo hi), 1, ra.c, ra.c⟩
  | _ => .bad
def fSl (f : FE) (fl fh : FO) : FE := fun ρ => (f ρ).bind fun r => (fl ρ).bind fun lo => (fh ρ).bind fun hi => gSl r lo hi
theorem RpL.cut {S : PA1} {H : Hp} {ds : List D} {xs : List V} (l : RpL S H ds xs) (lo hi : Option Int) : RpL S H (cutD ds lo hi) (cutV xs lo hi) := by
  unfold cutD cutV
  rw [l.length]
  exact (l.drop _).take _
theorem RpL.ints {S : PA1} {H : Hp} : ∀ ns : List Int, RpL S H (ns.map .int) (ns.map V.int)
  | [] => rfl
  | n :: ns => ⟨_, _, rfl, rfl, RpL.ints ns⟩
theorem post_obind {W : WK} {S0 : PA1} {ρ : Ev} {F : FP} {σ : St} {H : Hp} {f : FO} {Q : VK} {g : Option Int → Res R} {K : Option Int → Hp → Prop} (E : EE S0 ρ σ H F) (h : Post W S0 F σ H Q ((f ρ).bind g))
    (k : ∀ b H1, Same H H1 → EE S0 ρ σ H1 F → Post W S0 F σ H1 Q (g b) → K b H1) : rdO W f σ H K := by
  refine ⟨S0, ρ, F, E, ?_⟩
  cases q : f ρ with
  | ok b =>
    rw [q] at h
    exact fun H1 s => k b H1 s (E.grow s) (Post.grow h s)
  | exn x => rw [q] at h; exact h
  | bad => rw [q] at h; exact h
section
variable {X : Cx} {W : WK} {a : Expr} {lo hi : Option Expr} {fa : FE} {fl fh : FO} {pos p2 : Pos}
theorem e_sl (ha : PE X a (rdE W fa)) (hl : PO X lo (rdO W fl)) (hh : PO X hi (rdO W fh)) : PE X (.Subscript a (.Slice lo hi none p2) pos) (rdE W (fSl fa fl fh)) := by
  refine peI (pe_slice sl_list ha hl hh) fun σ H Q ⟨S0, ρ, F, E, p⟩ => ?_
  refine post_bind E p fun r v H1 fp s1 n1 v1 E1 p1 => post_obind E1 p1 fun l H2 s2 E2 p2 => post_obind E2 p2 fun h H3 s3 E3 p3 => ?_
  have z := ((v1.fz (E.nin n1 _)).grow s2).grow s3
  unfold gSl at p3
  split at p3
  · rename_i ds e
    obtain ⟨b, us, rfl, hb, lb⟩ := z.lst e
    exact ⟨b, us, rfl, SqL.of hb, post_lst E3 p3 (lb.cut l h)⟩
  · exact p3.elim
end
/-- the same, of the law's own script -/
noncomputable def gSlK (K : PySem.W.Frag) (ra : R) (lo hi : Option Int) : Res R := match ra.d with
  | .scr K' ns => open Classical in if K' = K then .ok ⟨.lst (cutD (ns.map .int) lo hi), 1, [], []⟩ else .bad
  | _ => gSl ra lo hi
noncomputable def fSlK (K : PySem.W.Frag) (f : FE) (fl fh : FO) : FE := fun ρ => (f ρ).bind fun r => (fl ρ).bind fun lo => (fh ρ).bind fun hi => gSlK K r lo hi
section
variable {X : Cx} {W : WK} {a : Expr} {lo hi : Option Expr} {fa : FE} {fl fh : FO} {pos p2 : Pos}
theorem e_slK (ha : PE X a (rdE W fa)) (hl : PO X lo (rdO W fl)) (hh : PO X hi (rdO W fh)) : PE X (.Subscript a (.Slice lo hi none p2) pos) (rdE W (fSlK X.K fa fl fh)) := by
  refine peI (pe_slice sl_list ha hl hh) fun σ H Q ⟨S0, ρ, F, E, p⟩ => ?_
  refine post_bind E p fun r v H1 fp s1 n1 v1 E1 p1 => post_obind E1 p1 fun l H2 s2 E2 p2 => post_obind E2 p2 fun h H3 s3 E3 p3 => ?_
  have z := ((v1.fz (E.nin n1 _)).grow s2).grow s3
  unfold gSlK at p3
  split at p3
  · rename_i K' ns e
    split at p3
    · rename_i hK
      have := z.rp
      rw [e] at this
      obtain ⟨b, rfl, hb⟩ := this
      refine ⟨b, _, rfl, ?_, post_lst E3 p3 ((RpL.ints ns).cut l h)⟩
      rcases hb with ⟨_, o, hb⟩ | hb
      · exact .inl (.inr ⟨o, hb⟩)
      · exact .inr (hK ▸ hb)
    · exact p3.elim
  · unfold gSl at p3
    split at p3
    · rename_i ds e
      obtain ⟨b, us, rfl, hb, lb⟩ := z.lst e
      exact ⟨b, us, rfl, SqL.of hb, post_lst E3 p3 (lb.cut l h)⟩
    · exact p3.elim
end

/-! ### calls of built-ins -/
def BOk (r : List V → Hp → VK → Prop) (g : List R → Res R) : Prop := ∀ (S0 : PA1) (ρ : Ev) (σ : St) (H : Hp) (F : FP) (W : WK) (rs : List R) (vs : List V) (Q : VK), EE S0 ρ σ H F → FzL S0 F H rs vs → Post W S0 F σ H Q (g rs) → r vs H Q
def fB (g : List R → Res R) (f : FA) : FE := fun ρ => (f ρ).bind g
theorem rd_B {W : WK} {f : FA} {r : List V → Hp → VK → Prop} {g : List R → Res R} (hg : BOk r g) {σ : St} {H : Hp} {Q : VK} (h : rdE W (fB g f) σ H Q) : tCB r (rdA W f) σ H Q := by
  obtain ⟨S0, ρ, F, E, p⟩ := h
  exact post_args E p fun rs vs H1 fp s1 n1 l1 E1 p1 => hg S0 ρ σ H1 F W rs vs Q E1 (l1.fz fun e => E.nin n1 e) (Post.grow p1 s1)
section
variable {X : Cx} {W : WK} {e : Expr} {es : List Expr} {fa : FA} {p pos : Pos} {x : Str} {id T : String} {r : List V → Hp → VK → Prop} {g : List R → Res R}
theorem e_callB (hc : CallR X (.builtin id) r) (hg : BOk r g) (hgl : Gl X x) (hm : X.mg x = none) (hv : bootBuiltins x = some (.builtin id)) (ha : PA X (e :: es) (rdA W fa)) (hn : x ≠ "__name__" := by decide) (hdb : (x == ("__debug__" : Str)) = false := by decide)
    (he : starEach (e :: es) X.env = (false, eval e X.env) :: starEach es X.env := by rfl) (hpl : (backTo pos (starEach es X.env)).any (·.1) = false := by rfl) : PE X (.Call (.Name x p) (e :: es) [] pos) (rdE W (fB g fa)) :=
  peI (pe_callB hc hgl hm hv ha hn hdb he hpl) fun _ _ _ h => rd_B hg h
theorem e_callTy (hc : CallR X (.type T) r) (hg : BOk r g) (hgl : Gl X x) (hm : X.mg x = none) (hv : bootBuiltins x = some (.type T)) (ha : PA X (e :: es) (rdA W fa)) (hn : x ≠ "__name__" := by decide) (hdb : (x == ("__debug__" : Str)) = false := by decide)
    (he : starEach (e :: es) X.env = (false, eval e X.env) :: starEach es X.env := by rfl) (hpl : (backTo pos (starEach es X.env)).any (·.1) = false := by rfl) : PE X (.Call (.Name x p) (e :: es) [] pos) (rdE W (fB g fa)) :=
  peI (pe_callTy hc hgl hm hv ha hn hdb he hpl) fun _ _ _ h => rd_B hg h
theorem e_callBfun (hc : CallR X (.builtin id) r) (hg : BOk r g) (hgl : Gl X x) (hm : X.mg x = some (.builtin id)) (ha : PA X (e :: es) (rdA W fa)) (hdb : (x == ("__debug__" : Str)) = false := by decide)
    (he : starEach (e :: es) X.env = (false, eval e X.env) :: starEach es X.env := by rfl) (hpl : (backTo pos (starEach es X.env)).any (·.1) = false := by rfl) : PE X (.Call (.Name x p) (e :: es) [] pos) (rdE W (fB g fa)) :=
  peI (pe_callBfun hc hgl hm ha hdb he hpl) fun _ _ _ h => rd_B hg h
end

/-- one argument, two -/
def on1 (g : R → Res R) : List R → Res R
  | [r] => g r
  | _ => .bad
def on2 (g : R → R → Res R) : List R → Res R
  | [r, q] => g r q
  | _ => .bad
theorem on1_ok {S0 : PA1} {F : FP} {H : Hp} {W : WK} {σ : St} {Q : VK} {g : R → Res R} : ∀ {rs : List R} {vs : List V}, FzL S0 F H rs vs → Post W S0 F σ H Q (on1 g rs) → ∃ r v, vs = [v] ∧ Fz S0 F H r v ∧ Post W S0 F σ H Q (g r)
  | [r], _, ⟨v, t, e, z, et⟩, p => ⟨r, v, by rw [e, show t = [] from et], z, p⟩
  | [], _, _, p => p.elim
  | _ :: _ :: _, _, _, p => p.elim
theorem on2_ok {S0 : PA1} {F : FP} {H : Hp} {W : WK} {σ : St} {Q : VK} {g : R → R → Res R} : ∀ {rs : List R} {vs : List V}, FzL S0 F H rs vs → Post W S0 F σ H Q (on2 g rs) → ∃ r q v w, vs = [v, w] ∧ Fz S0 F H r v ∧ Fz S0 F H q w ∧ Post W S0 F σ H Q (g r q)
  | [r, q], _, ⟨v, t, e, z, v2, t2, e2, z2, et⟩, p => ⟨r, q, v, v2, by rw [e, e2, show t2 = [] from et], z, z2, p⟩
  | [], _, _, p => p.elim
  | [_], _, _, p => p.elim
  | _ :: _ :: _ :: _, _, _, p => p.elim

def gLen := on1 fun r => match r.d with
  | .lst ds => okI ds.length
  | .tup ds => okI ds.length
  | .str x => if x.length ≤ sizeLine then okI x.length else .bad
  | _ => .bad
def rLenA (K : PySem.W.Frag) : List V → Hp → VK → Prop := fun xs H Q => (∃ p ys, xs = [.ref p] ∧ (SqL K H p ys ∨ SqT K H p ys) ∧ Q (.int ys.length) H) ∨ ∃ z, xs = [.str z] ∧ z.length ≤ sizeLine ∧ Q (.int z.length) H
theorem cr_len {X : Cx} : CallR X (.builtin "len") (rLenA X.K) := call_len_seq.or call_len_str
theorem ok_len {K : PySem.W.Frag} : BOk (rLenA K) gLen := by
  intro S0 ρ σ H F W rs vs Q E l p
  obtain ⟨r, v, rfl, z, p⟩ := on1_ok l p
  · skip
    split at p
    · rename_i ds e
      obtain ⟨b, us, rfl, hb, lb⟩ := z.lst e
      exact .inl ⟨b, us, rfl, .inl (SqL.of hb), by rw [← lb.length]; exact okI_post p⟩
    · rename_i ds e
      obtain ⟨b, us, rfl, hb, lb⟩ := z.tup e
      exact .inl ⟨b, us, rfl, .inr (SqT.of hb), by rw [← lb.length]; exact okI_post p⟩
    · rename_i x e
      split at p
      · rename_i hx
        exact .inr ⟨x, by rw [z.str e], hx, okI_post p⟩
      · exact p.elim
    · exact p.elim
def gAbs := on1 fun r => match r.d with
  | .int i => okI (if i < 0 then -i else i)
  | _ => .bad
theorem ok_abs : BOk (fun xs H Q => ∃ i, xs = [.int i] ∧ Q (.int (if i < 0 then -i else i)) H) gAbs := by
  intro S0 ρ σ H F W rs vs Q E l p
  obtain ⟨r, v, rfl, z, p⟩ := on1_ok l p
  · skip
    split at p
    · rename_i i e
      exact ⟨i, by rw [z.int e], okI_post p⟩
    · exact p.elim
def gInt := on1 fun r => match r.d with
  | .int i => okI i
  | .bl k => okI (if k then 1 else 0)
  | _ => .bad
theorem ok_int : BOk (fun xs H Q => (∃ i, xs = [.int i] ∧ Q (.int i) H) ∨ ∃ k, xs = [.bl k] ∧ Q (.int (if k then 1 else 0)) H) gInt := by
  intro S0 ρ σ H F W rs vs Q E l p
  obtain ⟨r, v, rfl, z, p⟩ := on1_ok l p
  · skip
    split at p
    · rename_i i e
      exact .inl ⟨i, by rw [z.int e], okI_post p⟩
    · rename_i i e
      exact .inr ⟨i, by rw [z.bl e], okI_post p⟩
    · exact p.elim
/-- two ints -/
def gII (f : Int → Int → Int) := on2 fun r q => match r.d, q.d with
  | .int i, .int j => okI (f i j)
  | _, _ => .bad
theorem ok_II (f : Int → Int → Int) : BOk (fun xs H Q => ∃ i j, xs = [.int i, .int j] ∧ Q (.int (f i j)) H) (gII f) := by
  intro S0 ρ σ H F W rs vs Q E l p
  obtain ⟨r, q, v, w, rfl, z, z2, p⟩ := on2_ok l p
  · skip
    split at p
    · rename_i i j e1 e2
      exact ⟨i, j, by rw [z.int e1, z2.int e2], okI_post p⟩
    · exact p.elim
def gMax2 := gII fun i j => if j > i then j else i
def gMin2 := gII fun i j => if j < i then j else i
def gGcd := gII fun a b => ((Nat.gcd a.natAbs b.natAbs : Nat) : Int)

/-! ints of a list -/
def intsOf : List D → Option (List Int)
  | [] => some []
  | .int i :: r => (intsOf r).map (i :: ·)
  | _ => none
theorem RpL.ofInts {S : PA1} {H : Hp} : ∀ {ds : List D} {xs : List V} {ns : List Int}, RpL S H ds xs → intsOf ds = some ns → xs = ns.map V.int
  | [], _, _, e, h => by cases h; exact e
  | d :: ds, _, ns, ⟨x, r, e, p, l⟩, h => by
    cases d <;> first | (simp [intsOf] at h; done) | skip
    rename_i i
    unfold intsOf at h
    cases q : intsOf ds with
    | none => rw [q] at h; cases h
    | some ms =>
      rw [q] at h
      have : i :: ms = ns := by simpa using h
      rw [e, ← this, l.ofInts q, show x = V.int i from p]
      rfl
/-- one list (or tuple) of ints -/
def onInts (g : List Int → Res R) := on1 fun r => match r.d with
  | .lst ds => match intsOf ds with
    | some ns => g ns
    | none => .bad
  | _ => .bad
theorem onInts_ok {S0 : PA1} {F : FP} {H : Hp} {W : WK} {σ : St} {rs : List R} {vs : List V} {Q : VK} {g : List Int → Res R} (l : FzL S0 F H rs vs) (p : Post W S0 F σ H Q (onInts g rs)) : ∃ (a : Addr) (ns : List Int), vs = [V.ref a] ∧ H a = some (.lst (ns.map V.int)) ∧ Post W S0 F σ H Q (g ns) := by
  obtain ⟨r, v, rfl, z, p⟩ := on1_ok l p
  · skip
    split at p
    · rename_i ds e
      split at p
      · rename_i ns hn
        obtain ⟨b, us, rfl, hb, lb⟩ := z.lst e
        rw [lb.ofInts hn] at hb
        exact ⟨b, ns, rfl, hb, p⟩
      · exact p.elim
    · exact p.elim
def gSum := onInts fun ns => okI ns.sum
theorem ok_sum {K : PySem.W.Frag} : BOk (rSum K) gSum := by
  intro S0 ρ σ H F W rs vs Q E l p
  obtain ⟨a, ns, e, ha, q⟩ := onInts_ok l p
  exact ⟨a, ns, e, SqL.of ha, okI_post q⟩
def minL : List Int → Int
  | [] => 0
  | [x] => x
  | x :: r => min x (minL r)
def maxL : List Int → Int
  | [] => 0
  | [x] => x
  | x :: r => max x (maxL r)
theorem minL_spec : ∀ (ns : List Int) (m : Int), m ∈ ns → (∀ y, y ∈ ns → m ≤ y) → minL ns = m
  | [], m, h, _ => by cases h
  | [x], m, h, _ => by simp at h; exact h.symm
  | x :: y :: r, m, h, hl => by
    show min x (minL (y :: r)) = m
    rcases List.mem_cons.mp h with e | h
    · subst e
      have : ∀ (l : List Int), l ≠ [] → minL l ∈ l := by
        intro l
        induction l with
        | nil => intro h; exact absurd rfl h
        | cons a t ih =>
          intro _
          cases t with
          | nil => simp [minL]
          | cons b t =>
            show min a (minL (b :: t)) ∈ _
            have := ih (by simp)
            by_cases hab : a ≤ minL (b :: t)
            · rw [Int.min_eq_left hab]; exact List.mem_cons_self
            · rw [Int.min_eq_right (by omega)]; exact List.mem_cons_of_mem _ this
      have h2 := hl _ (List.mem_cons_of_mem _ (this (y :: r) (by simp)))
      omega
    · have h1 := minL_spec (y :: r) m h fun z hz => hl z (List.mem_cons_of_mem _ hz)
      have h2 := hl x List.mem_cons_self
      omega
theorem maxL_spec : ∀ (ns : List Int) (m : Int), m ∈ ns → (∀ y, y ∈ ns → y ≤ m) → maxL ns = m
  | [], m, h, _ => by cases h
  | [x], m, h, _ => by simp at h; exact h.symm
  | x :: y :: r, m, h, hl => by
    show max x (maxL (y :: r)) = m
    rcases List.mem_cons.mp h with e | h
    · subst e
      have : ∀ (l : List Int), l ≠ [] → maxL l ∈ l := by
        intro l
        induction l with
        | nil => intro h; exact absurd rfl h
        | cons a t ih =>
          intro _
          cases t with
          | nil => simp [maxL]
          | cons b t =>
            show max a (maxL (b :: t)) ∈ _
            have := ih (by simp)
            by_cases hab : maxL (b :: t) ≤ a
            · rw [Int.max_eq_left hab]; exact List.mem_cons_self
            · rw [Int.max_eq_right (by omega)]; exact List.mem_cons_of_mem _ this
      have h2 := hl _ (List.mem_cons_of_mem _ (this (y :: r) (by simp)))
      omega
    · have h1 := maxL_spec (y :: r) m h fun z hz => hl z (List.mem_cons_of_mem _ hz)
      have h2 := hl x List.mem_cons_self
      omega
def gMin := onInts fun ns => if 0 < ns.length then okI (minL ns) else .bad
def gMax := onInts fun ns => if 0 < ns.length then okI (maxL ns) else .bad
theorem ok_min {K : PySem.W.Frag} : BOk (rMin K) gMin := by
  intro S0 ρ σ H F W rs vs Q E l p
  obtain ⟨a, ns, e, ha, q⟩ := onInts_ok l p
  split at q
  · rename_i h0
    refine ⟨a, ns, e, SqL.of ha, h0, fun m hm hl => ?_⟩
    rw [minL_spec ns m hm hl] at q
    exact okI_post q
  · exact q.elim
theorem ok_max {K : PySem.W.Frag} : BOk (rMax K) gMax := by
  intro S0 ρ σ H F W rs vs Q E l p
  obtain ⟨a, ns, e, ha, q⟩ := onInts_ok l p
  split at q
  · rename_i h0
    refine ⟨a, ns, e, SqL.of ha, h0, fun m hm hl => ?_⟩
    rw [maxL_spec ns m hm hl] at q
    exact okI_post q
  · exact q.elim
/-! list(x), tuple(x) -/
def gList := on1 fun r => match r.d with
  | .lst ds => .ok ⟨.lst ds, 1, r.c, r.c⟩
  | .tup ds => .ok ⟨.lst ds, 1, r.c, r.c⟩
  | _ => .bad
theorem ok_list {K : PySem.W.Frag} : BOk (fun xs H Q => ∃ p ys, xs = [.ref p] ∧ (SqL K H p ys ∨ SqT K H p ys) ∧ ∀ l, H l = none → Q (.ref l) (upd H l (.lst ys))) gList := by
  intro S0 ρ σ H F W rs vs Q E l p
  obtain ⟨r, v, rfl, z, p⟩ := on1_ok l p
  · skip
    split at p
    · rename_i ds e
      obtain ⟨b, us, rfl, hb, lb⟩ := z.lst e
      exact ⟨b, us, rfl, .inl (SqL.of hb), post_lst E p lb⟩
    · rename_i ds e
      obtain ⟨b, us, rfl, hb, lb⟩ := z.tup e
      exact ⟨b, us, rfl, .inr (SqT.of hb), post_lst E p lb⟩
    · exact p.elim
def gTuple := on1 fun r => match r.d with
  | .lst ds => .ok ⟨.tup ds, 0, r.c, r.c⟩
  | _ => .bad
theorem ok_tuple {K : PySem.W.Frag} : BOk (fun xs H Q => ∃ p ys, xs = [.ref p] ∧ ((SqL K H p ys ∧ ∀ l, H l = none → Q (.ref l) (upd H l (.tup ys))) ∨ (SqT K H p ys ∧ Q (.ref p) H))) gTuple := by
  intro S0 ρ σ H F W rs vs Q E l p
  obtain ⟨r, v, rfl, z, p⟩ := on1_ok l p
  · skip
    split at p
    · rename_i ds e
      obtain ⟨b, us, rfl, hb, lb⟩ := z.lst e
      exact ⟨b, us, rfl, .inl ⟨SqL.of hb, post_tup E p lb⟩⟩
    · exact p.elim
end PyL

namespace PyL
open PySem PySem.Spec L2
set_option autoImplicit false

/-! ### targets -/
abbrev FG := D → Ev → Option Ev
def rdG (vs : List Nat) (tg : FG) : TG := fun v σ H Q => ∃ S0 ρ F d, EE S0 ρ σ H F ∧ (∀ i ∈ vs, F i = []) ∧ Rp (inS S0 F []) H d v ∧ ∃ ρ', tg d ρ = some ρ' ∧
  ∀ σ', EE S0 ρ' σ' H F → σ'.length = σ.length → (∀ j, j ∉ vs → σ'[j]? = σ[j]?) → Q σ' H
theorem EE.setF {S0 : PA1} {ρ : Ev} {σ : St} {H : Hp} {F : FP} (E : EE S0 ρ σ H F) {i : Nat} {d : D} {v : V} (hi : F i = []) (r : Rp (inS S0 F []) H d v) : EE S0 (ρ.set i (some (d, 0))) (σ.set i (some v)) H F where
  len := by rw [List.length_set, List.length_set]; exact E.len
  rep := fun j d' k h => by
    by_cases hj : j = i
    · subst hj
      have hl : j < ρ.length := by
        have := (List.getElem?_eq_some_iff.mp h).1
        rwa [List.length_set] at this
      rw [List.getElem?_set_self hl] at h
      cases h
      exact ⟨v, by rw [List.getElem?_set_self (by rw [← E.len]; exact hl)], r, hi⟩
    · rw [List.getElem?_set_ne (Ne.symm hj)] at h
      obtain ⟨w, e, o⟩ := E.rep j d' k h
      exact ⟨w, by rw [List.getElem?_set_ne (Ne.symm hj)]; exact e, o⟩
  disj := E.disj
  trk := E.trk
  out := E.out
  apart := E.apart
def gN (i : Nat) : FG := fun d ρ => some (ρ.set i (some (d, 0)))
def gTs : List Nat → List D → Ev → Option Ev
  | [], [], ρ => some ρ
  | i :: is, d :: ds, ρ => gTs is ds (ρ.set i (some (d, 0)))
  | _, _, _ => none
def gT (is : List Nat) : FG := fun d ρ => match d with
  | .tup ds => gTs is ds ρ
  | _ => none
theorem pgI {X : Cx} {e : Expr} {t t' : TG} (h : PG X e t) (i : ∀ v σ H Q, t' v σ H Q → t v σ H Q) : PG X e t' := by
  obtain ⟨h⟩ := h
  exact ⟨fun pins s σ H x u Q I r q => h pins s σ H x u Q I r (i _ _ _ _ q)⟩
/-- the slots of a tuple's names -/
inductive PNs (X : Cx) : List Expr → List Nat → Prop
  | nil : PNs X [] []
  | cons {i : Nat} {x : Str} {pos : Pos} {es : List Expr} {is : List Nat} (h : PG X (.Name x pos) (L2.gName i)) (r : PNs X es is) : PNs X (.Name x pos :: es) (i :: is)
def gNames : List Nat → TGs
  | [] => gNil
  | i :: is => gCons (L2.gName i) (gNames is)
theorem PNs.pgs {X : Cx} : ∀ {es : List Expr} {is : List Nat}, PNs X es is → PGs X es (gNames is)
  | _, _, .nil => pgs_nil
  | _, _, .cons h r => pgs_cons h r.pgs
section
variable {X : Cx}
theorem g_name (i : Nat) {x : Str} {pos : Pos} {vs : List Nat} (hN : X.N.Nodup) (hi : X.N[i]? = some x) (hx : Loc X.env.scope x) (hv : i ∈ vs) (hf : X.fn x = true ∨ X.env.scope.names.lookup x = some .local := by first | exact .inl rfl | exact .inr rfl | assumption) : PG X (.Name x pos) (rdG vs (gN i)) :=
  pgI (pg_name hN hi hx hf) fun v σ H Q ⟨S0, ρ, F, d, E, hF, r, ρ', e, q⟩ => by
    cases e
    exact q _ (E.setF (hF i hv) r) (List.length_set ..) fun j hj => List.getElem?_set_ne (by intro z; exact hj (z ▸ hv))
theorem names_run {vs : List Nat} : ∀ (is : List Nat) (ds : List D) (xs : List V) (S0 : PA1) (ρ ρ' : Ev) (F : FP) (σ : St) (H : Hp) (Q : St → Hp → Prop), EE S0 ρ σ H F → (∀ i ∈ vs, F i = []) → (∀ i ∈ is, i ∈ vs) → RpL (inS S0 F []) H ds xs → gTs is ds ρ = some ρ' →
    (∀ σ', EE S0 ρ' σ' H F → σ'.length = σ.length → (∀ j, j ∉ vs → σ'[j]? = σ[j]?) → Q σ' H) → gNames is xs σ H Q
  | [], [], xs, S0, ρ, ρ', F, σ, H, Q, E, hF, hv, l, e, q => by
    cases e
    exact ⟨l, q σ E rfl fun _ _ => rfl⟩
  | [], _ :: _, _, _, _, _, _, _, _, _, _, _, _, _, e, _ => by cases e
  | _ :: _, [], _, _, _, _, _, _, _, _, _, _, _, _, e, _ => by cases e
  | i :: is, d :: ds, xs, S0, ρ, ρ', F, σ, H, Q, E, hF, hv, ⟨x, r, e, p, l⟩, eq, q => by
    refine ⟨x, r, e, ?_⟩
    refine names_run is ds r S0 (ρ.set i (some (d, 0))) ρ' F (σ.set i (some x)) H Q (E.setF (hF i (hv i List.mem_cons_self)) p) hF (fun j h => hv j (List.mem_cons_of_mem _ h)) l eq fun σ' E' hl ha => ?_
    exact q σ' E' (by rw [hl, List.length_set]) fun j hj => (ha j hj).trans (List.getElem?_set_ne (by intro z; exact hj (z ▸ hv i List.mem_cons_self)))
theorem gTs_len : ∀ {is : List Nat} {ds : List D} {ρ ρ' : Ev}, gTs is ds ρ = some ρ' → ds.length = is.length
  | [], [], _, _, _ => rfl
  | [], _ :: _, _, _, h => by cases h
  | _ :: _, [], _, _, h => by cases h
  | i :: is, d :: ds, ρ, ρ', h => by
    have := gTs_len (is := is) (ds := ds) h
    simp [this]
theorem g_tup {es : List Expr} {k : Nat} {is vs : List Nat} {pos : Pos} (hc : X.calm = true) (h : PNs X es is) (hv : ∀ i ∈ is, i ∈ vs)
    (hn : (assignEach es X.env).length = is.length := by rfl) (hst : (assignEach es X.env).findIdx? (·.1) = none := by rfl) : PG X (.Tuple es k pos) (rdG vs (gT is)) :=
  pgI (pg_tup hc h.pgs hn hst) fun v σ H Q ⟨S0, ρ, F, d, E, hF, r, ρ', e, q⟩ => by
    unfold gT at e
    split at e
    · rename_i ds
      obtain ⟨a, xs, rfl, _, ha, l⟩ := r
      exact ⟨a, xs, rfl, SqT.of ha, by rw [← l.length, gTs_len e], names_run is ds xs S0 ρ ρ' F σ H Q E hF hv l e q⟩
    · cases e
end

/-! ### what is walked -/
structure IR where
  ds : List D
  e : List Nat
  c : List Nat
abbrev FI := Ev → Res IR
def KeepS (S : PA1) (H H' : Hp) : Prop := ∀ b o, H b = some o → ¬ S b → H' b = some o
theorem KeepS.of {S : PA1} {H H' : Hp} (h : Same H H') : KeepS S H H' := fun b o q _ => h b o q
/-- the walk yields the data, as long as what is outside of Se and Sc stays -/
def JOk (Se Sc : PA1) (J : L2.It) (ds : List D) (H : Hp) : Prop := ∀ H', KeepS Se H H' → ∀ i,
  (ds.length ≤ i → J.stop i H') ∧ ∀ d, ds[i]? = some d → J.go i H' ∧ ∀ x H3, J.yld i H' x H3 → Same H' H3 ∧
    ∀ S' : PA1, (∀ b o, H b = some o → ¬ Sc b → H' b = some o ∧ ¬ S' b) → (∀ b, S' b → ∃ o, H' b = some o) → Rp S' H3 d x
def PostI (W : WK) (S0 : PA1) (F : FP) (σ : St) (H : Hp) (Rk : L2.It → Hp → Prop) : Res IR → Prop
  | .ok s => ∀ J H', Same H H' → JOk (inS S0 F s.e) (inS S0 F s.c) J s.ds H' → Rk J H'
  | .exn x => ∀ H', Same H H' → ∀ d, repF S0 x.fs d H' → W x.cls d σ H'
  | .bad => False
def rdI (W : WK) (f : FI) : TI := fun σ H Rk => ∃ S0 ρ F, EE S0 ρ σ H F ∧ PostI W S0 F σ H Rk (f ρ)
def seqI (r : R) : Res IR := match r.d with
  | .lst ds => .ok ⟨ds, r.e, r.c⟩
  | .tup ds => .ok ⟨ds, r.e, r.c⟩
  | _ => .bad
def fSeqI (f : FE) : FI := fun ρ => (f ρ).bind seqI
theorem PostI.grow {W : WK} {S0 : PA1} {F : FP} {σ : St} {H H1 : Hp} {Rk : L2.It → Hp → Prop} : ∀ {r : Res IR}, PostI W S0 F σ H Rk r → Same H H1 → PostI W S0 F σ H1 Rk r
  | .ok _, h, sm => fun J H' s1 j => h J H' (sm.trans s1) j
  | .exn _, h, sm => fun H' s1 => h H' (sm.trans s1)
  | .bad, h, _ => h
theorem postI_bind {W : WK} {S0 : PA1} {ρ : Ev} {F : FP} {σ : St} {H : Hp} {f : FE} {Rk : L2.It → Hp → Prop} {g : R → Res IR} {K : V → Hp → Prop} (E : EE S0 ρ σ H F) (h : PostI W S0 F σ H Rk ((f ρ).bind g))
    (k : ∀ r v H1 fp, f ρ = .ok r → Same H H1 → (∀ a ∈ fp, H a = none) → VR S0 F H1 r v fp → EE S0 ρ σ H1 F → PostI W S0 F σ H1 Rk (g r) → K v H1) : rdE W f σ H K := by
  refine ⟨S0, ρ, F, E, ?_⟩
  cases q : f ρ with
  | ok r =>
    rw [q] at h
    exact fun v H1 fp s n vr => k r v H1 fp q s n vr (E.grow s) (PostI.grow h s)
  | exn x => rw [q] at h; exact h
  | bad => rw [q] at h; exact h
theorem rp_at {Sc : PA1} {H H' : Hp} {ds : List D} {xs : List V} (l : RpL Sc H ds xs) (k : KeepS Sc H H') : RpL Sc H' ds xs := RpL.imp (fun b o q n => ⟨k b o q n, n⟩) _ _ l
theorem jok_list {K : PySem.W.Frag} {Se Sc : PA1} {H : Hp} {a : Addr} {xs : List V} {ds : List D} (n : ¬ Se a) (h : H a = some (.lst xs)) (l : RpL Sc H ds xs) : JOk Se Sc (Itl K a) ds H := fun H' k1 i => by
  have h' : SqL K H' a xs := SqL.of (k1 a _ h n)
  refine ⟨fun hi => ⟨xs, h', by rw [← l.length]; exact hi⟩, fun d hd => ?_⟩
  obtain ⟨x, hx, _⟩ := l.get hd
  refine ⟨⟨xs, x, h', hx⟩, fun y H3 hy => ?_⟩
  obtain ⟨e, hy⟩ := hy
  have := hy xs h'
  rw [hx] at this
  cases this
  rw [e]
  refine ⟨Same.refl _, fun S' k2 _ => ?_⟩
  obtain ⟨z, hz, rz⟩ := (RpL.imp k2 _ _ l).get hd
  rw [hx] at hz; cases hz
  exact rz
theorem jok_tup {K : PySem.W.Frag} {Se Sc : PA1} {H : Hp} {a : Addr} {xs : List V} {ds : List D} (n : ¬ Se a) (h : H a = some (.tup xs)) (l : RpL Sc H ds xs) : JOk Se Sc (Itt K a) ds H := fun H' k1 i => by
  have h' : SqT K H' a xs := SqT.of (k1 a _ h n)
  refine ⟨fun hi => ⟨xs, h', by rw [← l.length]; exact hi⟩, fun d hd => ?_⟩
  obtain ⟨x, hx, _⟩ := l.get hd
  refine ⟨⟨xs, x, h', hx⟩, fun y H3 hy => ?_⟩
  obtain ⟨e, hy⟩ := hy
  have := hy xs h'
  rw [hx] at this
  cases this
  rw [e]
  refine ⟨Same.refl _, fun S' k2 _ => ?_⟩
  obtain ⟨z, hz, rz⟩ := (RpL.imp k2 _ _ l).get hd
  rw [hx] at hz; cases hz
  exact rz
def rgD (lo : Int) (n : Nat) : List D := (List.range n).map fun i : Nat => .int (lo + (i : Int))
theorem jok_rng {Se Sc : PA1} {H : Hp} (lo : Int) (n : Nat) : JOk Se Sc (Itr lo n) (rgD lo n) H := fun H' k1 i => by
  refine ⟨fun hi => (show n ≤ i by unfold rgD at hi; simpa using hi), fun d hd => ?_⟩
  unfold rgD at hd
  rw [List.getElem?_map] at hd
  cases q : (List.range n)[i]? with
  | none => rw [q] at hd; cases hd
  | some j =>
    rw [q] at hd
    cases hd
    obtain ⟨h1, h2⟩ := List.getElem?_eq_some_iff.mp q
    have hn : i < n := by simpa using h1
    have hj : i = j := by simpa using h2
    subst hj
    exact ⟨hn, fun x H3 hy => ⟨by rw [hy.1]; exact Same.refl _, fun _ _ _ => hy.2⟩⟩
section
variable {X : Cx} {W : WK}
theorem i_seq {tg l : Expr} {f : FE} (h : PE X l (rdE W f)) : PI X tg l (rdI W (fSeqI f)) := by
  refine piI (piOr (pi_list h) (pi_tup h)) fun σ H Rk ⟨S0, ρ, F, E, p⟩ => ?_
  unfold fSeqI at p
  cases q : f ρ with
  | bad => rw [q] at p; exact p.elim
  | exn x => rw [q] at p; exact .inl ⟨S0, ρ, F, E, by rw [q]; exact p⟩
  | ok r =>
    have p0 := p
    rw [q] at p0
    have p0 : PostI W S0 F σ H Rk (seqI r) := p0
    cases hd : r.d with
    | lst ds =>
      refine .inl (postI_bind E p fun r' v H1 fp e s1 n1 v1 E1 p1 => ?_)
      rw [q] at e; cases e
      have z := v1.fz (E.nin n1 _)
      have rp := z.rp
      rw [hd] at rp
      obtain ⟨a, xs, rfl, na, ha, _⟩ := rp
      refine ⟨a, rfl, ⟨xs, SqL.of ha⟩, ?_⟩
      unfold seqI at p1
      rw [hd] at p1
      obtain ⟨a', xs', ea, ha', l⟩ := z.lst hd
      cases ea
      exact p1 _ H1 (Same.refl H1) (jok_list na ha' l)
    | tup ds =>
      refine .inr (postI_bind E p fun r' v H1 fp e s1 n1 v1 E1 p1 => ?_)
      rw [q] at e; cases e
      have z := v1.fz (E.nin n1 _)
      have rp := z.rp
      rw [hd] at rp
      obtain ⟨a, xs, rfl, na, ha, _⟩ := rp
      refine ⟨a, rfl, ⟨xs, SqT.of ha⟩, ?_⟩
      unfold seqI at p1
      rw [hd] at p1
      obtain ⟨a', xs', ea, ha', l⟩ := z.tup hd
      cases ea
      exact p1 _ H1 (Same.refl H1) (jok_tup na ha' l)
    | _ => unfold seqI at p0; rw [hd] at p0; exact p0.elim

/-! range -/
def rng1 (r : R) : Res IR := match r.d with
  | .int j => if -(2 ^ 62) ≤ j ∧ j < 2 ^ 62 then .ok ⟨rgD 0 j.toNat, [], []⟩ else .bad
  | _ => .bad
def rng2 (r q : R) : Res IR := match r.d, q.d with
  | .int i, .int j => if -(2 ^ 62) ≤ i ∧ i < 2 ^ 62 ∧ -(2 ^ 62) ≤ j ∧ j < 2 ^ 62 then .ok ⟨rgD i (j - i).toNat, [], []⟩ else .bad
  | _, _ => .bad
def on1I (g : R → Res IR) : List R → Res IR
  | [r] => g r
  | _ => .bad
def on2I (g : R → R → Res IR) : List R → Res IR
  | [r, q] => g r q
  | _ => .bad
def fRng1 (f : FA) : FI := fun ρ => (f ρ).bind (on1I rng1)
def fRng2 (f : FA) : FI := fun ρ => (f ρ).bind (on2I rng2)
theorem postI_args {S0 : PA1} {ρ : Ev} {F : FP} {σ : St} {H : Hp} {f : FA} {Rk : L2.It → Hp → Prop} {g : List R → Res IR} {K : List V → Hp → Prop} (E : EE S0 ρ σ H F) (h : PostI W S0 F σ H Rk ((f ρ).bind g))
    (k : ∀ rs vs H1 fp, Same H H1 → (∀ a ∈ fp, H a = none) → VRL S0 F fp H1 rs vs fp → EE S0 ρ σ H1 F → PostI W S0 F σ H1 Rk (g rs) → K vs H1) : rdA W f σ H K := by
  refine ⟨S0, ρ, F, E, ?_⟩
  cases q : f ρ with
  | ok r =>
    rw [q] at h
    exact fun v H1 fp s n vr => k r v H1 fp s n vr (E.grow s) (PostI.grow h s)
  | exn x => rw [q] at h; exact h
  | bad => rw [q] at h; exact h
theorem i_rng1 {tg a : Expr} {fa : FA} {p pos : Pos} (hg : Gl X "range") (hm : X.mg "range" = none) (ha : PA X [a] (rdA W fa)) (hs : starEach [a] X.env = [(false, eval a X.env)] := by rfl) : PI X tg (.Call (.Name "range" p) [a] [] pos) (rdI W (fRng1 fa)) := by
  refine piI (pi_range1 hg hm ha hs) fun σ H Rk ⟨S0, ρ, F, E, p⟩ => postI_args E p fun rs vs H1 fp s1 n1 l1 E1 p1 => ?_
  have fz := l1.fz fun e => E.nin n1 e
  match rs, fz with
  | [r], ⟨v, t, e, z, et⟩ =>
    rw [show t = [] from et] at e
    subst e
    have p1 : PostI W S0 F σ H1 Rk (rng1 r) := p1
    unfold rng1 at p1
    split at p1
    · rename_i j e
      split at p1
      · rename_i hb
        exact ⟨j, by rw [z.int e], hb.1, hb.2, p1 _ H1 (Same.refl H1) (jok_rng 0 _)⟩
      · exact p1.elim
    · exact p1.elim
  | [], _ => exact p1.elim
  | _ :: _ :: _, _ => exact p1.elim
theorem i_rng2 {tg a b : Expr} {fa : FA} {p pos : Pos} (hg : Gl X "range") (hm : X.mg "range" = none) (ha : PA X [a, b] (rdA W fa)) (hs : starEach [a, b] X.env = [(false, eval a X.env), (false, eval b X.env)] := by rfl)
    (hs2 : starEach [b] X.env = [(false, eval b X.env)] := by rfl) : PI X tg (.Call (.Name "range" p) [a, b] [] pos) (rdI W (fRng2 fa)) := by
  refine piI (pi_range2 hg hm ha hs hs2) fun σ H Rk ⟨S0, ρ, F, E, p⟩ => postI_args E p fun rs vs H1 fp s1 n1 l1 E1 p1 => ?_
  have fz := l1.fz fun e => E.nin n1 e
  match rs, fz with
  | [r, q], ⟨v, t, e, z, v2, t2, e2, z2, et⟩ =>
    rw [show t2 = [] from et] at e2
    subst e2
    subst e
    have p1 : PostI W S0 F σ H1 Rk (rng2 r q) := p1
    unfold rng2 at p1
    split at p1
    · rename_i i j e1 e2
      split at p1
      · rename_i hb
        exact ⟨i, j, by rw [z.int e1, z2.int e2], hb, p1 _ H1 (Same.refl H1) (jok_rng i _)⟩
      · exact p1.elim
    · exact p1.elim
  | [], _ => exact p1.elim
  | [_], _ => exact p1.elim
  | _ :: _ :: _ :: _, _ => exact p1.elim
end
end PyL

namespace PyL
open PySem PySem.Spec L2
set_option autoImplicit false

/-! ### list comprehensions -/
def noX {α : Type} : Res α → Res α
  | .exn _ => .bad
  | r => r
def compL (tg : FG) (tt : FT) (te : FE) (ρ : Ev) : List D → Res (List R)
  | [] => .ok []
  | d :: ds => match tg d ρ with
    | none => .bad
    | some ρ2 => (noX (tt ρ2)).bind fun b => if b then (noX (te ρ2)).bind fun r => (compL tg tt te ρ ds).bind fun rs => .ok (r :: rs) else compL tg tt te ρ ds
def wipeE (ρ : Ev) : List Nat → Ev
  | [] => ρ
  | v :: vs => (wipeE ρ vs).set v none
/-- the new list of a comprehension: c, the slots that its source's items may hold -/
def hDep (dep : Nat) (rs : List R) : Nat := if rs.all (fun r => scal r.d || r.k == dep) then dep else 0
theorem hDep_sc {dep : Nat} {rs : List R} : ∀ r ∈ rs, scal r.d = true ∨ r.k = hDep dep rs ∨ hDep dep rs = 0 := fun r h => by
  unfold hDep
  by_cases q : (rs.all fun r => scal r.d || r.k == dep) = true
  · rw [if_pos q]
    have := List.all_eq_true.mp q r h
    simp only [Bool.or_eq_true, beq_iff_eq] at this
    exact this.elim .inl fun z => .inr (.inl z)
  · rw [if_neg q]; exact .inr (.inr rfl)
def dispC (dep : Nat) (c : List Nat) (rs : List R) : Res R := if rs.length ≤ sizeLine then
    let d := D.lst (rs.map (·.d))
    let k := hDep dep rs + 1
    if af k d then .ok ⟨d, k, [], []⟩ else .ok ⟨d, k, c ++ esL rs, c ++ esL rs⟩
  else .bad
def fComp (dep : Nat) (it : FI) (tg : FG) (tt : FT) (te : FE) (vs : List Nat) : FE := fun ρ => (it ρ).bind fun s => (compL tg tt te (wipeE (frzL s.c ρ) vs) s.ds).bind (dispC dep s.c)

theorem wipeE_len (ρ : Ev) : ∀ vs : List Nat, (wipeE ρ vs).length = ρ.length
  | [] => rfl
  | v :: vs => by unfold wipeE; rw [List.length_set, wipeE_len ρ vs]
theorem wipeE_some {ρ : Ev} {i : Nat} {x : D × Nat} : ∀ {vs : List Nat}, (wipeE ρ vs)[i]? = some (some x) → ρ[i]? = some (some x) ∧ i ∉ vs
  | [], h => ⟨h, by simp⟩
  | v :: vs, h => by
    unfold wipeE at h
    by_cases hv : i = v
    · subst hv
      have hl := (List.getElem?_eq_some_iff.mp h).1
      rw [List.length_set] at hl
      rw [List.getElem?_set_self hl] at h
      cases h
    · rw [List.getElem?_set_ne (Ne.symm hv)] at h
      obtain ⟨h1, h2⟩ := wipeE_some h
      exact ⟨h1, by simp [hv, h2]⟩
theorem wipe_at {σ : St} {i : Nat} : ∀ {vs : List Nat}, (wipe σ vs)[i]? = if i ∈ vs then (if i < σ.length then some none else none) else σ[i]?
  | [] => by simp [wipe]
  | v :: vs => by
    unfold wipe
    by_cases hv : i = v
    · subst hv
      rw [if_pos (by simp)]
      by_cases hl : i < σ.length
      · rw [List.getElem?_set_self (by rw [wipe_length]; exact hl), if_pos hl]
      · rw [if_neg hl, List.getElem?_eq_none (by rw [List.length_set, wipe_length]; omega)]
    · rw [List.getElem?_set_ne (Ne.symm hv), wipe_at]
      simp [hv]
theorem wipe_same {σ σ' : St} {vs : List Nat} (hl : σ'.length = σ.length) (h : ∀ j, j ∉ vs → σ'[j]? = σ[j]?) : wipe σ' vs = wipe σ vs := by
  apply List.ext_getElem?
  intro i
  rw [wipe_at, wipe_at, hl]
  split
  · rfl
  · exact h i (by assumption)
theorem wipe_wipe {σ : St} {vs : List Nat} : wipe (wipe σ vs) vs = wipe σ vs := by
  refine wipe_same (wipe_length σ vs) fun j hj => ?_
  rw [wipe_at, if_neg hj]
theorem EE.wipe {S0 : PA1} {ρ : Ev} {σ : St} {H : Hp} {F : FP} (E : EE S0 ρ σ H F) (vs : List Nat) : EE (fun a => S0 a ∨ ∃ i ∈ vs, a ∈ F i) (wipeE ρ vs) (L2.wipe σ vs) H (cutF vs F) where
  len := by rw [wipeE_len, wipe_length]; exact E.len
  rep := fun i d k h => by
    obtain ⟨h1, h2⟩ := wipeE_some h
    obtain ⟨v, e, o⟩ := E.rep i d k h1
    refine ⟨v, by rw [wipe_at, if_neg h2]; exact e, ?_⟩
    rw [show cutF vs F i = F i by simp [cutF, h2]]
    refine Ow.imp (fun b o q n => ⟨q, fun z => n ?_⟩) k d v _ (fun _ _ _ q => q) o
    rcases z with (z | ⟨j, hj, z⟩) | ⟨j, _, z⟩
    · exact .inl z
    · exact .inr ⟨j, by simp, z⟩
    · exact .inr ⟨j, by simp, (cutF_mem.mp z).2⟩
  disj := fun a b c h1 h2 => E.disj a b c (cutF_mem.mp h1).2 (cutF_mem.mp h2).2
  trk := fun j a h => E.trk j a (cutF_mem.mp h).2
  out := fun a h => h.elim (E.out a) fun ⟨i, _, z⟩ => E.trk i a z
  apart := fun j a h z => by
    obtain ⟨h1, h2⟩ := cutF_mem.mp h
    rcases z with z | ⟨i, hi, z⟩
    · exact E.apart j a h2 z
    · exact h1 (E.disj _ _ _ z h2 ▸ hi)
theorem inS_wipe {S0 : PA1} {F : FP} {vs e : List Nat} {a : Addr} (h : inS S0 F e a) : inS (fun a => S0 a ∨ ∃ i ∈ vs, a ∈ F i) (cutF vs F) e a := by
  rcases h with h | ⟨i, h1, h2⟩
  · exact .inl (.inl h)
  · by_cases hi : i ∈ vs
    · exact .inl (.inr ⟨i, hi, h2⟩)
    · exact .inr ⟨i, h1, cutF_mem.mpr ⟨hi, h2⟩⟩
theorem inS_wipe0 {S0 : PA1} {F : FP} {vs : List Nat} {a : Addr} (h : inS (fun a => S0 a ∨ ∃ i ∈ vs, a ∈ F i) (cutF vs F) [] a) : inS S0 F [] a := by
  rcases h with (h | ⟨i, _, h2⟩) | ⟨i, h1, h2⟩
  · exact .inl h
  · exact .inr ⟨i, by simp, h2⟩
  · exact .inr ⟨i, by simp, (cutF_mem.mp h2).2⟩

/-- owned, in a row -/
def VRO (S0 : PA1) (F : FP) (T : List Addr) (H : Hp) : List R → List V → List Addr → Prop
  | [], vs, fp => vs = [] ∧ fp = []
  | r :: rs, vs, fp => ∃ v t f1 f2, vs = v :: t ∧ Ow (fun a => inS S0 F r.e a ∨ a ∈ T) H r.k r.d v f1 ∧ VRO S0 F T H rs t f2 ∧ fp = f1 ++ f2 ∧ ∀ a, a ∈ f1 → a ∉ f2
theorem VRO.there {S0 : PA1} {F : FP} {T : List Addr} {H : Hp} : ∀ {rs : List R} {vs : List V} {fp : List Addr}, VRO S0 F T H rs vs fp → ∀ a ∈ fp, TrM H a
  | [], _, _, ⟨_, e⟩, a, ha => by rw [e] at ha; cases ha
  | r :: rs, _, _, ⟨v, t, f1, f2, e, o, l, ef, dj⟩, a, ha => by
    rw [ef] at ha
    rcases List.mem_append.mp ha with ha | ha
    · exact Ow.there _ _ _ _ o a ha
    · exact l.there a ha
theorem VRO.length {S0 : PA1} {F : FP} {T : List Addr} {H : Hp} : ∀ {rs : List R} {vs : List V} {fp : List Addr}, VRO S0 F T H rs vs fp → vs.length = rs.length
  | [], _, _, ⟨e, _⟩ => by rw [e]; rfl
  | r :: rs, _, _, ⟨v, t, f1, f2, e, o, l, ef, dj⟩ => by rw [e, List.length_cons, List.length_cons, l.length]
theorem VRO.imp {S0 S1 : PA1} {F F1 : FP} {T T' : List Addr} {H H' : Hp} (h : ∀ e b o, H b = some o → ¬ (inS S0 F e b ∨ b ∈ T) → H' b = some o ∧ ¬ (inS S1 F1 e b ∨ b ∈ T')) : ∀ {rs : List R} {vs : List V} {fp : List Addr}, VRO S0 F T H rs vs fp → (∀ b o, b ∈ fp → H b = some o → H' b = some o) → VRO S1 F1 T' H' rs vs fp
  | [], _, _, x, _ => x
  | r :: rs, _, _, ⟨v, t, f1, f2, e, o, l, ef, dj⟩, g => ⟨v, t, f1, f2, e, Ow.imp (h _) _ _ _ _ (fun b o hb => g b o (by rw [ef]; exact List.mem_append_left _ hb)) o, l.imp h fun b o hb => g b o (by rw [ef]; exact List.mem_append_right _ hb), ef, dj⟩
theorem VRO.snoc {S0 : PA1} {F : FP} {T : List Addr} {H : Hp} {r : R} {v : V} {f : List Addr} (o : Ow (fun a => inS S0 F r.e a ∨ a ∈ T) H r.k r.d v f) : ∀ {rs : List R} {vs : List V} {fp : List Addr}, VRO S0 F T H rs vs fp → (∀ a ∈ fp, a ∉ f) → VRO S0 F T H (rs ++ [r]) (vs ++ [v]) (fp ++ f)
  | [], _, _, ⟨e1, e2⟩, _ => ⟨v, [], f, [], by rw [e1]; rfl, o, ⟨rfl, rfl⟩, by rw [e2]; simp, by simp⟩
  | q :: rs, _, _, ⟨w, t, f1, f2, e, ow, l, ef, dj⟩, n => ⟨w, t ++ [v], f1, f2 ++ f, by rw [e]; rfl, ow, l.snoc o (fun a ha => n a (by rw [ef]; exact List.mem_append_right _ ha)), by rw [ef, List.append_assoc], fun a h1 h2 => by
      rcases List.mem_append.mp h2 with h2 | h2
      · exact dj a h1 h2
      · exact n a (by rw [ef]; exact List.mem_append_left _ h1) h2⟩
theorem VRO.all {S0 : PA1} {F : FP} {T : List Addr} {H : Hp} {m : Nat} {E : List Nat} : ∀ {rs : List R} {vs : List V} {fp : List Addr}, VRO S0 F T H rs vs fp → (∀ r ∈ rs, scal r.d = true ∨ r.k = m) → (∀ r ∈ rs, ∀ i ∈ r.e, i ∈ E) → AllF (Ow (fun a => inS S0 F E a ∨ a ∈ T) H m) (rs.map (·.d)) vs fp
  | [], _, _, x, _, _ => x
  | r :: rs, _, _, ⟨v, t, f1, f2, e, o, l, ef, dj⟩, hm, he => by
    refine ⟨v, t, f1, f2, e, ?_, VRO.all l (fun r h => hm r (List.mem_cons_of_mem _ h)) (fun r h => he r (List.mem_cons_of_mem _ h)), ef, dj⟩
    have o' : Ow (fun a => inS S0 F E a ∨ a ∈ T) H r.k r.d v f1 := Ow.imp (fun b o q n => ⟨q, fun z => n (z.elim (fun z => .inl (inS_mono (he r List.mem_cons_self) z)) .inr)⟩) _ _ _ _ (fun _ _ _ q => q) o
    rcases hm r List.mem_cons_self with z | z
    · obtain ⟨o2, e2⟩ := scal_ow (S' := fun a => inS S0 F E a ∨ a ∈ T) (H' := H) z o' m
      rw [e2]; exact o2
    · rw [← z]; exact o'
theorem VRO.rp {S0 : PA1} {F : FP} {T : List Addr} {H : Hp} {E : List Nat} {S' : PA1} (hs : ∀ a, S' a → inS S0 F E a ∨ a ∈ T) : ∀ {rs : List R} {vs : List V} {fp : List Addr}, VRO S0 F T H rs vs fp → (∀ a ∈ fp, ¬ S' a) → (∀ r ∈ rs, ∀ i ∈ r.e, i ∈ E) → RpL S' H (rs.map (·.d)) vs
  | [], _, _, ⟨e, _⟩, _, _ => e
  | r :: rs, _, _, ⟨v, t, f1, f2, e, o, l, ef, dj⟩, n, he => ⟨v, t, e, Ow.frz (fun a _ _ z => (hs a z).elim (fun z => .inl (inS_mono (he r List.mem_cons_self) z)) .inr) _ _ _ _ (fun a ha => n a (by rw [ef]; exact List.mem_append_left _ ha)) o, l.rp hs (fun a ha => n a (by rw [ef]; exact List.mem_append_right _ ha)) fun r h => he r (List.mem_cons_of_mem _ h)⟩
theorem noX_ok {α : Type} {r : Res α} {a : α} (h : noX r = .ok a) : r = .ok a := by
  cases r with
  | ok b => exact h
  | exn x => cases h
  | bad => cases h

/-- the loop of a comprehension -/
theorem comp_loop {S0 : PA1} {ρ : Ev} {F : FP} {σ : St} {H1 : Hp} {c e : List Nat} {J : L2.It} {ds : List D} {tg : FG} {tt : FT} {te : FE} {vs : List Nat} {rs : List R} {Qd : Addr → Hp → Prop} (E : EE S0 ρ σ H1 F) (j : JOk (inS S0 F e) (inS S0 F c) J ds H1)
    (hc : compL tg tt te (wipeE (frzL c ρ) vs) ds = .ok rs) (hz : rs.length ≤ sizeLine) (hq : ∀ Dp H acc fp, Same H1 H → H1 Dp = none → (∀ a ∈ fp, H1 a = none) → H Dp = some (.lst acc) → Dp ∉ fp → VRO S0 (cutF c F) (Dp :: fp) H rs acc fp → Qd Dp H) (Dp : Addr) (nD : H1 Dp = none) :
    ∃ W : Nat → Nat → Hp → Prop, (∃ m, W 0 m (upd H1 Dp (.lst []))) ∧ ∀ i m H, W i m H →
      (J.stop i H ∧ Qd Dp H) ∨ (J.go i H ∧ ∃ Nx : Hp → Prop, (∀ H', Nx H' → ∃ m', m' < m ∧ W (i + 1) m' H') ∧ ∀ x H', J.yld i H x H' → rdG vs tg x (L2.wipe σ vs) H' fun σ2 H2 => L2.wipe σ2 vs = L2.wipe σ vs ∧ rdT W0 tt σ2 H2 fun b H3 =>
        if b = true then rdE W0 te σ2 H3 fun y H4 => ∃ acc, H4 Dp = some (.lst acc) ∧ acc.length < sizeLine ∧ Nx (upd H4 Dp (.lst (acc ++ [y]))) else Nx H3) := by
  have E1 : EE S0 (frzL c ρ) σ H1 (cutF c F) := E.frzL c
  refine ⟨fun i m H => m = ds.length - i ∧ i ≤ ds.length ∧ Same H1 H ∧ ∃ done left acc fp, rs = done ++ left ∧ compL tg tt te (wipeE (frzL c ρ) vs) (ds.drop i) = .ok left ∧ H Dp = some (.lst acc) ∧ Dp ∉ fp ∧ (∀ a ∈ fp, H1 a = none) ∧ VRO S0 (cutF c F) (Dp :: fp) H done acc fp,
    ⟨ds.length, by simp, Nat.zero_le _, same_upd nD, [], rs, [], [], rfl, hc, upd_same, by simp, by simp, ⟨rfl, rfl⟩⟩, ?_⟩
  rintro i m H ⟨rfl, hi, sm, done, left, acc, fp, ers, hl, hD, nDf, nfp, vl⟩
  obtain ⟨j1, j2⟩ := j H (KeepS.of sm) i
  by_cases hlt : i < ds.length
  · refine .inr ⟨(j2 _ (List.getElem?_eq_getElem hlt)).1, fun H' => Same H1 H' ∧ ∃ done left acc fp, rs = done ++ left ∧ compL tg tt te (wipeE (frzL c ρ) vs) (ds.drop (i + 1)) = .ok left ∧ H' Dp = some (.lst acc) ∧ Dp ∉ fp ∧ (∀ a ∈ fp, H1 a = none) ∧ VRO S0 (cutF c F) (Dp :: fp) H' done acc fp,
      fun H' h => ⟨ds.length - (i + 1), by omega, rfl, hlt, h⟩, fun x H' y => ?_⟩
    obtain ⟨s2, rx⟩ := (j2 _ (List.getElem?_eq_getElem hlt)).2 x H' y
    rw [List.drop_eq_getElem_cons hlt] at hl
    unfold compL at hl
    have sm2 : Same H1 H' := sm.trans s2
    have hD2 : H' Dp = some (.lst acc) := s2 _ _ hD
    have vl2 : VRO S0 (cutF c F) (Dp :: fp) H' done acc fp := vl.imp (fun _ _ _ q n => ⟨s2 _ _ q, n⟩) fun _ _ _ q => s2 _ _ q
    -- the environment of this turn: the new list and what it owns are forbidden
    have E2 : EE (fun a => S0 a ∨ a ∈ Dp :: fp) (frzL c ρ) σ H' (cutF c F) := E1.ext sm2 (fun a h => h.elim .inl fun h => .inr ((List.mem_cons.mp h).elim (fun z => z ▸ nD) (nfp a))) fun a h => h.elim (fun h => (E1.out a h).grow sm2) fun h => (List.mem_cons.mp h).elim (fun z => z ▸ ⟨_, hD2, trivial⟩) (vl2.there a)
    have E3 := E2.wipe vs
    -- the item stays outside of what is forbidden
    have rx3 : Rp (inS (fun a => (S0 a ∨ a ∈ Dp :: fp) ∨ ∃ i ∈ vs, a ∈ cutF c F i) (cutF vs (cutF c F)) []) H' ds[i] x := by
      refine rx _ (fun b o q n => ⟨sm _ _ q, fun z => ?_⟩) fun b z => ?_
      · rcases z with ((z | z) | ⟨k, _, z⟩) | ⟨k, _, z⟩
        · exact n (.inl z)
        · rcases List.mem_cons.mp z with z | z
          · exact ne_of_none q nD z
          · exact ne_of_none q (nfp b z) rfl
        · obtain ⟨z1, z2⟩ := cutF_mem.mp z
          exact n (.inr ⟨k, z1, z2⟩)
        · obtain ⟨z1, z2⟩ := cutF_mem.mp (cutF_mem.mp z).2
          exact n (.inr ⟨k, z1, z2⟩)
      · have E2H : EE (fun a => S0 a ∨ a ∈ Dp :: fp) (frzL c ρ) σ H (cutF c F) := E1.ext sm (fun a h => h.elim .inl fun h => .inr ((List.mem_cons.mp h).elim (fun z => z ▸ nD) (nfp a))) fun a h => h.elim (fun h => (E1.out a h).grow sm) fun h => (List.mem_cons.mp h).elim (fun z => z ▸ ⟨_, hD, trivial⟩) (vl.there a)
        obtain ⟨o, ho, _⟩ := (E2H.wipe vs).inTr z
        exact ⟨o, ho⟩
    cases ht : tg ds[i] (wipeE (frzL c ρ) vs) with
    | none => rw [ht] at hl; cases hl
    | some ρ2 =>
      rw [ht] at hl
      simp only at hl
      refine ⟨_, _, _, ds[i], E3, fun k hk => by simp [cutF, hk], rx3, ρ2, ht, fun σ2 E4 hl2 ha2 => ⟨(wipe_same hl2 ha2).trans wipe_wipe, ?_⟩⟩
      refine ⟨_, ρ2, _, E4, ?_⟩
      cases hb : tt ρ2 with
      | bad => rw [hb] at hl; cases hl
      | exn _ => rw [hb] at hl; cases hl
      | ok b =>
        intro H3 s3
        rw [hb] at hl
        have hl : (if b = true then (noX (te ρ2)).bind fun r => (compL tg tt te (wipeE (frzL c ρ) vs) (ds.drop (i + 1))).bind fun rs => .ok (r :: rs) else compL tg tt te (wipeE (frzL c ρ) vs) (ds.drop (i + 1))) = .ok left := hl
        cases b with
        | false =>
          rw [if_neg Bool.false_ne_true] at hl ⊢
          exact ⟨sm2.trans s3, done, left, acc, fp, ers, hl, s3 _ _ hD2, nDf, nfp, vl2.imp (fun _ _ _ q n => ⟨s3 _ _ q, n⟩) fun _ _ _ q => s3 _ _ q⟩
        | true =>
          rw [if_pos rfl] at hl ⊢
          have E5 := E4.grow s3
          refine ⟨_, ρ2, _, E5, ?_⟩
          cases he : te ρ2 with
          | bad => rw [he] at hl; cases hl
          | exn _ => rw [he] at hl; cases hl
          | ok r =>
            intro y H4 f s4 nf vy
            rw [he] at hl
            have hl : (compL tg tt te (wipeE (frzL c ρ) vs) (ds.drop (i + 1))).bind (fun rs => .ok (r :: rs)) = .ok left := hl
            cases hr : compL tg tt te (wipeE (frzL c ρ) vs) (ds.drop (i + 1)) with
            | bad => rw [hr] at hl; cases hl
            | exn _ => rw [hr] at hl; cases hl
            | ok left' =>
              rw [hr] at hl
              cases hl
              have sm4 : Same H' H4 := s3.trans s4
              have hD4 : H4 Dp = some (.lst acc) := sm4 _ _ hD2
              have nf1 : ∀ a ∈ f, H1 a = none := fun a ha => sm2.free (s3.free (nf a ha))
              have nDf' : Dp ∉ f := fun z => by have := nf Dp z; rw [s3 _ _ hD2] at this; cases this
              have fpf : ∀ a ∈ fp, a ∉ f := fun a ha z => by
                obtain ⟨o, ho, _⟩ := vl2.there a ha
                have := nf a z
                rw [s3 _ _ ho] at this; cases this
              have lenA : acc.length = done.length := vl2.length
              refine ⟨acc, hD4, ?_, ?_⟩
              · rw [lenA]
                rw [ers] at hz
                simp at hz
                omega
              · -- the new item at the end
                have su : ∀ b o, b ≠ Dp → H4 b = some o → upd H4 Dp (.lst (acc ++ [y])) b = some o := fun b o hb q => by rw [upd_ne hb]; exact q
                refine ⟨fun b o q => su b o (ne_of_none q nD) (sm4 _ _ (sm2 _ _ q)), done ++ [r], left', acc ++ [y], fp ++ f, by rw [ers]; simp, rfl, upd_same, by simp [nDf, nDf'], fun a ha => (List.mem_append.mp ha).elim (nfp a) (nf1 a), ?_⟩
                have neD : ∀ a ∈ fp, a ≠ Dp := fun a ha z => nDf (z ▸ ha)
                refine VRO.snoc ?_ (vl2.imp (fun e b o q n => ⟨su b o (fun z => n (.inr (by rw [z]; exact List.mem_cons_self))) (sm4 _ _ q), fun z => n ?_⟩) fun b o hb q => su b o (neD b hb) (sm4 _ _ q)) fpf
                · refine Ow.imp (fun b o q n => ⟨su b o (fun z => n (.inl (.inl (.inl (.inr (by rw [z]; exact List.mem_cons_self)))))) q, fun z => n ?_⟩) _ _ _ _ (fun b o hb q => su b o (fun z => nDf' (z ▸ hb)) q) vy.ow
                  rcases z with z | z
                  · exact .inl (inS_wipe (z.elim (fun z => .inl (.inl z)) .inr))
                  · rcases List.mem_cons.mp z with z | z
                    · exact .inl (.inl (.inl (.inr (by rw [z]; exact List.mem_cons_self))))
                    · rcases List.mem_append.mp z with z | z
                      · exact .inl (.inl (.inl (.inr (List.mem_cons_of_mem _ z))))
                      · exact .inr z
                · rcases z with z | z
                  · exact .inl z
                  · rcases List.mem_cons.mp z with z | z
                    · exact .inr (by rw [z]; exact List.mem_cons_self)
                    · rcases List.mem_append.mp z with z | z
                      · exact .inr (List.mem_cons_of_mem _ z)
                      · have := nf b z
                        rw [s3 _ _ q] at this; cases this
  · have e : i = ds.length := by omega
    subst e
    rw [List.drop_length] at hl
    cases hl
    rw [List.append_nil] at ers
    subst ers
    exact .inl ⟨j1 (Nat.le_refl _), hq Dp H acc fp sm nD nfp hD nDf vl⟩
/-- what an owned value is, with its items -/
theorem VR.of {S0 : PA1} {F : FP} {H : Hp} {d : D} {k : Nat} {e : List Nat} {v : V} {fp : List Addr} (o : Ow (fun a => inS S0 F e a ∨ a ∈ fp) H k d v fp) (n : ∀ a ∈ fp, ¬ inS S0 F e a) : VR S0 F H ⟨d, k, e, e⟩ v fp :=
  ⟨o, items_of o (fun a _ _ z => .inl z) (.inr n)⟩
theorem rd_lc {dep : Nat} {W : WK} {it : FI} {tg : FG} {tt : FT} {te : FE} {vs : List Nat} {σ : St} {H : Hp} {Q : VK} (h : rdE W (fComp dep it tg tt te vs) σ H Q) : tLc (rdI W it) (rdG vs tg) (rdT W0 tt) (rdE W0 te) vs σ H Q := by
  obtain ⟨S0, ρ, F, E, p⟩ := h
  refine ⟨S0, ρ, F, E, ?_⟩
  unfold fComp at p
  cases q : it ρ with
  | bad => rw [q] at p; exact p.elim
  | exn x => rw [q] at p; exact p
  | ok s =>
    rw [q] at p
    intro J H1 sm j Dp nD
    have p : Post W S0 F σ H Q ((compL tg tt te (wipeE (frzL s.c ρ) vs) s.ds).bind (dispC dep s.c)) := p
    have nx : ∀ (ds : List D) (ρ : Ev) x, compL tg tt te ρ ds ≠ .exn x := by
      intro ds
      induction ds with
      | nil => intro ρ x h; cases h
      | cons d ds ih =>
        intro ρ x h
        unfold compL at h
        cases ht : tg d ρ with
        | none => rw [ht] at h; cases h
        | some ρ2 =>
          rw [ht] at h
          simp only at h
          cases hb : tt ρ2 with
          | bad => rw [hb] at h; cases h
          | exn _ => rw [hb] at h; cases h
          | ok b =>
            rw [hb] at h
            have h : (if b = true then (noX (te ρ2)).bind fun r => (compL tg tt te ρ ds).bind fun rs => .ok (r :: rs) else compL tg tt te ρ ds) = .exn x := h
            cases b with
            | false => rw [if_neg Bool.false_ne_true] at h; exact ih ρ x h
            | true =>
              rw [if_pos rfl] at h
              cases he : te ρ2 with
              | bad => rw [he] at h; cases h
              | exn _ => rw [he] at h; cases h
              | ok r =>
                rw [he] at h
                have h : (compL tg tt te ρ ds).bind (fun rs => .ok (r :: rs)) = .exn x := h
                cases hr : compL tg tt te ρ ds with
                | bad => rw [hr] at h; cases h
                | exn y => exact ih ρ y hr
                | ok rs => rw [hr] at h; cases h
    cases hc : compL tg tt te (wipeE (frzL s.c ρ) vs) s.ds with
    | bad => rw [hc] at p; exact p.elim
    | exn x => exact (nx _ _ _ hc).elim
    | ok rs =>
      rw [hc] at p
      have p : Post W S0 F σ H Q (dispC dep s.c rs) := p
      unfold dispC at p
      split at p
      · rename_i hz
        refine comp_loop (Qd := fun Dp H => Q (.ref Dp) H) (E.grow sm) j hc hz (fun Dp H2 acc fp s2 nD nfp hD nDf vl => ?_) Dp nD
        have s12 := sm.trans s2
        have n0 : ∀ a ∈ fp, H a = none := fun a ha => sm.free (nfp a ha)
        have nD0 : H Dp = none := sm.free nD
        have cv : ∀ {e : List Nat} {a : Addr}, inS S0 F (s.c ++ e) a → inS S0 (cutF s.c F) e a := fun h => inS_cut.mpr h
        have hE : ∀ r ∈ rs, ∀ i ∈ r.e, i ∈ esL rs := fun r h => esL_mem h
        have nfpE : ∀ e, ∀ a ∈ Dp :: fp, ¬ inS S0 F e a := fun e a ha z => E.fresh z ((List.mem_cons.mp ha).elim (fun q => q ▸ nD0) (n0 a))
        -- owned so deep
        have key : ∃ fq, (∀ a ∈ fq, H a = none) ∧ Ow (fun a => inS S0 F (s.c ++ esL rs) a ∨ a ∈ fq) H2 (hDep dep rs + 1) (.lst (rs.map (·.d))) (.ref Dp) fq := by
          by_cases hd : hDep dep rs = 0
          · refine ⟨[Dp], fun a ha => by rw [List.mem_singleton.mp ha]; exact nD0, ?_⟩
            rw [hd]
            exact ⟨Dp, acc, [], rfl, hD, all_zero (vl.rp (E := esL rs) (fun a z => z.elim (fun z => .inl (cv z)) fun z => .inr (by rw [List.mem_singleton.mp z]; exact List.mem_cons_self)) (fun a ha z => z.elim (nfpE _ a (List.mem_cons_of_mem _ ha)) fun z => nDf ((List.mem_singleton.mp z) ▸ ha)) hE), rfl, by simp⟩
          · refine ⟨Dp :: fp, fun a ha => (List.mem_cons.mp ha).elim (fun q => q ▸ nD0) (n0 a), Dp, acc, fp, rfl, hD, ?_, rfl, nDf⟩
            have al := vl.all (m := hDep dep rs) (E := esL rs) (fun r h => (hDep_sc r h).elim .inl fun z => z.elim .inr fun z => absurd z hd) hE
            exact al.mono (fun b o q n => ⟨q, fun z => n (z.elim (fun z => .inl (cv z)) .inr)⟩) (Same.refl _)
        obtain ⟨fq, nq, o⟩ := key
        have nqE : ∀ e, ∀ a ∈ fq, ¬ inS S0 F e a := fun e a ha z => E.fresh z (nq a ha)
        simp only at p
        split at p
        · rename_i ha
          have E2 := E.grow s12
          have tr := Ow.there _ _ _ _ o
          exact p _ H2 fq s12 nq (VR.of (Ow.af (fun a z => z.elim (fun z => E2.inTr z) (tr a)) _ _ _ _ ha o) (nqE _))
        · exact p _ H2 fq s12 nq (VR.of o (nqE _))
      · exact p.elim

theorem ptsI {X : Cx} {e : List Expr} {t t' : TT} (h : PTs X e t) (i : ∀ σ H Q, t' σ H Q → t σ H Q) : PTs X e t' := ⟨fun pins s σ H Q I q => h.run pins s σ H Q I (i σ H Q q)⟩
def fYes : FT := fun _ => .ok true
section
variable {X : Cx} {W : WK}
theorem ts_nil : PTs X [] (rdT W fYes) := ptsI pts_nil fun σ H Q ⟨S0, ρ, F, E, p⟩ => p H (Same.refl H)
theorem ts_one {c : Expr} {t : FT} (h : PT X c (rdT W t)) : PTs X [c] (rdT W t) := pts_one h
theorem e_comp {dep : Nat} {elt tg iter : Expr} {ifs : List Expr} {scope : Scope} {own : List (Str × Nat)} {pos : Pos} {it : FI} {g : FG} {tt : FT} {te : FE} (hc : X.calm = true) (hN : X.N.Nodup) (hi : PI X tg iter (rdI W it)) (ok : BlkOk X.N X.env.scope scope own)
    (hg : ∀ (s : Shared) (H : Hp) (C : Addr) (cl : List (Str × Addr)) (fp : List Addr), PG (X.blk s H scope (compEnvC scope cl C X.env) fp) tg (rdG (own.map (·.2)) g)) (ht : ∀ (s : Shared) (H : Hp) (C : Addr) (cl : List (Str × Addr)) (fp : List Addr), PTs (X.blk s H scope (compEnvC scope cl C X.env) fp) ifs (rdT W0 tt))
    (he : ∀ (s : Shared) (H : Hp) (C : Addr) (cl : List (Str × Addr)) (fp : List Addr), PE (X.blk s H scope (compEnvC scope cl C X.env) fp) elt (rdE W0 te)) (hs : ∀ x, foldedSetIterable iter X.env x = pure x := by intro _; rfl) :
    PE X (.ListComp elt [⟨tg, iter, ifs, 0⟩] scope pos) (rdE W (fComp dep it g tt te (own.map (·.2)))) :=
  peI (pe_lc hc hN hi ok hg ht he hs) fun _ _ _ h => rd_lc h
end
end PyL

namespace PyL
open PySem PySem.Spec L2
set_option autoImplicit false

/-! ### the state of a def's body -/
structure ER (S0 : PA1) (H0 : Hp) (ρ : Ev) (σ : St) (H : Hp) (F : FP) : Prop where
  ee : EE S0 ρ σ H F
  new : ∀ i a, a ∈ F i → H0 a = none
  same : Same H0 H
  old : ∀ a, S0 a → ∃ o, H0 a = some o
theorem ER.grow {S0 : PA1} {H0 : Hp} {ρ : Ev} {σ : St} {H H' : Hp} {F : FP} (E : ER S0 H0 ρ σ H F) (s : Same H H') : ER S0 H0 ρ σ H' F := ⟨E.ee.grow s, E.new, E.same.trans s, E.old⟩
theorem ER.weaken {S0 : PA1} {H0 H1 : Hp} {ρ : Ev} {σ : St} {H : Hp} {F : FP} (E : ER S0 H1 ρ σ H F) (s : Same H0 H1) (old : ∀ a, S0 a → ∃ o, H0 a = some o) : ER S0 H0 ρ σ H F :=
  ⟨E.ee, fun i a h => s.free (E.new i a h), s.trans E.same, old⟩
theorem ER.frzL {S0 : PA1} {H0 : Hp} {ρ : Ev} {σ : St} {H : Hp} {F : FP} (E : ER S0 H0 ρ σ H F) (e : List Nat) : ER S0 H0 (frzL e ρ) σ H (cutF e F) :=
  ⟨E.ee.frzL e, fun i a h => E.new i a (cutF_mem.mp h).2, E.same, E.old⟩
/-- the base taken anew: all that is not one's own -/
noncomputable def cutH (H : Hp) (F : FP) : Hp := fun a => open Classical in if ∃ i, a ∈ F i then none else H a
theorem cutH_some {H : Hp} {F : FP} {a : Addr} {o : HO} (h : H a = some o) (n : ∀ i, a ∉ F i) : cutH H F a = some o := by
  unfold cutH
  rw [if_neg (fun ⟨i, z⟩ => n i z)]
  exact h
theorem cutH_same {H : Hp} {F : FP} : Same (cutH H F) H := fun b o e => by
  unfold cutH at e
  split at e
  · cases e
  · exact e
theorem cutH_none {H : Hp} {F : FP} {i : Nat} {a : Addr} (h : a ∈ F i) : cutH H F a = none := by
  unfold cutH
  rw [if_pos ⟨i, h⟩]
theorem ER.rebase {S0 : PA1} {H0 : Hp} {ρ : Ev} {σ : St} {H : Hp} {F : FP} (E : ER S0 H0 ρ σ H F) : ER S0 (cutH H F) ρ σ H F ∧ Same H0 (cutH H F) :=
  ⟨⟨E.ee, fun i a h => cutH_none h, cutH_same, fun a h => by
      obtain ⟨o, ho⟩ := E.old a h
      exact ⟨o, cutH_some (E.same _ _ ho) fun i z => E.ee.apart i a z h⟩⟩, fun b o e => cutH_some (E.same _ _ e) fun i z => by rw [E.new i b z] at e; cases e⟩

inductive Out where
  | nx (ρ : Ev) | rt (d : D) (k : Nat) | bk (ρ : Ev) | ct (ρ : Ev) | ex (x : Exn) (ρ : Ev) | bad
abbrev FS := Ev → Out
def PostS (W : WK) (S0 : PA1) (H0 : Hp) (Dn : Ends) : Out → Prop
  | .nx ρ => ∀ σ H F, ER S0 H0 ρ σ H F → Dn.nx σ H
  | .bk ρ => ∀ σ H F, ER S0 H0 ρ σ H F → Dn.bk σ H
  | .ct ρ => ∀ σ H F, ER S0 H0 ρ σ H F → Dn.ct σ H
  | .rt d k => ∀ v H fp, Same H0 H → (∀ a ∈ fp, H0 a = none) → Ow (fun a => S0 a ∨ a ∈ fp) H k d v fp → Dn.rt v H
  | .ex x ρ => ∀ σ H F, ER S0 H0 ρ σ H F → ∀ d, repF S0 x.fs d H → W x.cls d σ H
  | .bad => False
def rdS (W : WK) (f : FS) : TS := fun Dn σ H => ∃ S0 H0 ρ F, ER S0 H0 ρ σ H F ∧ PostS W S0 H0 Dn (f ρ)
theorem PostS.weak {W : WK} {S0 : PA1} {H0 H1 : Hp} {Dn : Ends} (s : Same H0 H1) (old : ∀ a, S0 a → ∃ o, H0 a = some o) : ∀ {o : Out}, PostS W S0 H0 Dn o → PostS W S0 H1 Dn o
  | .nx _, h => fun σ H F E => h σ H F (E.weaken s old)
  | .bk _, h => fun σ H F E => h σ H F (E.weaken s old)
  | .ct _, h => fun σ H F E => h σ H F (E.weaken s old)
  | .rt _ _, h => fun v H fp sm n o => h v H fp (s.trans sm) (fun a ha => s.free (n a ha)) o
  | .ex _ _, h => fun σ H F E => h σ H F (E.weaken s old)
  | .bad, h => h

def stE (f : FE) (g : R → Ev → Out) : FS := fun ρ => match f ρ with
  | .ok r => g r ρ
  | .exn x => .ex x ρ
  | .bad => .bad
theorem ps_bind {W : WK} {S0 : PA1} {H0 : Hp} {ρ : Ev} {F : FP} {σ : St} {H : Hp} {Dn : Ends} {f : FE} {g : R → Ev → Out} {K : V → Hp → Prop} (E : ER S0 H0 ρ σ H F) (h : PostS W S0 H0 Dn (stE f g ρ))
    (k : ∀ r v H1 fp, Same H H1 → (∀ a ∈ fp, H a = none) → VR S0 F H1 r v fp → ER S0 H0 ρ σ H1 F → PostS W S0 H0 Dn (g r ρ) → K v H1) : rdE W f σ H K := by
  refine ⟨S0, ρ, F, E.ee, ?_⟩
  unfold stE at h
  cases q : f ρ with
  | ok r =>
    rw [q] at h
    exact fun v H1 fp s n vr => k r v H1 fp s n vr (E.grow s) h
  | exn x => rw [q] at h; exact fun H' s => h σ H' F (E.grow s)
  | bad => rw [q] at h; exact h
def stT (f : FT) (g : Bool → Ev → Out) : FS := fun ρ => match f ρ with
  | .ok b => g b ρ
  | .exn x => .ex x ρ
  | .bad => .bad
theorem ps_tbind {W : WK} {S0 : PA1} {H0 : Hp} {ρ : Ev} {F : FP} {σ : St} {H : Hp} {Dn : Ends} {f : FT} {g : Bool → Ev → Out} {K : Bool → Hp → Prop} (E : ER S0 H0 ρ σ H F) (h : PostS W S0 H0 Dn (stT f g ρ))
    (k : ∀ b H1, Same H H1 → ER S0 H0 ρ σ H1 F → PostS W S0 H0 Dn (g b ρ) → K b H1) : rdT W f σ H K := by
  refine ⟨S0, ρ, F, E.ee, ?_⟩
  unfold stT at h
  cases q : f ρ with
  | ok b => rw [q] at h; exact fun H1 s => k b H1 s (E.grow s) h
  | exn x => rw [q] at h; exact fun H' s => h σ H' F (E.grow s)
  | bad => rw [q] at h; exact h

/-! ### a slot's value is put, taken, changed -/
def putF (i : Nat) (fp : List Addr) (F : FP) : FP := fun j => if j = i then fp else F j
theorem putF_mem {i : Nat} {fp : List Addr} {F : FP} {j : Nat} {a : Addr} : a ∈ putF i fp F j ↔ (j = i ∧ a ∈ fp) ∨ (j ≠ i ∧ a ∈ F j) := by
  unfold putF
  split
  · simp_all
  · simp_all
/-- slot i gets an owned value; its old one is dropped -/
theorem EE.put {S0 : PA1} {ρ : Ev} {σ : St} {H : Hp} {F : FP} (E : EE S0 ρ σ H F) {i : Nat} {d : D} {k : Nat} {v : V} {fp : List Addr} (o : Ow (fun a => inS S0 F [i] a ∨ a ∈ fp) H k d v fp)
    (nS : ∀ a ∈ fp, ¬ inS S0 F [i] a) (nO : ∀ j d' k' w, j ≠ i → ρ[j]? = some (some (d', k')) → σ[j]? = some (some w) → Ow (inS S0 F []) H k' d' w (F j) → Ow (fun a => inS S0 F [i] a ∨ a ∈ fp) H k' d' w (F j)) :
    EE S0 (ρ.set i (some (d, k))) (σ.set i (some v)) H (putF i fp F) where
  len := by rw [List.length_set, List.length_set]; exact E.len
  rep := fun j d' k' h => by
    have sub : ∀ a, inS S0 (putF i fp F) [] a → inS S0 F [i] a ∨ a ∈ fp := fun a z => by
      rcases z with z | ⟨n, _, z⟩
      · exact .inl (.inl z)
      · rcases putF_mem.mp z with ⟨_, z⟩ | ⟨z1, z2⟩
        · exact .inr z
        · exact .inl (.inr ⟨n, by simp [z1], z2⟩)
    by_cases hj : j = i
    · subst hj
      have hl : j < ρ.length := by
        have := (List.getElem?_eq_some_iff.mp h).1
        rwa [List.length_set] at this
      rw [List.getElem?_set_self hl] at h
      cases h
      refine ⟨v, by rw [List.getElem?_set_self (by rw [← E.len]; exact hl)], ?_⟩
      rw [show putF j fp F j = fp by simp [putF]]
      exact Ow.imp (fun b o q n => ⟨q, fun z => n (sub b z)⟩) _ _ _ _ (fun _ _ _ q => q) o
    · rw [List.getElem?_set_ne (Ne.symm hj)] at h
      obtain ⟨w, e, ow⟩ := E.rep j d' k' h
      refine ⟨w, by rw [List.getElem?_set_ne (Ne.symm hj)]; exact e, ?_⟩
      rw [show putF i fp F j = F j by simp [putF, hj]]
      exact Ow.imp (fun b o q n => ⟨q, fun z => n (sub b z)⟩) _ _ _ _ (fun _ _ _ q => q) (nO j d' k' w hj h e ow)
  disj := fun a b c h1 h2 => by
    rcases putF_mem.mp h1 with ⟨a1, a2⟩ | ⟨a1, a2⟩ <;> rcases putF_mem.mp h2 with ⟨b1, b2⟩ | ⟨b1, b2⟩
    · rw [a1, b1]
    · exact (nS c a2 (.inr ⟨b, by simp [b1], b2⟩)).elim
    · exact (nS c b2 (.inr ⟨a, by simp [a1], a2⟩)).elim
    · exact E.disj a b c a2 b2
  trk := fun j a h => by
    rcases putF_mem.mp h with ⟨_, h⟩ | ⟨_, h⟩
    · exact Ow.there _ _ _ _ o a h
    · exact E.trk j a h
  out := E.out
  apart := fun j a h z => by
    rcases putF_mem.mp h with ⟨_, h⟩ | ⟨_, h⟩
    · exact nS a h (.inl z)
    · exact E.apart j a h z
/-- a new value (its own part is new) is stored in slot i -/
theorem ER.assign {S0 : PA1} {H0 : Hp} {ρ : Ev} {σ : St} {H H1 : Hp} {F : FP} (E : ER S0 H0 ρ σ H F) {i : Nat} {d : D} {k : Nat} {e : List Nat} {v : V} {fp : List Addr} (s : Same H H1) (n : ∀ a ∈ fp, H a = none) (o : Ow (fun a => inS S0 F e a ∨ a ∈ fp) H1 k d v fp) :
    ∃ F', ER S0 H0 ((PyL.frzL e ρ).set i (some (d, k))) (σ.set i (some v)) H1 F' := by
  have E1 := (E.frzL e)
  have E2 := E1.grow s
  refine ⟨putF i fp (cutF e F), ⟨E2.ee.put ?_ (fun a ha z => ?_) (fun j d' k' w hj h1 h2 ow => ?_), fun j a h => ?_, E2.same, E.old⟩⟩
  · refine Ow.imp (fun b o q n => ⟨q, fun z => n (z.elim (fun z => .inl ?_) .inr)⟩) _ _ _ _ (fun _ _ _ q => q) o
    exact inS_mono (fun i h => List.mem_append_left _ h) (inS_cut.mp z)
  · exact E.ee.fresh (inS_cut.mp z) (n a ha)
  · obtain ⟨w', e', ow0⟩ := E1.ee.rep j d' k' h1
    have h2' : σ[j]? = some (some w) := h2
    rw [e'] at h2'; cases h2'
    refine Ow.imp (fun b o q n' => ⟨s _ _ q, fun z => z.elim (fun z => n' (inS_mono (e := []) (e' := [i]) (fun _ h => by cases h) z)) fun z => ?_⟩) _ _ _ _ (fun b o _ q => s _ _ q) ow0
    rw [n b z] at q; cases q
  · rcases putF_mem.mp h with ⟨_, h⟩ | ⟨_, h⟩
    · exact E.same.free (n a h)
    · exact E1.new j a h

/-! ### statements -/
def sSet (i : Nat) (f : FE) : FS := stE f fun r ρ => .nx ((frzL r.e ρ).set i (some (r.d, r.k)))
def sRet (f : FE) : FS := stE f fun r _ => .rt r.d r.k
def sRetN : FS := fun _ => .rt .non 0
def sRetV (i : Nat) : FS := fun ρ => match ρ[i]? with
  | some (some (d, k)) => .rt d k
  | _ => .bad
def sExpr (f : FE) : FS := stE f fun _ ρ => .nx ρ
def sIf (t : FT) (f g : FS) : FS := stT t fun b ρ => if b then f ρ else g ρ
def sSeq (f g : FS) : FS := fun ρ => match f ρ with
  | .nx ρ' => g ρ'
  | o => o
def sNil : FS := fun ρ => .nx ρ
def sBrk : FS := fun ρ => .bk ρ
def sCnt : FS := fun ρ => .ct ρ
section
variable {X : Cx} {W : WK} {e : Expr} {fe : FE} {st : Stmt} {sts rest : List Stmt} {f g : FS} {pos : Pos}
theorem set_post {S0 : PA1} {H0 : Hp} {ρ : Ev} {F : FP} {σ : St} {H H1 : Hp} {Dn : Ends} {i : Nat} {r : R} {v : V} {fp : List Addr} (E : ER S0 H0 ρ σ H F) (s : Same H H1) (n : ∀ a ∈ fp, H a = none) (vr : VR S0 F H1 r v fp)
    (p : PostS W S0 H0 Dn (.nx ((frzL r.e ρ).set i (some (r.d, r.k))))) : Dn.nx (σ.set i (some v)) H1 := by
  obtain ⟨F', E'⟩ := E.assign s n vr.ow (i := i)
  exact p _ _ _ E'
theorem s_set {i : Nat} {x : Str} {pos' : Pos} (hN : X.N.Nodup) (hi : X.N[i]? = some x) (hx : Loc X.env.scope x) (he : PE X e (rdE W fe)) (hs : swapsWith e (some (.Name x pos')) pos.line X.env = pure false := by rfl) (hf : X.fn x = true ∨ X.env.scope.names.lookup x = some .local := by first | exact .inl rfl | exact .inr rfl | assumption) :
    PS X (.Assign [.Name x pos'] e pos) (rdS W (sSet i fe)) :=
  psI (ps_set hN hi hx he hs hf) fun Dn σ H ⟨S0, H0, ρ, F, E, p⟩ => ps_bind E p fun r v H1 fp s n vr E1 p1 => set_post E s n vr p1
/-- y = [..], a comprehension -/
theorem s_setLc {i dep : Nat} {y : Str} {py : Pos} {elt tg iter : Expr} {ifs : List Expr} {scope : Scope} {own : List (Str × Nat)} {spos : Pos} {it : FI} {tgf : FG} {tt : FT} {te : FE} (hc : X.calm = true) (hN : X.N.Nodup) (hy : X.N[i]? = some y) (hyl : X.env.scope.names.lookup y = some .local)
    (hsw : swapsWith (.ListComp elt [⟨tg, iter, ifs, 0⟩] scope pos) (some (.Name y py)) spos.line X.env = pure true) (hi : PI X tg iter (rdI W it)) (ok : BlkOk X.N X.env.scope scope own)
    (hg : ∀ (s : Shared) (H : Hp) (C : Addr) (cl : List (Str × Addr)) (fp : List Addr), PG (X.blk s H scope (compEnvC scope cl C X.env) fp) tg (rdG (own.map (·.2)) tgf)) (ht : ∀ (s : Shared) (H : Hp) (C : Addr) (cl : List (Str × Addr)) (fp : List Addr), PTs (X.blk s H scope (compEnvC scope cl C X.env) fp) ifs (rdT W0 tt))
    (he : ∀ (s : Shared) (H : Hp) (C : Addr) (cl : List (Str × Addr)) (fp : List Addr), PE (X.blk s H scope (compEnvC scope cl C X.env) fp) elt (rdE W0 te)) (hs : ∀ x, foldedSetIterable iter X.env x = pure x := by intro _; rfl) :
    PS X (.Assign [.Name y py] (.ListComp elt [⟨tg, iter, ifs, 0⟩] scope pos) spos) (rdS W (sSet i (fComp dep it tgf tt te (own.map (·.2))))) :=
  psI (ps_setLc hc hN hy hyl hsw hi ok hg ht he hs) fun Dn σ H ⟨S0, H0, ρ, F, E, p⟩ => rd_lc (ps_bind E p fun r v H1 fp s n vr E1 p1 => set_post E s n vr p1)
theorem s_ret (he : PE X e (rdE W fe)) : PS X (.Return (some e) pos) (rdS W (sRet fe)) :=
  psI (ps_ret he) fun Dn σ H ⟨S0, H0, ρ, F, E, p⟩ => ps_bind E p fun r v H1 fp s n vr E1 p1 =>
    p1 v H1 fp E1.same (fun a ha => E.same.free (n a ha)) (Ow.imp (fun b o q n => ⟨q, fun z => n (z.elim (fun z => .inl (.inl z)) .inr)⟩) _ _ _ _ (fun _ _ _ q => q) vr.ow)
theorem s_retN : PS X (.Return none pos) (rdS W sRetN) := psI ps_retN fun Dn σ H ⟨S0, H0, ρ, F, E, p⟩ => p .non H [] E.same (fun a ha => by cases ha) ⟨rfl, rfl⟩
theorem s_retV (i : Nat) {x : Str} {p' : Pos} (hN : X.N[i]? = some x := by rfl) (hv : Vis X.env.scope x := by first | exact Or.inl rfl | exact Or.inr (Or.inl rfl) | exact Or.inr (Or.inr rfl)) (hd : (x == ("__debug__" : Str)) = false := by decide)
    (hcd : (x == ("__classdict__" : Str)) = false := by decide) : PS X (.Return (some (.Name x p')) pos) (rdS W (sRetV i)) :=
  psI (ps_ret (pe_var (i := i) hN hv hd hcd)) fun Dn σ H ⟨S0, H0, ρ, F, E, p⟩ => by
    unfold sRetV at p
    split at p
    · rename_i d k q
      obtain ⟨v, e, o⟩ := E.ee.rep i d k q
      refine ⟨v, e, p v H (F i) E.same (E.new i) (Ow.imp (fun b o q n => ⟨q, fun z => n (z.elim (fun z => .inl z) fun z => .inr ⟨i, by simp, z⟩)⟩) _ _ _ _ (fun _ _ _ q => q) o)⟩
    · exact p.elim
theorem s_expr (he : PE X e (rdE W fe)) (hs : swapsWith e none pos.line X.env = pure false := by rfl) : PS X (.Expr e pos) (rdS W (sExpr fe)) :=
  psI (ps_expr he hs) fun Dn σ H ⟨S0, H0, ρ, F, E, p⟩ => ps_bind E p fun r v H1 fp s n vr E1 p1 => p1 σ H1 F E1
theorem s_if {c : Expr} {a b : List Stmt} {t : FT} (hc : PT X c (rdT W t)) (ha : PSs X a (rdS W f)) (hb : PSs X b (rdS W g)) : PS X (.If c a b pos) (rdS W (sIf t f g)) :=
  psI (ps_if hc ha hb) fun Dn σ H ⟨S0, H0, ρ, F, E, p⟩ => ps_tbind E p fun b H1 s E1 p1 => by
    cases b with
    | true => exact iteT ⟨S0, H0, ρ, F, E1, p1⟩
    | false => exact iteF ⟨S0, H0, ρ, F, E1, p1⟩
theorem b_nil : PSs X [] (rdS W sNil) := pssI pss_nil fun Dn σ H ⟨S0, H0, ρ, F, E, p⟩ => p σ H F E
theorem seq_post {S0 : PA1} {H0 : Hp} {ρ : Ev} {Dn : Ends} (old : True) (p : PostS W S0 H0 Dn (sSeq f g ρ)) : PostS W S0 H0 { Dn with nx := rdS W g Dn } (f ρ) := by
  unfold sSeq at p
  cases q : f ρ with
  | nx ρ' => rw [q] at p; exact fun σ H F E => ⟨S0, H0, ρ', F, E, p⟩
  | rt d k => rw [q] at p; exact p
  | bk ρ' => rw [q] at p; exact p
  | ct ρ' => rw [q] at p; exact p
  | ex x ρ' => rw [q] at p; exact p
  | bad => rw [q] at p; exact p
theorem b_cons (h1 : PS X st (rdS W f)) (h2 : PSs X rest (rdS W g)) : PSs X (st :: rest) (rdS W (sSeq f g)) :=
  pssI (pss_cons h1 h2) fun Dn σ H ⟨S0, H0, ρ, F, E, p⟩ => ⟨S0, H0, ρ, F, E, seq_post trivial p⟩
theorem b_one (h1 : PS X st (rdS W f)) : PSs X [st] (rdS W f) := pss_one h1
theorem s_brk : PS X (.Break pos) (rdS W sBrk) := psI ps_break fun Dn σ H ⟨S0, H0, ρ, F, E, p⟩ => p σ H F E
theorem s_cnt : PS X (.Continue pos) (rdS W sCnt) := psI ps_continue fun Dn σ H ⟨S0, H0, ρ, F, E, p⟩ => p σ H F E
theorem s_pass : PS X (.Pass pos) (rdS W sNil) := psI ps_pass fun Dn σ H ⟨S0, H0, ρ, F, E, p⟩ => p σ H F E
end

/-! ### loops -/
def whileL (t : FT) (body : FS) : Nat → Ev → Out
  | 0, _ => .bad
  | n + 1, ρ => match t ρ with
    | .ok b => if b then match body ρ with
        | .nx ρ' => whileL t body n ρ'
        | .ct ρ' => whileL t body n ρ'
        | .bk ρ' => .nx ρ'
        | o => o
      else .nx ρ
    | .exn x => .ex x ρ
    | .bad => .bad
def sWhile (n : Nat) (t : FT) (body : FS) : FS := whileL t body n
def forL (tg : FG) (vs : List Nat) (body : FS) : Ev → List D → Out
  | ρ, [] => .nx ρ
  | ρ, d :: ds => match tg d (wipeE ρ vs) with
    | none => .bad
    | some ρ2 => match body ρ2 with
      | .nx ρ3 => forL tg vs body ρ3 ds
      | .ct ρ3 => forL tg vs body ρ3 ds
      | .bk ρ3 => .nx ρ3
      | o => o
def sFor (it : FI) (tg : FG) (vs : List Nat) (body : FS) : FS := fun ρ => match it ρ with
  | .ok s => forL tg vs body (frzL (s.e ++ s.c) ρ) s.ds
  | .exn x => .ex x ρ
  | .bad => .bad
/-- slots are dropped -/
theorem EE.drop {S0 : PA1} {ρ : Ev} {σ : St} {H : Hp} {F : FP} (E : EE S0 ρ σ H F) (vs : List Nat) : EE S0 (wipeE ρ vs) σ H (cutF vs F) where
  len := by rw [wipeE_len]; exact E.len
  rep := fun i d k h => by
    obtain ⟨h1, h2⟩ := wipeE_some h
    obtain ⟨v, e, o⟩ := E.rep i d k h1
    refine ⟨v, e, ?_⟩
    rw [show cutF vs F i = F i by simp [cutF, h2]]
    refine Ow.imp (fun b o q n => ⟨q, fun z => n ?_⟩) k d v _ (fun _ _ _ q => q) o
    rcases z with z | ⟨j, _, z⟩
    · exact .inl z
    · exact .inr ⟨j, by simp, (cutF_mem.mp z).2⟩
  disj := fun a b c h1 h2 => E.disj a b c (cutF_mem.mp h1).2 (cutF_mem.mp h2).2
  trk := fun j a h => E.trk j a (cutF_mem.mp h).2
  out := E.out
  apart := fun j a h => E.apart j a (cutF_mem.mp h).2
section
variable {X : Cx} {W : WK} {body : List Stmt} {f : FS} {pos : Pos}
theorem s_while {c : Expr} {t : FT} (n : Nat) (hp : PassesOwn (model X.prog X.w) X.A X.env X.xe) (hc : PT X c (rdT W t)) (hb : PSs X body (rdS W f)) : PS X (.While c body [] pos) (rdS W (sWhile n t f)) := by
  refine psI (ps_while hp hc hb) fun Dn σ H ⟨S0, H0, ρ, F, E, p⟩ => ?_
  refine ⟨fun m σ H => ∃ ρ F, ER S0 H0 ρ σ H F ∧ PostS W S0 H0 Dn (whileL t f m ρ), ⟨n, ρ, F, E, p⟩, ?_⟩
  rintro m σ H ⟨ρ, F, E, p⟩
  cases m with
  | zero => exact p.elim
  | succ m =>
    unfold whileL at p
    refine ⟨S0, ρ, F, E.ee, ?_⟩
    cases q : t ρ with
    | exn x => rw [q] at p; exact fun H' s => p σ H' F (E.grow s)
    | bad => rw [q] at p; exact p
    | ok b =>
      rw [q] at p
      simp only at p
      intro H1 s
      have E1 := E.grow s
      cases b with
      | false => rw [if_neg Bool.false_ne_true] at p ⊢; exact p σ H1 F E1
      | true =>
        rw [if_pos rfl] at p ⊢
        refine ⟨fun σ' H' => ∃ ρ F, ER S0 H0 ρ σ' H' F ∧ PostS W S0 H0 Dn (whileL t f m ρ), fun σ' H' h => ⟨m, Nat.lt_succ_self m, h⟩, S0, H0, ρ, F, E1, ?_⟩
        cases q2 : f ρ with
        | nx ρ' => rw [q2] at p; exact fun σ H F E => ⟨ρ', F, E, p⟩
        | ct ρ' => rw [q2] at p; exact fun σ H F E => ⟨ρ', F, E, p⟩
        | bk ρ' => rw [q2] at p; exact p
        | rt d k => rw [q2] at p; exact p
        | ex x ρ' => rw [q2] at p; exact p
        | bad => rw [q2] at p; exact p
theorem s_for {tg iter : Expr} {it : FI} {g : FG} {vs : List Nat} (hp : PassesOwn (model X.prog X.w) X.A X.env X.xe) (hc : X.calm = true) (hi : PI X tg iter (rdI W it)) (hg : PG X tg (rdG vs g)) (hb : PSs X body (rdS W f))
    (hs : ∀ x, foldedSetIterable iter X.env x = pure x := by intro _; rfl) : PS X (.For tg iter body [] pos) (rdS W (sFor it g vs f)) := by
  refine psI (ps_for hp hc hi hg hb hs) fun Dn σ H ⟨S0, H0, ρ, F, E, p⟩ => ?_
  refine ⟨S0, ρ, F, E.ee, ?_⟩
  unfold sFor at p
  cases q : it ρ with
  | bad => rw [q] at p; exact p
  | exn x => rw [q] at p; exact fun H' s => p σ H' F (E.grow s)
  | ok s =>
    rw [q] at p
    intro J H1 sm j
    have E1 := (E.grow sm).frzL (s.e ++ s.c)
    obtain ⟨E2, s2⟩ := E1.rebase
    have p2 := PostS.weak s2 E.old p
    -- what is outside of the walk's own slots is not one's own any more
    have base : ∀ b o, H1 b = some o → (¬ inS S0 F s.e b ∨ ¬ inS S0 F s.c b) → cutH H1 (cutF (s.e ++ s.c) F) b = some o := fun b o h n => cutH_some h fun i z => by
      obtain ⟨z1, z2⟩ := cutF_mem.mp z
      have : i ∉ s.e ∧ i ∉ s.c := by simpa using z1
      rcases n with n | n
      · exact n (.inr ⟨i, this.1, z2⟩)
      · exact n (.inr ⟨i, this.2, z2⟩)
    refine ⟨fun i m σ H => m = s.ds.length - i ∧ i ≤ s.ds.length ∧ ∃ ρ F', ER S0 (cutH H1 (cutF (s.e ++ s.c) F)) ρ σ H F' ∧ PostS W S0 (cutH H1 (cutF (s.e ++ s.c) F)) Dn (forL g vs f ρ (s.ds.drop i)),
      ⟨s.ds.length, by simp, Nat.zero_le _, _, _, E2, p2⟩, ?_⟩
    rintro i m σ3 H3 ⟨rfl, hi', ρ3, F3, E3, p3⟩
    obtain ⟨j1, j2⟩ := j H3 (fun b o h n => E3.same _ _ (base b o h (.inl n))) i
    by_cases hlt : i < s.ds.length
    · obtain ⟨go, yl⟩ := j2 _ (List.getElem?_eq_getElem hlt)
      refine .inr ⟨go, fun σ' H' => ∃ ρ F', ER S0 (cutH H1 (cutF (s.e ++ s.c) F)) ρ σ' H' F' ∧ PostS W S0 (cutH H1 (cutF (s.e ++ s.c) F)) Dn (forL g vs f ρ (s.ds.drop (i + 1))), fun σ' H' h => ⟨s.ds.length - (i + 1), by omega, rfl, hlt, h⟩, fun x H4 y => ?_⟩
      obtain ⟨s4, rx⟩ := yl x H4 y
      have E4 := E3.grow s4
      have D4 : ER S0 (cutH H1 (cutF (s.e ++ s.c) F)) (wipeE ρ3 vs) σ3 H4 (cutF vs F3) := ⟨E4.ee.drop vs, fun k a h => E4.new k a (cutF_mem.mp h).2, E4.same, E4.old⟩
      rw [List.drop_eq_getElem_cons hlt] at p3
      unfold forL at p3
      have D3 := E3.ee.drop vs
      have rx' : Rp (inS S0 (cutF vs F3) []) H4 s.ds[i] x := rx _ (fun b o h n => by
        have hb := base b o h (.inr n)
        refine ⟨E3.same _ _ hb, fun z => ?_⟩
        rcases z with z | ⟨k, _, z⟩
        · exact n (.inl z)
        · have := E3.new k b (cutF_mem.mp z).2
          rw [hb] at this; cases this) fun b z => let ⟨o, h, _⟩ := D3.inTr z; ⟨o, h⟩
      cases ht : g s.ds[i] (wipeE ρ3 vs) with
      | none => rw [ht] at p3; exact p3.elim
      | some ρ4 =>
        rw [ht] at p3
        simp only at p3
        refine ⟨S0, _, _, s.ds[i], D4.ee, fun k hk => by simp [cutF, hk], rx', ρ4, ht, fun σ4 E5 _ _ => ?_⟩
        refine ⟨S0, _, ρ4, _, ⟨E5, D4.new, D4.same, D4.old⟩, ?_⟩
        cases q2 : f ρ4 with
        | nx ρ' => rw [q2] at p3; exact fun σ H F E => ⟨ρ', F, E, p3⟩
        | ct ρ' => rw [q2] at p3; exact fun σ H F E => ⟨ρ', F, E, p3⟩
        | bk ρ' => rw [q2] at p3; exact p3
        | rt d k => rw [q2] at p3; exact p3
        | ex x ρ' => rw [q2] at p3; exact p3
        | bad => rw [q2] at p3; exact p3
    · have e : i = s.ds.length := by omega
      subst e
      rw [List.drop_length] at p3
      exact .inl ⟨j1 (Nat.le_refl _), p3 σ3 H3 F3 E3⟩
end
end PyL

namespace PyL
open PySem PySem.Spec L2
set_option autoImplicit false

/-! ### calls of one's own defs -/
abbrev DS := List D → Res (D × Nat)
def spD (n : Nat) (sem : DS) : Sp := fun vs H Q _ => ∃ (S : PA1) (ds : List D), vs.length = n ∧ RpL S H ds vs ∧ (∀ a, S a → TrM H a) ∧ match sem ds with
  | .ok dk => ∀ v H' fp, Same H H' → (∀ a ∈ fp, H a = none) → Ow (fun a => S a ∨ a ∈ fp) H' dk.2 dk.1 v fp → Q v H'
  | _ => False
def callR (n : Nat) (sem : DS) (rs : List R) : Res R := if rs.length = n then match sem (rs.map (·.d)) with
    | .ok dk => .ok (if af dk.2 dk.1 then ⟨dk.1, dk.2, [], []⟩ else ⟨dk.1, dk.2, esL rs, esL rs⟩)
    | _ => .bad
  else .bad
def fCall (n : Nat) (sem : DS) (fa : FA) : FE := fun ρ => (fa ρ).bind (callR n sem)
theorem rd_call {W : WK} {fa : FA} {n : Nat} {sem : DS} {E' : XK} {σ : St} {H : Hp} {Q : VK} (h : rdE W (fCall n sem fa) σ H Q) : tCall (spD n sem) [] E' (rdA W fa) σ H Q := by
  obtain ⟨S0, ρ, F, E, p⟩ := h
  refine post_args E p fun rs vs H1 fp s1 n1 l1 E1 p1 => ?_
  have fz := l1.fz fun e => E.nin n1 e
  have rp := fz.rp (E := esL rs) fun r h => esL_mem h
  rw [List.append_nil]
  unfold callR at p1
  split at p1
  · rename_i hl
    refine ⟨inS S0 F (esL rs), rs.map (·.d), by rw [← rp.length, List.length_map, hl], rp, fun a z => E1.inTr z, ?_⟩
    cases q : sem (rs.map (·.d)) with
    | bad => rw [q] at p1; exact p1.elim
    | exn x => rw [q] at p1; exact p1.elim
    | ok dk =>
      rw [q] at p1
      intro v H2 fp2 s2 n2 o
      have E2 := E1.grow s2
      have n0 : ∀ a ∈ fp2, H a = none := fun a ha => s1.free (n2 a ha)
      simp only at p1
      split at p1
      · rename_i haf
        exact p1 v H2 fp2 (s1.trans s2) n0 (VR.of (Ow.af (fun a z => z.elim (fun z => E2.inTr z) (Ow.there _ _ _ _ o a)) _ _ _ _ haf o) (E.nin n0 _))
      · exact p1 v H2 fp2 (s1.trans s2) n0 (VR.of o (E.nin n0 _))
  · exact p1.elim
section
variable {X : Cx} {W : WK} {CX : CXT} {k n : Nat} {f : Addr} {fd : FuncData} {ps : List Str} {sem : DS} {E : XK} {x : Str} {p pos : Pos} {e : Expr} {es : List Expr} {fa : FA}
theorem e_call (F : FnOk X.prog X.w X.K X.mg X.base CX k f fd ps (spD n sem)) (hr : Room k X.A) (hg : Gl X x) (hm : X.mg x = some (.ref f)) (hk : PySem.W.keepIn X.K (.ref f) = true) (hb : Binds X.K fd ps []) (hx : Passes CX X E) (ha : PA X (e :: es) (rdA W fa))
    (hdb : (x == ("__debug__" : Str)) = false := by decide) (he : starEach (e :: es) X.env = (false, eval e X.env) :: starEach es X.env := by rfl) (hpl : (backTo pos (starEach es X.env)).any (·.1) = false := by rfl) :
    PE X (.Call (.Name x p) (e :: es) [] pos) (rdE W (fCall n sem fa)) :=
  peI (pe_call F hr hg hm hk hb .nil hx ha hdb he hpl) fun _ _ _ h => rd_call h
end
/-- what a def's body hands back -/
def dsem (N n : Nat) (body : FS) : DS := fun ds => if ds.length = n then match body (ds.map (fun d => some (d, 0)) ++ List.replicate (N - n) none) with
    | .rt d k => .ok (d, k)
    | .nx _ => .ok (.non, 0)
    | .ex x _ => .exn x
    | _ => .bad
  else .bad
theorem start_ee {S : PA1} {H : Hp} {N : List Str} {n : Nat} {ds : List D} {vs : List V} (l : RpL S H ds vs) (hn : vs.length = n) (hN : n ≤ N.length) (hS : ∀ a, S a → TrM H a) :
    ER S H (ds.map (fun d => some (d, 0)) ++ List.replicate (N.length - n) none) (L2.start N vs) H (fun _ => []) where
  ee := {
    len := by unfold L2.start; simp [l.length]; omega
    rep := fun i d k h => by
      have hl := l.length
      by_cases hi : i < ds.length
      · rw [List.getElem?_append_left (by simpa using hi), List.getElem?_map] at h
        rw [List.getElem?_eq_getElem hi] at h
        cases h
        obtain ⟨v, hv, rv⟩ := l.get (List.getElem?_eq_getElem hi)
        refine ⟨v, ?_, ?_, rfl⟩
        · unfold L2.start
          rw [List.getElem?_append_left (by simp; omega), List.getElem?_map, hv]
          rfl
        · exact Rp.imp (fun b o q n => ⟨q, fun z => z.elim n fun ⟨_, _, z⟩ => by cases z⟩) _ _ rv
      · rw [List.getElem?_append_right (by simp; omega), List.getElem?_replicate] at h
        split at h <;> cases h
    disj := fun _ _ _ h => by cases h
    trk := fun _ _ h => by cases h
    out := hS
    apart := fun _ _ h => by cases h }
  new := fun _ _ h => by cases h
  same := Same.refl H
  old := fun a h => let ⟨o, e, _⟩ := hS a h; ⟨o, e⟩
section
variable {P : Program} {w : World} {K : PySem.W.Frag} {mg : Str → Option Value} {base : Heap}
theorem def_ok {x qual : Str} {st : Stmt} {f : Addr} {fd : FuncData} {N ps : List Str} {k n : Nat} {body : FS} (F : Fun K x qual st f fd) (S : FnScope N ps (defScope st)) (hn : ps.length = n) (hN : n ≤ N.length)
    (hbody : ∀ (cdv : Value) (A : Around) (outer : List Env) (s : Shared) (H : Hp) (E : XK), Room k (A.deeper (PyProof.Rows.envOfC qual (defScope st) s.heap.objs.size f cdv)) → (A.deeper (PyProof.Rows.envOfC qual (defScope st) s.heap.objs.size f cdv)).units + 65 < cLine →
      PSs (cxOf CX0 P w K mg base N qual (defScope st) f cdv A outer s H E).nox (defBody st) (rdS W0 body)) : FnOk P w K mg base CX0 (k + 1) f fd ps (spD n (dsem N.length n body)) := by
  refine F.ok S (fun vs H Q E h => ?_) fun cdv A outer s H vs Q E hr h => ?_
  · obtain ⟨_, _, hl, _⟩ := h
    rw [hl, hn]
  · obtain ⟨S', ds, hl, rp, hS, q⟩ := h
    have hu : (A.deeper (PyProof.Rows.envOfC qual (defScope st) s.heap.objs.size f cdv)).units + 65 < cLine := by have := hr.un; omega
    refine ⟨_, hbody cdv A outer s H E hr hu, S', H, _, _, start_ee rp hl hN hS, ?_⟩
    have hdl : ds.length = n := by rw [rp.length, hl]
    unfold dsem at q
    rw [if_pos hdl] at q
    cases e : body (ds.map (fun d => some (d, 0)) ++ List.replicate (N.length - n) none) with
    | rt d k => rw [e] at q; exact q
    | nx ρ => rw [e] at q; exact fun σ H' F E => q .non H' [] E.same (fun a ha => by cases ha) ⟨rfl, rfl⟩
    | bk ρ => rw [e] at q; exact q.elim
    | ct ρ => rw [e] at q; exact q.elim
    | ex x ρ => rw [e] at q; exact q.elim
    | bad => rw [e] at q; exact q.elim
end

/-! ### one's own lists are changed -/
theorem AllF.snoc {P : D → V → List Addr → Prop} {d : D} {x : V} {f : List Addr} (p : P d x f) : ∀ {ds : List D} {xs : List V} {fp : List Addr}, AllF P ds xs fp → (∀ a ∈ fp, a ∉ f) → AllF P (ds ++ [d]) (xs ++ [x]) (fp ++ f)
  | [], _, _, ⟨e1, e2⟩, _ => ⟨x, [], f, [], by rw [e1]; rfl, p, ⟨rfl, rfl⟩, by rw [e2]; simp, by simp⟩
  | q :: ds, _, _, ⟨w, t, f1, f2, e, ow, l, ef, dj⟩, n => ⟨w, t ++ [x], f1, f2 ++ f, by rw [e]; rfl, ow, l.snoc p (fun a ha => n a (by rw [ef]; exact List.mem_append_right _ ha)), by rw [ef, List.append_assoc], fun a h1 h2 => by
      rcases List.mem_append.mp h2 with h2 | h2
      · exact dj a h1 h2
      · exact n a (by rw [ef]; exact List.mem_append_left _ h1) h2⟩
theorem AllF.length {P : D → V → List Addr → Prop} : ∀ {ds : List D} {xs : List V} {fp : List Addr}, AllF P ds xs fp → ds.length = xs.length
  | [], _, _, ⟨e, _⟩ => by rw [e]; rfl
  | _ :: _, _, _, ⟨x, r, f1, f2, e, p, q, ef, dj⟩ => by rw [e, List.length_cons, List.length_cons, q.length]
/-- one item for another -/
theorem AllF.at {P : D → V → List Addr → Prop} : ∀ {ds : List D} {xs : List V} {fp : List Addr} {i : Nat} {d : D}, AllF P ds xs fp → ds[i]? = some d → ∃ x f, xs[i]? = some x ∧ P d x f ∧ (∀ a ∈ f, a ∈ fp) ∧
    ∀ (P' : D → V → List Addr → Prop) (d' : D) (x' : V) (f' : List Addr), (∀ d v g, (∀ a ∈ g, a ∈ fp) → (∀ a ∈ g, a ∉ f) → P d v g → P' d v g) → P' d' x' f' → (∀ a ∈ f', a ∈ f ∨ a ∉ fp) → ∃ fp', AllF P' (ds.set i d') (xs.set i x') fp' ∧ (∀ a ∈ fp', a ∈ f' ∨ (a ∈ fp ∧ a ∉ f))
  | [], _, _, _, _, _, h => by simp at h
  | c :: ds, _, _, 0, d, ⟨x, r, f1, f2, e, p, q, ef, dj⟩, h => by
    have : c = d := by simpa using h
    subst this
    refine ⟨x, f1, by rw [e]; rfl, p, fun a ha => by rw [ef]; exact List.mem_append_left _ ha, fun P' d' x' f' hP p' hf => ⟨f' ++ f2, ⟨x', r, f', f2, by rw [e]; rfl, p', q.imp fun d v g hg pg => hP d v g (fun a ha => by rw [ef]; exact List.mem_append_right _ (hg a ha)) (fun a ha z => dj a z (hg a ha)) pg, rfl, fun a h1 h2 => ?_⟩, fun a ha => ?_⟩⟩
    · rcases hf a h1 with z | z
      · exact dj a z h2
      · exact z (by rw [ef]; exact List.mem_append_right _ h2)
    · rcases List.mem_append.mp ha with ha | ha
      · exact .inl ha
      · exact .inr ⟨by rw [ef]; exact List.mem_append_right _ ha, fun z => dj a z ha⟩
  | c :: ds, _, _, i + 1, d, ⟨x, r, f1, f2, e, p, q, ef, dj⟩, h => by
    obtain ⟨y, f, hy, py, hf, go⟩ := AllF.at (i := i) q (by simpa using h)
    refine ⟨y, f, by rw [e]; simpa using hy, py, fun a ha => by rw [ef]; exact List.mem_append_right _ (hf a ha), fun P' d' x' f' hP p' hf' => ?_⟩
    obtain ⟨fq, al, hq⟩ := go P' d' x' f' (fun d v g hg hn pg => hP d v g (fun a ha => by rw [ef]; exact List.mem_append_right _ (hg a ha)) hn pg) p' fun a ha => (hf' a ha).elim .inl fun z => .inr fun y => z (by rw [ef]; exact List.mem_append_right _ y)
    refine ⟨f1 ++ fq, ⟨x, _, f1, fq, by rw [e]; rfl, hP c x f1 (fun a ha => by rw [ef]; exact List.mem_append_left _ ha) (fun a ha z => dj a ha (hf a z)) p, al, rfl, fun a h1 h2 => ?_⟩, fun a ha => ?_⟩
    · rcases hq a h2 with z | ⟨z, _⟩
      · rcases hf' a z with z | z
        · exact dj a h1 (hf a z)
        · exact z (by rw [ef]; exact List.mem_append_left _ h1)
      · exact dj a h1 z
    · rcases List.mem_append.mp ha with ha | ha
      · exact .inr ⟨by rw [ef]; exact List.mem_append_left _ ha, fun z => dj a ha (hf a z)⟩
      · rcases hq a ha with z | ⟨z1, z2⟩
        · exact .inl z
        · exact .inr ⟨by rw [ef]; exact List.mem_append_right _ z1, z2⟩

theorem ER.mutate {S0 : PA1} {H0 : Hp} {ρ : Ev} {σ : St} {H H2 : Hp} {F : FP} (E : ER S0 H0 ρ σ H F) {i : Nat} {d0 d' : D} {k0 k' : Nat} {e : List Nat} {v : V} {a : Addr} {o' : HO} {fp' : List Addr} (hi : ρ[i]? = some (some (d0, k0))) (hv : σ[i]? = some (some v)) (he : i ∉ e) (s : Same H H2) (ha : a ∈ F i) (mo : Mt o')
    (hf : ∀ b ∈ fp', b ∈ F i ∨ H b = none) (o : Ow (fun b => inS S0 F (i :: e) b ∨ b ∈ fp') (upd H2 a o') k' d' v fp') : ER S0 H0 ((PyL.frzL e ρ).set i (some (d', k'))) σ (upd H2 a o') (putF i fp' (cutF e F)) := by
  have E1 := E.frzL e
  have Fi : cutF e F i = F i := by simp [cutF, he]
  have sub : ∀ b, inS S0 (putF i fp' (cutF e F)) [] b → inS S0 F (i :: e) b ∨ b ∈ fp' := fun b z => by
    rcases z with z | ⟨n, _, z⟩
    · exact .inl (.inl z)
    · rcases putF_mem.mp z with ⟨_, z⟩ | ⟨z1, z2⟩
      · exact .inr z
      · obtain ⟨y1, y2⟩ := cutF_mem.mp z2
        exact .inl (.inr ⟨n, by simp [z1, y1], y2⟩)
  have keep : ∀ b o, b ≠ a → H b = some o → upd H2 a o' b = some o := fun b o hb q => by rw [upd_ne hb]; exact s _ _ q
  have trkU : ∀ b, TrM H b → TrM (upd H2 a o') b := fun b ⟨o, q, m⟩ => by
    by_cases hb : b = a
    · subst hb; exact ⟨o', upd_same, mo⟩
    · exact ⟨o, keep b o hb q, m⟩
  refine ⟨⟨?_, fun j d k h => ?_, fun x y c h1 h2 => ?_, fun j b h => ?_, fun b h => ?_, fun j b h z => ?_⟩, fun j b h => ?_, fun b o q => ?_, E.old⟩
  · rw [List.length_set]; exact E1.ee.len
  · by_cases hj : j = i
    · subst hj
      have hl : j < (PyL.frzL e ρ).length := by
        have := (List.getElem?_eq_some_iff.mp h).1
        rwa [List.length_set] at this
      rw [List.getElem?_set_self hl] at h
      cases h
      refine ⟨v, hv, ?_⟩
      rw [show putF j fp' (cutF e F) j = fp' by simp [putF]]
      exact Ow.imp (fun b o q n => ⟨q, fun z => n (sub b z)⟩) _ _ _ _ (fun _ _ _ q => q) o
    · rw [List.getElem?_set_ne (Ne.symm hj)] at h
      obtain ⟨w, ew, ow⟩ := E1.ee.rep j d k h
      refine ⟨w, ew, ?_⟩
      rw [show putF i fp' (cutF e F) j = cutF e F j by simp [putF, hj]]
      refine Ow.imp (fun b o q n => ⟨keep b o (fun z => n (.inr ⟨i, by simp, by rw [Fi, z]; exact ha⟩)) q, fun z => ?_⟩) _ _ _ _ (fun b o hb q => keep b o (fun z => hj (E1.ee.disj j i b hb (by rw [Fi, z]; exact ha))) q) ow
      rcases z with z | ⟨n', _, z⟩
      · exact n (.inl z)
      · rcases putF_mem.mp z with ⟨_, z⟩ | ⟨z1, z2⟩
        · rcases hf b z with y | y
          · exact n (.inr ⟨i, by simp, by rw [Fi]; exact y⟩)
          · rw [y] at q; cases q
        · exact n (.inr ⟨n', by simp, z2⟩)
  · have key : ∀ {y c}, c ∈ fp' → y ≠ i → c ∈ cutF e F y → False := fun {y c} h1 hy h2 => by
      rcases hf c h1 with z | z
      · exact hy (E.ee.disj y i c (cutF_mem.mp h2).2 z)
      · obtain ⟨o, q, _⟩ := E.ee.trk y c (cutF_mem.mp h2).2
        rw [z] at q; cases q
    rcases putF_mem.mp h1 with ⟨a1, a2⟩ | ⟨a1, a2⟩ <;> rcases putF_mem.mp h2 with ⟨b1, b2⟩ | ⟨b1, b2⟩
    · rw [a1, b1]
    · exact (key a2 b1 b2).elim
    · exact (key b2 a1 a2).elim
    · exact E1.ee.disj x y c a2 b2
  · rcases putF_mem.mp h with ⟨_, h⟩ | ⟨_, h⟩
    · exact Ow.there _ _ _ _ o b h
    · exact trkU b (E1.ee.trk j b h)
  · exact trkU b (E.ee.out b h)
  · rcases putF_mem.mp h with ⟨_, h⟩ | ⟨_, h⟩
    · rcases hf b h with y | y
      · exact E.ee.apart i b y z
      · obtain ⟨o, q⟩ := E.ee.out b z
        rw [y] at q; cases q.1
    · exact E1.ee.apart j b h z
  · rcases putF_mem.mp h with ⟨_, h⟩ | ⟨_, h⟩
    · rcases hf b h with y | y
      · exact E.new i b y
      · exact E.same.free y
    · exact E1.new j b h
  · refine keep b o (fun z => ?_) (E.same _ _ q)
    have := E.new i a ha
    rw [← z, q] at this; cases this
end PyL

namespace PyL
open PySem PySem.Spec L2
set_option autoImplicit false

/-- an owned list's entry -/
theorem ER.list {S0 : PA1} {H0 : Hp} {ρ : Ev} {σ : St} {H : Hp} {F : FP} (E : ER S0 H0 ρ σ H F) {i : Nat} {ds : List D} {k : Nat} (h : ρ[i]? = some (some (.lst ds, k + 1))) :
    ∃ a xs fq, σ[i]? = some (some (.ref a)) ∧ H a = some (.lst xs) ∧ AllF (Ow (inS S0 F []) H k) ds xs fq ∧ F i = a :: fq ∧ a ∉ fq := by
  obtain ⟨v, e, a, xs, fq, rfl, ha, al, ef, nd⟩ := E.ee.rep i _ _ h
  exact ⟨a, xs, fq, e, ha, al, ef, nd⟩
/-- the items as frozen ones -/
theorem AllF.frzn {S S' : PA1} {H : Hp} {k : Nat} {ds : List D} {xs : List V} {fq : List Addr} (al : AllF (Ow S H k) ds xs fq) (hs : ∀ a, S' a → S a) (n : ∀ a ∈ fq, ¬ S' a) : RpL S' H ds xs :=
  al.toL fun d x f hf p => Ow.frz (fun a _ _ z => hs a z) k d x f (fun b hb => n b (hf b hb)) p
theorem inS_sub {S0 : PA1} {F : FP} {e : List Nat} {a : Addr} (h : inS S0 F e a) : inS S0 F [] a := inS_mono (e := []) (fun _ h => by cases h) h

/-- an item changed in depth: is the whole as deep as before? -/
def keepK (k : Nat) (r : R) : Bool := decide (1 ≤ k) && (scal r.d || r.k == k)

/-- the list at slot i gets another content; the new items frozen -/
theorem ER.setFrz {S0 : PA1} {H0 : Hp} {ρ : Ev} {σ : St} {H H2 : Hp} {F : FP} (E : ER S0 H0 ρ σ H F) {i : Nat} {ds ds' : List D} {k : Nat} {e : List Nat} (h : ρ[i]? = some (some (.lst ds, k + 1))) (he : i ∉ e) (s : Same H H2) {a : Addr} {xs' : List V} {fq : List Addr}
    (hv : σ[i]? = some (some (.ref a))) (ef : F i = a :: fq) (l : RpL (fun b => inS S0 F (i :: e) b ∨ b = a) H2 ds' xs') : ∃ F', ER S0 H0 ((PyL.frzL e ρ).set i (some (.lst ds', 1))) σ (upd H2 a (.lst xs')) F' := by
  refine ⟨_, E.mutate (d' := .lst ds') (k' := 1) (fp' := [a]) (o' := .lst xs') h hv he s (by rw [ef]; exact List.mem_cons_self) trivial (fun b hb => .inl (by rw [List.mem_singleton.mp hb, ef]; exact List.mem_cons_self)) ?_⟩
  refine ⟨a, xs', [], rfl, upd_same, all_zero (RpL.imp (fun b o q n => ⟨by rw [upd_ne (fun z => n (.inr z))]; exact q, fun z => n (z.imp id fun z => List.mem_singleton.mp z)⟩) _ _ l), rfl, by simp⟩

def appOut (i : Nat) (r : R) (ρ : Ev) : Out := match ρ[i]? with
  | some (some (.lst ds, k + 1)) => if i ∈ r.e then .bad else if ds.length < sizeLine then .nx ((frzL r.e ρ).set i (some (.lst (ds ++ [r.d]), if keepK k r then k + 1 else 1))) else .bad
  | _ => .bad
def ownL (i : Nat) (f : FS) : FS := fun ρ => match ρ[i]? with
  | some (some (.lst _, _ + 1)) => f ρ
  | _ => .bad
theorem ownL_ok {W : WK} {S0 : PA1} {H0 : Hp} {ρ : Ev} {i : Nat} {f : FS} {Dn : Ends} (p : PostS W S0 H0 Dn (ownL i f ρ)) : (∃ ds k, ρ[i]? = some (some (.lst ds, k + 1))) ∧ PostS W S0 H0 Dn (f ρ) := by
  unfold ownL at p
  split at p
  · rename_i ds k h
    exact ⟨⟨ds, k, h⟩, p⟩
  · exact p.elim
def sApp (i : Nat) (f : FE) : FS := ownL i (stE f (appOut i))
section
variable {X : Cx} {W : WK} {e : Expr} {fe : FE} {pos apos cpos npos : Pos} {x : Str}
theorem s_app (i : Nat) (he : PE X e (rdE W fe)) (hp : PE X (.Call (.Attribute (.Name x npos) "append" apos) [e] [] cpos) (tBM X.K "list" rAppend (tVar i) (tCons (rdE W fe) tNil)))
    (hs : swapsWith (.Call (.Attribute (.Name x npos) "append" apos) [e] [] cpos) none pos.line X.env = pure false := by rfl) : PS X (.Expr (.Call (.Attribute (.Name x npos) "append" apos) [e] [] cpos) pos) (rdS W (sApp i fe)) := by
  refine psI (ps_expr hp hs) fun Dn σ H ⟨S0, H0, ρ, F, E, p⟩ => ?_
  -- the list is there whatever the argument yields
  · obtain ⟨⟨ds, k, hi⟩, p⟩ := ownL_ok p
    obtain ⟨a, xs, fq, hv, ha, al, ef, nd⟩ := E.list hi
    refine ⟨.ref a, hv, .inl ⟨rfl, xs, SqL.of ha⟩, ps_bind E p fun r v H1 fp s n vr E1 p1 => ?_⟩
    unfold appOut at p1
    rw [hi] at p1
    simp only at p1
    split at p1
    · exact p1.elim
    · rename_i nie
      split at p1
      · rename_i hz
        have hl := al.length
        refine ⟨a, xs, v, rfl, rfl, s _ _ ha, by rw [← hl]; exact hz, ?_⟩
        have aF : a ∈ F i := by rw [ef]; exact List.mem_cons_self
        have fqF : ∀ b ∈ fq, b ∈ F i := fun b hb => by rw [ef]; exact List.mem_cons_of_mem _ hb
        have aS : inS S0 F r.e a := .inr ⟨i, nie, aF⟩
        by_cases hk : keepK k r = true
        · rw [if_pos hk] at p1
          have hk1 : scal r.d = true ∨ r.k = k := by
            unfold keepK at hk
            simp only [Bool.and_eq_true, Bool.or_eq_true, beq_iff_eq] at hk
            exact hk.2
          have nfp : ∀ b ∈ fp, b ≠ a ∧ b ∉ fq := fun b hb => by
            have nb := n b hb
            refine ⟨fun z => (by rw [z, ha] at nb; cases nb), fun z => ?_⟩
            obtain ⟨o, q, _⟩ := E.ee.trk i b (fqF b z)
            rw [nb] at q; cases q
          obtain ⟨F', E'⟩ : ∃ F', ER S0 H0 ((frzL r.e ρ).set i (some (.lst (ds ++ [r.d]), k + 1))) σ (upd H1 a (.lst (xs ++ [v]))) F' := by
            refine ⟨_, E.mutate (d' := .lst (ds ++ [r.d])) (k' := k + 1) (fp' := a :: (fq ++ fp)) (o' := .lst (xs ++ [v])) hi hv nie s aF trivial (fun b hb => ?_) ?_⟩
            · rcases List.mem_cons.mp hb with z | z
              · exact .inl (z ▸ aF)
              · exact (List.mem_append.mp z).imp (fqF b) (n b)
            · refine ⟨a, xs ++ [v], fq ++ fp, rfl, upd_same, ?_, rfl, fun z => (List.mem_append.mp z).elim nd fun z => (nfp a z).1 rfl⟩
              have kp : ∀ b o, b ≠ a → H1 b = some o → upd H1 a (.lst (xs ++ [v])) b = some o := fun b o hb q => by rw [upd_ne hb]; exact q
              refine AllF.snoc ?_ (al.imp fun d w f hf po => Ow.imp (fun b o q nn => ⟨kp b o (fun z => nn (z ▸ (.inr ⟨i, by simp, aF⟩))) (s _ _ q), fun z => ?_⟩) k d w f (fun b o hb q => kp b o (fun z => nd (z ▸ hf b hb)) (s _ _ q)) po) fun b h1 h2 => (nfp b h2).2 h1
              · have ow : Ow (fun b => inS S0 F (i :: r.e) b ∨ b ∈ a :: (fq ++ fp)) (upd H1 a (.lst (xs ++ [v]))) r.k r.d v fp := by
                  refine Ow.imp (fun b o q nn => ⟨kp b o (fun z => nn (.inl (z ▸ aS))) q, fun z => ?_⟩) _ _ _ _ (fun b o hb q => kp b o (nfp b hb).1 q) vr.ow
                  rcases z with z | z
                  · exact nn (.inl (inS_mono (fun j h => List.mem_cons_of_mem _ h) z))
                  · rcases List.mem_cons.mp z with z | z
                    · exact nn (.inl (z ▸ aS))
                    · rcases List.mem_append.mp z with z | z
                      · exact nn (.inl (.inr ⟨i, nie, fqF b z⟩))
                      · exact nn (.inr z)
                rcases hk1 with z | z
                · obtain ⟨o2, e2⟩ := scal_ow (S' := fun b => inS S0 F (i :: r.e) b ∨ b ∈ a :: (fq ++ fp)) (H' := upd H1 a (.lst (xs ++ [v]))) z ow k
                  have e3 : fp = [] := e2
                  rw [e3] at o2 ⊢
                  exact o2
                · rw [← z]; exact ow
              · rcases z with z | z
                · exact nn (inS_sub z)
                · rcases List.mem_cons.mp z with z | z
                  · exact nn (z ▸ .inr ⟨i, by simp, aF⟩)
                  · rcases List.mem_append.mp z with z | z
                    · exact nn (.inr ⟨i, by simp, fqF b z⟩)
                    · rw [n b z] at q; cases q
          exact p1 _ _ _ E'
        · rw [if_neg hk] at p1
          obtain ⟨F', E'⟩ := E.setFrz (ds' := ds ++ [r.d]) (xs' := xs ++ [v]) hi nie s hv ef (by
            refine RpL.snoc ?_ ?_
            · have l0 : RpL (fun b => inS S0 F (i :: r.e) b ∨ b = a) H ds xs := al.frzn (fun b z => z.elim inS_sub fun z => z ▸ .inr ⟨i, by simp, aF⟩) fun b hb z => z.elim (fun z => by
                rcases z with z | ⟨j, hj, z⟩
                · exact E.ee.apart i b (fqF b hb) z
                · exact hj (by simp [E.ee.disj j i b z (fqF b hb)])) fun z => nd (z ▸ hb)
              exact RpL.imp (fun b o q nn => ⟨s _ _ q, nn⟩) _ _ l0
            · exact Ow.frz (fun b _ _ z => .inl (z.elim (fun z => inS_mono (fun j h => List.mem_cons_of_mem _ h) z) fun z => z ▸ aS)) _ _ _ _ (fun b hb z => z.elim (fun z => E.ee.fresh z (n b hb)) fun z => by
                have nb := n b hb
                rw [z, ha] at nb; cases nb) vr.ow)
          exact p1 _ _ _ E'
      · exact p1.elim
end

/-! x[j] = v -/
def storeOut (i : Nat) (r q : R) (ρ : Ev) : Out := match ρ[i]?, q.d with
  | some (some (.lst ds, k + 1)), .int z => match ixN ds.length z with
    | some j => if i ∈ r.e then .bad else if keepK k r && scal r.d then .nx ((frzL r.e ρ).set i (some (.lst (ds.set j r.d), k + 1))) else .nx ((frzL r.e ρ).set i (some (.lst (ds.set j r.d), 1)))
    | none => .bad
  | _, _ => .bad
def sStore (i : Nat) (fi f : FE) : FS := ownL i (stE f fun r => stE fi fun q => storeOut i r q)
theorem stE_def {f : FE} {g : R → Ev → Out} {ρ : Ev} {r : R} (h : f ρ = .ok r) : stE f g ρ = g r ρ := by unfold stE; rw [h]
section
variable {X : Cx} {W : WK} {e ei : Expr} {fe fi : FE} {pos spos npos : Pos} {x : Str}
theorem s_store (i : Nat) (he : PE X e (rdE W fe)) (hp : PS X (.Assign [.Subscript (.Name x npos) ei spos] e pos) (tAsg (rdE W fe) (L2.gSub (tVar i) (rdE W fi) rSetL))) : PS X (.Assign [.Subscript (.Name x npos) ei spos] e pos) (rdS W (sStore i fi fe)) := by
  refine psI hp fun Dn σ H ⟨S0, H0, ρ, F, E, p⟩ => ?_
  obtain ⟨⟨ds, k, hi⟩, p⟩ := ownL_ok p
  obtain ⟨a, xs, fq, hv, ha, al, ef, nd⟩ := E.list hi
  refine ps_bind E p fun r v H1 fp s n vr E1 p1 => ⟨.ref a, hv, ps_bind E1 p1 fun q w H2 fp2 s2 n2 vq E2 p2 => ?_⟩
  have hl := al.length
  have aF : a ∈ F i := by rw [ef]; exact List.mem_cons_self
  have fqF : ∀ b ∈ fq, b ∈ F i := fun b hb => by rw [ef]; exact List.mem_cons_of_mem _ hb
  unfold storeOut at p2
  rw [hi] at p2
  split at p2
  · rename_i ds' k' z e1 e2
    cases e1
    split at p2
    · rename_i j hj
      have zq := (vq.fz (E1.ee.nin n2 _)).int e2
      have s12 := s.trans s2
      split at p2
      · exact p2.elim
      · rename_i nie
        refine ⟨a, xs, z, j, rfl, zq, s12 _ _ ha, by rw [← hl]; exact hj, ?_⟩
        have hjl : j < ds.length := by
          have := (ixN_seq hj).2.1
          exact this
        have aS : inS S0 F r.e a := .inr ⟨i, nie, aF⟩
        split at p2
        · rename_i hk
          simp only [Bool.and_eq_true] at hk
          obtain ⟨y, f, hy, py, hf, go⟩ := al.at (List.getElem?_eq_getElem hjl)
          have kp : ∀ b o, b ≠ a → H b = some o → upd H2 a (.lst (xs.set j v)) b = some o := fun b o hb q => by rw [upd_ne hb]; exact s12 _ _ q
          have rv : ∀ S' H', Ow S' H' k r.d v [] := fun S' H' => (scal_ow hk.2 vr.ow k).1
          obtain ⟨F', E'⟩ : ∃ F', ER S0 H0 ((frzL r.e ρ).set i (some (.lst (ds.set j r.d), k + 1))) σ (upd H2 a (.lst (xs.set j v))) F' := by
            obtain ⟨fq', al', hfq'⟩ := go (Ow (fun b => inS S0 F (i :: r.e) b ∨ b ∈ F i) (upd H2 a (.lst (xs.set j v))) k) r.d v [] (fun d w g hg _ po => Ow.imp (fun b o q nn => ⟨kp b o (fun z => nn (z ▸ (.inr ⟨i, by simp, aF⟩))) q, fun z => nn (z.elim inS_sub fun z => .inr ⟨i, by simp, z⟩)⟩) k d w g (fun b o hb q => kp b o (fun z => nd (z ▸ hg b hb)) q) po) (rv _ _) (fun b hb => by cases hb)
            have sub : ∀ b ∈ fq', b ∈ fq := fun b hb => (hfq' b hb).elim (fun z => by cases z) fun z => z.1
            refine ⟨_, E.mutate (d' := .lst (ds.set j r.d)) (k' := k + 1) (fp' := a :: fq') (o' := .lst (xs.set j v)) hi hv nie s12 aF trivial (fun b hb => .inl ((List.mem_cons.mp hb).elim (fun z => z ▸ aF) fun z => fqF b (sub b z))) ?_⟩
            refine ⟨a, xs.set j v, fq', rfl, upd_same, ?_, rfl, fun z => nd (sub a z)⟩
            exact al'.imp fun d w g hg po => Ow.imp (fun b o q nn => ⟨q, fun z => nn (z.imp id fun z => (List.mem_cons.mp z).elim (fun (z : b = a) => z ▸ aF) fun z => fqF b (sub b z))⟩) k d w g (fun _ _ _ q => q) po
          exact p2 _ _ _ E'
        · obtain ⟨F', E'⟩ := E.setFrz (ds' := ds.set j r.d) (xs' := xs.set j v) hi nie s12 hv ef (by
            refine RpL.set ?_ j ?_
            · have z0 : Rp (fun b => inS S0 F (i :: r.e) b ∨ b = a) H1 r.d v := Ow.frz (fun b _ _ z => .inl (z.elim (fun z => inS_mono (fun j h => List.mem_cons_of_mem _ h) z) fun z => z ▸ aS)) _ _ _ _ (fun b hb z => z.elim (fun z => E.ee.fresh z (n b hb)) fun z => by
                have nb := n b hb
                rw [z, ha] at nb; cases nb) vr.ow
              exact Rp.imp (fun b o q nn => ⟨s2 _ _ q, nn⟩) _ _ z0
            · have l0 : RpL (fun b => inS S0 F (i :: r.e) b ∨ b = a) H ds xs := al.frzn (fun b z => z.elim inS_sub fun z => z ▸ .inr ⟨i, by simp, aF⟩) fun b hb z => z.elim (fun z => by
                rcases z with z | ⟨j, hj, z⟩
                · exact E.ee.apart i b (fqF b hb) z
                · exact hj (by simp [E.ee.disj j i b z (fqF b hb)])) fun z => nd (z ▸ hb)
              exact RpL.imp (fun b o q nn => ⟨s12 _ _ q, nn⟩) _ _ l0)
          exact p2 _ _ _ E'
    · exact p2.elim
  · exact p2.elim
end

/-! x[j][l] = v, a number, a text .. -/
def store2Out (i : Nat) (r q q2 : R) (ρ : Ev) : Out := match ρ[i]?, q.d, q2.d with
  | some (some (.lst ds, k + 2)), .int z, .int z2 => match ixN ds.length z with
    | some j => match ds[j]? with
      | some (.lst es) => match ixN es.length z2 with
        | some l => if scal r.d then .nx (ρ.set i (some (.lst (ds.set j (.lst (es.set l r.d))), k + 2))) else .bad
        | none => .bad
      | _ => .bad
    | none => .bad
  | _, _, _ => .bad
def own2 (i : Nat) (f : FS) : FS := fun ρ => match ρ[i]? with
  | some (some (.lst _, _ + 2)) => f ρ
  | _ => .bad
theorem own2_ok {W : WK} {S0 : PA1} {H0 : Hp} {ρ : Ev} {i : Nat} {f : FS} {Dn : Ends} (p : PostS W S0 H0 Dn (own2 i f ρ)) : (∃ ds k, ρ[i]? = some (some (.lst ds, k + 2))) ∧ PostS W S0 H0 Dn (f ρ) := by
  unfold own2 at p
  split at p
  · rename_i ds k h
    exact ⟨⟨ds, k, h⟩, p⟩
  · exact p.elim
def rowOk (i : Nat) (q : R) (g : FS) : FS := fun ρ => match ρ[i]?, q.d with
  | some (some (.lst ds, _ + 2)), .int z => match ixN ds.length z with
    | some j => match ds[j]? with
      | some (.lst _) => g ρ
      | _ => .bad
    | none => .bad
  | _, _ => .bad
theorem rowOk_ok {W : WK} {S0 : PA1} {H0 : Hp} {ρ : Ev} {i : Nat} {q : R} {g : FS} {Dn : Ends} {ds : List D} {k : Nat} (hi : ρ[i]? = some (some (.lst ds, k + 2))) (p : PostS W S0 H0 Dn (rowOk i q g ρ)) : (∃ z j es, q.d = .int z ∧ ixN ds.length z = some j ∧ ds[j]? = some (.lst es)) ∧ PostS W S0 H0 Dn (g ρ) := by
  unfold rowOk at p
  rw [hi] at p
  split at p
  · rename_i ds' k' z e1 e2
    cases e1
    split at p
    · rename_i j hj
      split at p
      · rename_i es hes
        exact ⟨⟨z, j, es, e2, hj, hes⟩, p⟩
      · exact p.elim
    · exact p.elim
  · exact p.elim
def sStore2 (i : Nat) (fi fj f : FE) : FS := own2 i (stE f fun r => stE fi fun q => rowOk i q (stE fj fun q2 => store2Out i r q q2))
section
variable {X : Cx} {W : WK} {e ei ej : Expr} {fe fi fj : FE} {pos spos spos2 npos : Pos} {x : Str}
theorem s_store2 (i : Nat) (hp : PS X (.Assign [.Subscript (.Subscript (.Name x npos) ei spos) ej spos2] e pos) (tAsg (rdE W fe) (L2.gSub (tOp (rIxL X.K) (tVar i) (rdE W fi)) (rdE W fj) rSetL))) : PS X (.Assign [.Subscript (.Subscript (.Name x npos) ei spos) ej spos2] e pos) (rdS W (sStore2 i fi fj fe)) := by
  refine psI hp fun Dn σ H ⟨S0, H0, ρ, F, E, p⟩ => ?_
  obtain ⟨⟨ds, k, hi⟩, p⟩ := own2_ok p
  obtain ⟨a, xs, fq, hv, ha, al, ef, nd⟩ := E.list hi
  refine ps_bind E p fun r v H1 fp s n vr E1 p1 => ⟨.ref a, hv, ps_bind E1 p1 fun q w H2 fp2 s2 n2 vq E2 p2 => ?_⟩
  have hl := al.length
  have aF : a ∈ F i := by rw [ef]; exact List.mem_cons_self
  have fqF : ∀ b ∈ fq, b ∈ F i := fun b hb => by rw [ef]; exact List.mem_cons_of_mem _ hb
  -- which row: known once the last index is evaluated
  have zq := vq.fz (E1.ee.nin n2 _)
  have s12 := s.trans s2
  · obtain ⟨⟨z, j, es, ez, hj, hes⟩, p2⟩ := rowOk_ok hi p2
    obtain ⟨y, f, hy, py, hf, go⟩ := al.at hes
    obtain ⟨b, ys, fr, rfl, hb, al2, ef2, nd2⟩ := py
    have hj' : ixN xs.length z = some j := by rw [← hl]; exact hj
    refine ⟨a, xs, z, .ref b, rfl, zq.int ez, SqL.of (s12 _ _ ha), by unfold atI; rw [hj']; exact hy, ps_bind E2 p2 fun q2 w2 H3 fp3 s3 n3 vq2 E3 p3 => ?_⟩
    unfold store2Out at p3
    rw [hi, ez] at p3
    have s13 := s12.trans s3
    cases e2 : q2.d with
    | int z2 =>
      rw [e2] at p3
      simp only [hj, hes] at p3
      cases hl2 : ixN es.length z2 with
      | none => rw [hl2] at p3; exact p3.elim
      | some l =>
        rw [hl2] at p3
        simp only at p3
        split at p3
        · rename_i hs
          have z2q := (vq2.fz (E2.ee.nin n3 _)).int e2
          refine ⟨b, ys, z2, l, rfl, z2q, s13 _ _ hb, by rw [← al2.length]; exact hl2, ?_⟩
          have hll : l < es.length := (ixN_seq hl2).2.1
          have bf : b ∈ f := by rw [ef2]; exact List.mem_cons_self
          have bF : b ∈ F i := fqF b (hf b bf)
          have nab : a ≠ b := fun z => nd (z ▸ hf b bf)
          have kp : ∀ c o, c ≠ b → H c = some o → upd H3 b (.lst (ys.set l v)) c = some o := fun c o hc q => by rw [upd_ne hc]; exact s13 _ _ q
          have rv : ∀ S' H', Ow S' H' k r.d v [] := fun S' H' => (scal_ow hs vr.ow k).1
          obtain ⟨y3, f3, hy3, py3, hf3, go3⟩ := al2.at (List.getElem?_eq_getElem hll)
          have Sx : ∀ c, inS S0 F (i :: []) c ∨ c ∈ F i → inS S0 F [] c := fun c z => z.elim inS_sub fun z => .inr ⟨i, by simp, z⟩
          obtain ⟨fr', al3, hfr'⟩ := go3 (Ow (fun c => inS S0 F (i :: []) c ∨ c ∈ F i) (upd H3 b (.lst (ys.set l v))) k) r.d v [] (fun d w g hg _ po => Ow.imp (fun c o q nn => ⟨kp c o (fun z => nn (z ▸ (.inr ⟨i, by simp, bF⟩))) q, fun z => nn (Sx c z)⟩) k d w g (fun c o hc q => kp c o (fun z => nd2 (z ▸ hg c hc)) q) po) (rv _ _) (fun c hc => by cases hc)
          have sub2 : ∀ c ∈ fr', c ∈ fr := fun c hc => (hfr' c hc).elim (fun z => by cases z) fun z => z.1
          obtain ⟨fq', al4, hfq'⟩ := go (Ow (fun c => inS S0 F (i :: []) c ∨ c ∈ F i) (upd H3 b (.lst (ys.set l v))) (k + 1)) (.lst (es.set l r.d)) (.ref b) (b :: fr') (fun d w g hg hn po => Ow.imp (fun c o q nn => ⟨kp c o (fun z => nn (z ▸ (.inr ⟨i, by simp, bF⟩))) q, fun z => nn (Sx c z)⟩) (k + 1) d w g (fun c o hc q => kp c o (fun z => hn c hc (z ▸ bf)) q) po) ⟨b, ys.set l v, fr', rfl, upd_same, al3, rfl, fun z => nd2 (sub2 b z)⟩ (fun c hc => .inl ((List.mem_cons.mp hc).elim (fun z => z ▸ bf) fun z => by rw [ef2]; exact List.mem_cons_of_mem _ (sub2 c z)))
          have sub4 : ∀ c ∈ fq', c ∈ fq := fun c hc => (hfq' c hc).elim (fun z => (List.mem_cons.mp z).elim (fun z => z ▸ hf b bf) fun z => hf c (by rw [ef2]; exact List.mem_cons_of_mem _ (sub2 c z))) fun z => z.1
          have same_set : xs.set j (.ref b) = xs := by
            apply List.ext_getElem?
            intro m
            by_cases hm : m = j
            · subst hm
              rw [List.getElem?_set_self (List.getElem?_eq_some_iff.mp hy).1, hy]
            · rw [List.getElem?_set_ne (Ne.symm hm)]
          rw [same_set] at al4
          obtain ⟨F', E'⟩ : ∃ F', ER S0 H0 ((PyL.frzL [] ρ).set i (some (.lst (ds.set j (.lst (es.set l r.d))), k + 2))) σ (upd H3 b (.lst (ys.set l v))) F' := by
            refine ⟨_, E.mutate (d' := .lst (ds.set j (.lst (es.set l r.d)))) (k' := k + 2) (e := []) (fp' := a :: fq') (o' := .lst (ys.set l v)) hi hv (by simp) s13 bF trivial (fun c hc => .inl ((List.mem_cons.mp hc).elim (fun z => z ▸ aF) fun z => fqF c (sub4 c z))) ?_⟩
            refine ⟨a, xs, fq', rfl, by rw [upd_ne nab]; exact s13 _ _ ha, ?_, rfl, fun z => nd (sub4 a z)⟩
            exact al4.imp fun d w g hg po => Ow.imp (fun c o q nn => ⟨q, fun z => nn (z.imp id fun z => (List.mem_cons.mp z).elim (fun (z : c = a) => z ▸ aF) fun z => fqF c (sub4 c z))⟩) (k + 1) d w g (fun _ _ _ q => q) po
          exact p3 _ _ _ E'
        · exact p3.elim
    | _ => rw [e2] at p3; exact p3.elim
end
end PyL

namespace PyL
open PySem PySem.Spec L2
set_option autoImplicit false

/-! ### a, b = e -/
theorem EE.put' {S1 : PA1} {ρ : Ev} {σ : St} {H : Hp} {F : FP} {i : Nat} {d : D} {k : Nat} {v : V} {fp : List Addr} (E : EE (fun a => S1 a ∨ a ∈ fp) ρ σ H F) (o : Ow (fun a => inS S1 F [i] a ∨ a ∈ fp) H k d v fp) (n : ∀ a ∈ fp, ¬ S1 a) :
    EE S1 (ρ.set i (some (d, k))) (σ.set i (some v)) H (putF i fp F) := by
  have E1 : EE S1 ρ σ H F := E.ext (Same.refl H) (fun a h => .inl (.inl h)) fun a h => E.out a (.inl h)
  refine E1.put o (fun a ha z => ?_) fun j d' k' w hj h1 h2 ow => ?_
  · rcases z with z | ⟨j, _, z⟩
    · exact n a ha z
    · exact E.apart j a z (.inr ha)
  · obtain ⟨w', e', ow'⟩ := E.rep j d' k' h1
    rw [h2] at e'; cases e'
    refine Ow.imp (fun b o q nn => ⟨q, fun z => nn ?_⟩) _ _ _ _ (fun _ _ _ q => q) ow'
    rcases z with (z | ⟨m, _, z⟩) | z
    · exact .inl (.inl z)
    · exact .inr ⟨m, by simp, z⟩
    · exact .inl (.inr z)
def setTs : List Nat → List D → Nat → Ev → Option Ev
  | [], [], _, ρ => some ρ
  | i :: is, d :: ds, k, ρ => setTs is ds k (ρ.set i (some (d, k)))
  | _, _, _, _ => none
theorem setTs_run {S1 : PA1} {k : Nat} : ∀ (is : List Nat) (ds : List D) (xs : List V) (fp : List Addr) (ρ ρ' : Ev) (F : FP) (σ : St) (H : Hp) (Q : St → Hp → Prop), EE (fun a => S1 a ∨ a ∈ fp) ρ σ H F → (∀ a ∈ fp, ¬ S1 a) → (∀ i a, a ∈ F i → a ∉ fp) →
    (∀ T : PA1, (∀ a, T a → TrM H a) → True) → AllF (Ow (fun a => inS S1 F [] a ∨ a ∈ fp) H k) ds xs fp → setTs is ds k ρ = some ρ' →
    (∀ σ' F', EE S1 ρ' σ' H F' → (∀ i a, a ∈ F' i → a ∈ F i ∨ a ∈ fp ∨ ∃ j, a ∈ F j) → Q σ' H) → gNames is xs σ H Q
  | [], [], xs, fp, ρ, ρ', F, σ, H, Q, E, n, nF, _, ⟨e1, e2⟩, e, q => by
    cases e
    exact ⟨e1, q σ F (E.ext (Same.refl H) (fun a h => .inl (.inl h)) fun a h => E.out a (.inl h)) fun i a h => .inl h⟩
  | [], _ :: _, _, _, _, _, _, _, _, _, _, _, _, _, _, e, _ => by cases e
  | _ :: _, [], _, _, _, _, _, _, _, _, _, _, _, _, _, e, _ => by cases e
  | i :: is, d :: ds, xs, fp, ρ, ρ', F, σ, H, Q, E, n, nF, tt, ⟨x, r, f1, f2, e, o, l, ef, dj⟩, eq, q => by
    refine ⟨x, r, e, ?_⟩
    have E1 : EE (fun a => (S1 a ∨ a ∈ f2) ∨ a ∈ f1) ρ σ H F := E.ext (Same.refl H) (fun a h => .inl (h.elim (fun h => h.imp id fun h => by rw [ef]; exact List.mem_append_right _ h) fun h => .inr (by rw [ef]; exact List.mem_append_left _ h))) fun a h => E.out a (h.elim (fun h => h.imp id fun h => by rw [ef]; exact List.mem_append_right _ h) fun h => .inr (by rw [ef]; exact List.mem_append_left _ h))
    have E2 : EE (fun a => S1 a ∨ a ∈ f2) (ρ.set i (some (d, k))) (σ.set i (some x)) H (putF i f1 F) := by
      refine E1.put' (Ow.imp (fun b o q nn => ⟨q, fun z => nn ?_⟩) _ _ _ _ (fun _ _ _ q => q) o) fun a h1 z => ?_
      · rcases z with ((z | z) | ⟨j, _, z⟩) | z
        · exact .inl (.inl z)
        · exact .inr (by rw [ef]; exact List.mem_append_right _ z)
        · exact .inl (.inr ⟨j, by simp, z⟩)
        · exact .inr (by rw [ef]; exact List.mem_append_left _ z)
      · rcases z with z | z
        · exact n a (by rw [ef]; exact List.mem_append_left _ h1) z
        · exact dj a h1 z
    refine setTs_run is ds r f2 (ρ.set i (some (d, k))) ρ' (putF i f1 F) (σ.set i (some x)) H Q E2 (fun a ha => n a (by rw [ef]; exact List.mem_append_right _ ha)) (fun j a h z => ?_) tt (l.imp fun d v g hg po => Ow.imp (fun b o q nn => ⟨q, fun z => nn ?_⟩) _ _ _ _ (fun _ _ _ q => q) po) eq fun σ' F' E' hF => q σ' F' E' fun j a h => ?_
    · rcases putF_mem.mp h with ⟨_, h⟩ | ⟨_, h⟩
      · exact dj a h z
      · exact nF j a h (by rw [ef]; exact List.mem_append_right _ z)
    · rcases z with (z | ⟨j, _, z⟩) | z
      · exact .inl (.inl z)
      · rcases putF_mem.mp z with ⟨_, z⟩ | ⟨_, z⟩
        · exact .inr (by rw [ef]; exact List.mem_append_left _ z)
        · exact .inl (.inr ⟨j, by simp, z⟩)
      · exact .inr (by rw [ef]; exact List.mem_append_right _ z)
    · have key : ∀ m, a ∈ putF i f1 F m → a ∈ F j ∨ a ∈ fp ∨ ∃ j, a ∈ F j := fun m h => by
        rcases putF_mem.mp h with ⟨_, h⟩ | ⟨_, h⟩
        · exact .inr (.inl (by rw [ef]; exact List.mem_append_left _ h))
        · exact .inr (.inr ⟨m, h⟩)
      rcases hF j a h with h | h | ⟨m, h⟩
      · exact key j h
      · exact .inr (.inl (by rw [ef]; exact List.mem_append_right _ h))
      · exact key m h
def setTOut (is : List Nat) (r : R) (ρ : Ev) : Out := match r.d with
  | .tup ds => match setTs is ds (r.k - 1) (frzL r.e ρ) with
    | some ρ' => .nx ρ'
    | none => .bad
  | _ => .bad
def sSetT (is : List Nat) (f : FE) : FS := stE f (setTOut is)
theorem setTs_len {k : Nat} : ∀ {is : List Nat} {ds : List D} {ρ ρ' : Ev}, setTs is ds k ρ = some ρ' → ds.length = is.length
  | [], [], _, _, _ => rfl
  | [], _ :: _, _, _, h => by cases h
  | _ :: _, [], _, _, h => by cases h
  | i :: is, d :: ds, ρ, ρ', h => by
    have := setTs_len (is := is) (ds := ds) h
    simp [this]
section
variable {X : Cx} {W : WK} {e : Expr} {fe : FE} {pos : Pos} {tg : Expr}
theorem s_setT {is : List Nat} (hp : PS X (.Assign [tg] e pos) (tAsg (rdE W fe) (gTup X.K is.length (gNames is)))) : PS X (.Assign [tg] e pos) (rdS W (sSetT is fe)) := by
  refine psI hp fun Dn σ H ⟨S0, H0, ρ, F, E, p⟩ => ps_bind E p fun r v H1 fp s n vr E1 p1 => ?_
  unfold setTOut at p1
  split at p1
  · rename_i ds hd
    split at p1
    · rename_i ρ' hρ
      have ow := vr.ow
      rw [hd] at ow
      -- the items, owned so deep
      obtain ⟨a, xs, rfl, ha, al⟩ : ∃ a xs, v = .ref a ∧ H1 a = some (.tup xs) ∧ AllF (Ow (fun a => inS S0 F r.e a ∨ a ∈ fp) H1 (r.k - 1)) ds xs fp := by
        cases hk : r.k with
        | zero =>
          rw [hk] at ow
          obtain ⟨⟨a, xs, e, _, h, l⟩, ef⟩ := ow
          exact ⟨a, xs, e, h, by rw [ef] at l ⊢; exact all_zero l⟩
        | succ m =>
          rw [hk] at ow
          obtain ⟨a, xs, e, _, h, al⟩ := ow
          exact ⟨a, xs, e, h, al⟩
      refine ⟨a, xs, rfl, SqT.of ha, by rw [← al.length, setTs_len hρ], ?_⟩
      have Ef := E.frzL r.e
      have trf : ∀ b ∈ fp, TrM H1 b := Ow.there _ _ _ _ vr.ow
      have E2 : EE (fun a => S0 a ∨ a ∈ fp) (frzL r.e ρ) σ H1 (cutF r.e F) := Ef.ee.ext s (fun a h => h.imp id fun h => n a h) fun a h => h.elim (fun h => (E.ee.out a h).grow s) (trf a)
      refine setTs_run is ds xs fp (frzL r.e ρ) ρ' (cutF r.e F) σ H1 _ E2 (fun b hb z => ?_) (fun i b h z => ?_) (fun _ _ => trivial) (al.imp fun d w g _ po => Ow.imp (fun b o q nn => ⟨q, fun z => nn (z.imp (fun z => by have := inS_cut.mp z; rwa [List.append_nil] at this) id)⟩) _ _ _ _ (fun _ _ _ q => q) po) hρ fun σ' F' E' hF => ?_
      · obtain ⟨o, q, _⟩ := E.ee.out b z
        rw [n b hb] at q; cases q
      · obtain ⟨o, q, _⟩ := Ef.ee.trk i b h
        rw [n b z] at q; cases q
      · refine p1 σ' H1 F' ⟨E', fun i b h => ?_, E1.same, E.old⟩
        rcases hF i b h with h | h | ⟨j, h⟩
        · exact Ef.new i b h
        · exact E.same.free (n b h)
        · exact Ef.new j b h
    · exact p1.elim
  · exact p1.elim
end

/-! ### a, b = x, y -/
def stA (f : FA) (g : List R → Ev → Out) : FS := fun ρ => match f ρ with
  | .ok rs => g rs ρ
  | .exn x => .ex x ρ
  | .bad => .bad
theorem ps_abind {W : WK} {S0 : PA1} {H0 : Hp} {ρ : Ev} {F : FP} {σ : St} {H : Hp} {Dn : Ends} {f : FA} {g : List R → Ev → Out} {K : List V → Hp → Prop} (E : ER S0 H0 ρ σ H F) (h : PostS W S0 H0 Dn (stA f g ρ))
    (k : ∀ rs vs H1 fp, Same H H1 → (∀ a ∈ fp, H a = none) → VRL S0 F fp H1 rs vs fp → ER S0 H0 ρ σ H1 F → PostS W S0 H0 Dn (g rs ρ) → K vs H1) : rdA W f σ H K := by
  refine ⟨S0, ρ, F, E.ee, ?_⟩
  unfold stA at h
  cases q : f ρ with
  | ok r =>
    rw [q] at h
    exact fun v H1 fp s n vr => k r v H1 fp s n vr (E.grow s) h
  | exn x => rw [q] at h; exact fun H' s => h σ H' F (E.grow s)
  | bad => rw [q] at h; exact h
/-- a frozen value is stored -/
theorem ER.setF {S0 : PA1} {H0 : Hp} {ρ : Ev} {σ : St} {H : Hp} {F : FP} (E : ER S0 H0 ρ σ H F) {i : Nat} {d : D} {v : V} (r : Rp (inS S0 F []) H d v) : ∃ F', ER S0 H0 (ρ.set i (some (d, 0))) (σ.set i (some v)) H F' ∧ ∀ e a, inS S0 F' e a → inS S0 F e a := by
  obtain ⟨F', E'⟩ := E.assign (i := i) (d := d) (k := 0) (e := []) (fp := []) (Same.refl H) (fun a ha => by cases ha) ⟨Rp.imp (fun b o q n => ⟨q, fun z => z.elim n (fun z => by cases z)⟩) _ _ r, rfl⟩
  have E2 : EE S0 (ρ.set i (some (d, 0))) (σ.set i (some v)) H (putF i [] F) := E.ee.put ⟨Rp.imp (fun b o q n => ⟨q, fun z => z.elim (fun z => n (inS_sub z)) (fun z => by cases z)⟩) _ _ r, rfl⟩ (fun a ha => by cases ha) fun j d' k' w hj h1 h2 ow => Ow.imp (fun b o q n => ⟨q, fun z => z.elim (fun z => n (inS_sub z)) (fun z => by cases z)⟩) _ _ _ _ (fun _ _ _ q => q) ow
  refine ⟨putF i [] F, ⟨E2, fun j a h => ?_, E.same, E.old⟩, fun e a z => ?_⟩
  · rcases putF_mem.mp h with ⟨_, h⟩ | ⟨_, h⟩
    · cases h
    · exact E.new j a h
  · rcases z with z | ⟨j, h1, z⟩
    · exact .inl z
    · rcases putF_mem.mp z with ⟨_, z⟩ | ⟨_, z⟩
      · cases z
      · exact .inr ⟨j, h1, z⟩
def parOut (i j : Nat) (rs : List R) (ρ : Ev) : Out := match rs with
  | [r, q] => .nx (((frzL (esL rs) ρ).set i (some (r.d, 0))).set j (some (q.d, 0)))
  | _ => .bad
def sPar (i j : Nat) (f : FA) : FS := stA f (parOut i j)
section
variable {X : Cx} {W : WK} {st : Stmt} {fa : FA}
theorem s_par {i j : Nat} (hp : PS X st (tPar i j (rdA W fa))) : PS X st (rdS W (sPar i j fa)) := by
  refine psI hp fun Dn σ H ⟨S0, H0, ρ, F, E, p⟩ => ps_abind E p fun rs vs H1 fp s n l E1 p1 => ?_
  have fz := l.fz fun e => E.ee.nin n e
  have rp := fz.rp (E := esL rs) fun r h => esL_mem h
  match rs, rp, p1 with
  | [r, q], ⟨v, t, e1, h1, w, t2, e2, h2, e3⟩, p1 =>
    rw [show t2 = [] from e3] at e2
    subst e2
    refine ⟨v, w, e1, ?_⟩
    have Ef := E1.frzL (esL [r, q])
    have c : ∀ {a}, inS S0 (cutF (esL [r, q]) F) [] a → inS S0 F (esL [r, q]) a := fun z => by have := inS_cut.mp z; rwa [List.append_nil] at this
    obtain ⟨F1, E2, s1⟩ := Ef.setF (i := i) (Rp.imp (fun b o q n => ⟨q, fun z => n (c z)⟩) _ _ h1)
    obtain ⟨F2, E3, s2⟩ := E2.setF (i := j) (Rp.imp (fun b o q n => ⟨q, fun z => n (c (s1 _ _ z))⟩) _ _ h2)
    exact p1 _ _ _ E3
  | [], _, p1 => exact p1.elim
  | [_], _, p1 => exact p1.elim
  | _ :: _ :: _ :: _, _, p1 => exact p1.elim
end

/-! ### pop, reverse, remove, insert -/
def popOut (i : Nat) (tg : FG) (vs : List Nat) (ρ : Ev) : Out := match ρ[i]? with
  | some (some (.lst ds, _ + 1)) => match ds.getLast? with
    | some d => if i ∈ vs then .bad else match tg d (wipeE (ρ.set i (some (.lst ds.dropLast, 1))) vs) with
      | some ρ' => .nx ρ'
      | none => .bad
    | none => .bad
  | _ => .bad
def sPop (i : Nat) (tg : FG) (vs : List Nat) : FS := popOut i tg vs
theorem RpL.dropLast {S : PA1} {H : Hp} {ds : List D} {xs : List V} (l : RpL S H ds xs) : RpL S H ds.dropLast xs.dropLast := by
  rw [List.dropLast_eq_take, List.dropLast_eq_take, l.length]
  exact l.take _
theorem frzL_nil (ρ : Ev) : frzL [] ρ = ρ := rfl
section
variable {X : Cx} {W : WK} {st : Stmt} {fe : FE}
theorem ER.pop {S0 : PA1} {H0 : Hp} {ρ : Ev} {σ : St} {H : Hp} {F : FP} (E : ER S0 H0 ρ σ H F) {i : Nat} {ds : List D} {k : Nat} {d : D} (hi : ρ[i]? = some (some (.lst ds, k + 1))) (hd : ds.getLast? = some d) :
    ∃ a xs y F', σ[i]? = some (some (.ref a)) ∧ H a = some (.lst xs) ∧ xs[xs.length - 1]? = some y ∧ ER S0 H0 (ρ.set i (some (.lst ds.dropLast, 1))) σ (upd H a (.lst xs.dropLast)) F' ∧ Rp (inS S0 F' []) (upd H a (.lst xs.dropLast)) d y := by
  obtain ⟨a, xs, fq, hv, ha, al, ef, nd⟩ := E.list hi
  have aF : a ∈ F i := by rw [ef]; exact List.mem_cons_self
  have fqF : ∀ b ∈ fq, b ∈ F i := fun b hb => by rw [ef]; exact List.mem_cons_of_mem _ hb
  have l0 : RpL (fun b => inS S0 F (i :: []) b ∨ b = a) H ds xs := al.frzn (fun b z => z.elim inS_sub fun z => z ▸ .inr ⟨i, by simp, aF⟩) fun b hb z => z.elim (fun z => by
    rcases z with z | ⟨j, hj, z⟩
    · exact E.ee.apart i b (fqF b hb) z
    · exact hj (by simp [E.ee.disj j i b z (fqF b hb)])) fun z => nd (z ▸ hb)
  have hdl : ds[ds.length - 1]? = some d := by rw [← hd, List.getLast?_eq_getElem?]
  obtain ⟨y, hy, ry⟩ := l0.get hdl
  obtain E' := E.mutate (d' := .lst ds.dropLast) (k' := 1) (e := []) (fp' := [a]) (o' := .lst xs.dropLast) hi hv (by simp) (Same.refl H) aF trivial (fun b hb => .inl (by rw [List.mem_singleton.mp hb]; exact aF)) ⟨a, xs.dropLast, [], rfl, upd_same, all_zero (RpL.imp (fun b o q n => ⟨by rw [upd_ne (fun z => n (.inr z))]; exact q, fun z => n (z.imp id fun z => List.mem_singleton.mp z)⟩) _ _ l0.dropLast), rfl, by simp⟩
  refine ⟨a, xs, y, _, hv, ha, by rw [← l0.length]; exact hy, E', Rp.imp (fun b o q n => ⟨by rw [upd_ne (fun z => n (.inr z))]; exact q, fun z => n ?_⟩) _ _ ry⟩
  rcases z with z | ⟨j, _, z⟩
  · exact .inl (.inl z)
  · rcases putF_mem.mp z with ⟨_, z⟩ | ⟨z1, z2⟩
    · exact .inr (List.mem_singleton.mp z)
    · exact .inl (.inr ⟨j, by simp [z1], (cutF_mem.mp z2).2⟩)
theorem s_pop (i : Nat) {tg : FG} {vs : List Nat} (hp : PS X st (tAsg (tBM0 X.K "list" rPop (tVar i)) (rdG vs tg))) : PS X st (rdS W (sPop i tg vs)) := by
  refine psI hp fun Dn σ H ⟨S0, H0, ρ, F, E, p⟩ => ?_
  unfold sPop popOut at p
  split at p
  · rename_i ds k hi
    split at p
    · rename_i d hd
      split at p
      · exact p.elim
      · rename_i niv
        obtain ⟨a, xs, y, F', hv, ha, hy, E', ry⟩ := E.pop hi hd
        refine ⟨.ref a, hv, .inl ⟨rfl, xs, SqL.of ha⟩, a, xs, y, rfl, rfl, ha, hy, ?_⟩
        cases ht : tg d (wipeE (ρ.set i (some (.lst ds.dropLast, 1))) vs) with
        | none => rw [ht] at p; exact p.elim
        | some ρ' =>
          rw [ht] at p
          refine ⟨S0, _, _, d, E'.ee.drop vs, fun k hk => by simp [cutF, hk], Rp.imp (fun b o q n => ⟨q, fun z => n ?_⟩) _ _ ry, ρ', ht, fun σ' E2 _ _ => p σ' _ _ ⟨E2, fun k b h => E'.new k b (cutF_mem.mp h).2, E'.same, E'.old⟩⟩
          rcases z with z | ⟨j, _, z⟩
          · exact .inl z
          · exact .inr ⟨j, by simp, (cutF_mem.mp z).2⟩
    · exact p.elim
  · exact p.elim
def sRev (i : Nat) : FS := fun ρ => match ρ[i]? with
  | some (some (.lst ds, _ + 1)) => .nx (ρ.set i (some (.lst ds.reverse, 1)))
  | _ => .bad
theorem ER.lst0 {S0 : PA1} {H0 : Hp} {ρ : Ev} {σ : St} {H : Hp} {F : FP} (E : ER S0 H0 ρ σ H F) {i : Nat} {ds : List D} {k : Nat} (e : List Nat) (hi : ρ[i]? = some (some (.lst ds, k + 1))) :
    ∃ a xs fq, σ[i]? = some (some (.ref a)) ∧ H a = some (.lst xs) ∧ F i = a :: fq ∧ RpL (fun b => inS S0 F (i :: e) b ∨ b = a) H ds xs := by
  obtain ⟨a, xs, fq, hv, ha, al, ef, nd⟩ := E.list hi
  have aF : a ∈ F i := by rw [ef]; exact List.mem_cons_self
  have fqF : ∀ b ∈ fq, b ∈ F i := fun b hb => by rw [ef]; exact List.mem_cons_of_mem _ hb
  exact ⟨a, xs, fq, hv, ha, ef, al.frzn (fun b z => z.elim inS_sub fun z => z ▸ .inr ⟨i, by simp, aF⟩) fun b hb z => z.elim (fun z => by
    rcases z with z | ⟨j, hj, z⟩
    · exact E.ee.apart i b (fqF b hb) z
    · exact hj (by simp [E.ee.disj j i b z (fqF b hb)])) fun z => nd (z ▸ hb)⟩
theorem s_rev (i : Nat) (hp : PS X st (tDrop (tBM0 X.K "list" rReverse (tVar i)))) : PS X st (rdS W (sRev i)) := by
  refine psI hp fun Dn σ H ⟨S0, H0, ρ, F, E, p⟩ => ?_
  unfold sRev at p
  split at p
  · rename_i ds k hi
    obtain ⟨a, xs, fq, hv, ha, ef, l⟩ := E.lst0 [] hi
    obtain ⟨F', E'⟩ := E.setFrz (e := []) hi (by simp) (Same.refl H) hv ef l.reverse
    exact ⟨.ref a, hv, .inl ⟨rfl, xs, SqL.of ha⟩, a, xs, rfl, rfl, ha, p _ _ _ E'⟩
  · exact p.elim
def remOut (i : Nat) (r : R) (ρ : Ev) : Out := match ρ[i]?, r.d with
  | some (some (.lst ds, _ + 1)), .int z => match intsOf ds with
    | some ns => if z ∈ ns then .nx (ρ.set i (some (.lst ((ns.erase z).map .int), 1))) else .bad
    | none => .bad
  | _, _ => .bad
def sRem (i : Nat) (f : FE) : FS := ownL i (stE f (remOut i))
theorem s_rem (i : Nat) (hp : PS X st (tDrop (tBM X.K "list" rRemI (tVar i) (tCons (rdE W fe) tNil)))) : PS X st (rdS W (sRem i fe)) := by
  refine psI hp fun Dn σ H ⟨S0, H0, ρ, F, E, p⟩ => ?_
  obtain ⟨⟨ds, k, hi⟩, p⟩ := ownL_ok p
  obtain ⟨a, xs, fq, hv, ha, ef, l⟩ := E.lst0 [] hi
  refine ⟨.ref a, hv, .inl ⟨rfl, xs, SqL.of ha⟩, ps_bind E p fun r v H1 fp s n vr E1 p1 => ?_⟩
  unfold remOut at p1
  rw [hi] at p1
  split at p1
  · rename_i ds' k' z e1 e2
    cases e1
    split at p1
    · rename_i ns hn
      split at p1
      · rename_i hz
        have zq := (vr.fz (E.ee.nin n _)).int e2
        obtain ⟨j, h1, h2, h3, h4⟩ := first_at hz
        have hx := l.ofInts hn
        rw [hx] at ha
        refine ⟨a, ns, z, j, rfl, by rw [zq], s _ _ ha, h2, h3, ?_⟩
        rw [h4]
        obtain ⟨F', E'⟩ := E1.setFrz (e := []) (ds' := (ns.erase z).map .int) (xs' := (ns.erase z).map V.int) hi (by simp) (Same.refl H1) hv ef (RpL.ints _)
        exact p1 _ _ _ E'
      · exact p1.elim
    · exact p1.elim
  · exact p1.elim
end

/-! ### x[j].append(v), x a tuple of one's own -/
def appTOut (i : Nat) (j : Nat) (r : R) (ρ : Ev) : Out := match ρ[i]? with
  | some (some (.tup ds, 2)) => match ds[j]? with
    | some (.lst es) => if i ∈ r.e then .bad else if es.length < sizeLine then .nx ((frzL r.e ρ).set i (some (.tup (ds.set j (.lst (es ++ [r.d]))), 2))) else .bad
    | _ => .bad
  | _ => .bad
def ownT (i j : Nat) (f : FS) : FS := fun ρ => match ρ[i]? with
  | some (some (.tup ds, 2)) => match ds[j]? with
    | some (.lst _) => f ρ
    | _ => .bad
  | _ => .bad
theorem ownT_ok {W : WK} {S0 : PA1} {H0 : Hp} {ρ : Ev} {i j : Nat} {f : FS} {Dn : Ends} (p : PostS W S0 H0 Dn (ownT i j f ρ)) : (∃ ds es, ρ[i]? = some (some (.tup ds, 2)) ∧ ds[j]? = some (.lst es)) ∧ PostS W S0 H0 Dn (f ρ) := by
  unfold ownT at p
  split at p
  · rename_i ds h
    split at p
    · rename_i es h2
      exact ⟨⟨ds, es, h, h2⟩, p⟩
    · exact p.elim
  · exact p.elim
def sAppT (i j : Nat) (f : FE) : FS := ownT i j (stE f (appTOut i j))
section
variable {X : Cx} {W : WK} {st : Stmt} {fe : FE}
theorem s_appT (i j : Nat) (hp : PS X st (tDrop (tBM X.K "list" rAppend (tOp (rIxT X.K) (tVar i) (tC (.int (j : Int)))) (tCons (rdE W fe) tNil)))) : PS X st (rdS W (sAppT i j fe)) := by
  refine psI hp fun Dn σ H ⟨S0, H0, ρ, F, E, p⟩ => ?_
  obtain ⟨⟨ds, es, hi, hj⟩, p⟩ := ownT_ok p
  obtain ⟨v0, hv, a, xs, rfl, nS, ha, al⟩ := E.ee.rep i _ _ hi
  obtain ⟨y, f, hy, py, hf, go⟩ := al.at hj
  obtain ⟨b, ys, fr, rfl, hb, al2, ef2, nd2⟩ := py
  have hat : atI xs (j : Int) = some (.ref b) := atI_nat hy
  refine ⟨.ref a, hv, a, xs, (j : Int), .ref b, rfl, rfl, SqT.of ha, hat, .inl ⟨rfl, ys, SqL.of hb⟩, ps_bind E p fun r v H1 fp s n vr E1 p1 => ?_⟩
  unfold appTOut at p1
  rw [hi] at p1
  simp only [hj] at p1
  split at p1
  · exact p1.elim
  · rename_i nie
    split at p1
    · rename_i hz
      have bf : b ∈ f := by rw [ef2]; exact List.mem_cons_self
      have bF : b ∈ F i := hf b bf
      have bS : inS S0 F r.e b := .inr ⟨i, nie, bF⟩
      have fr0 : fr = [] := by
        have : ∀ {ds : List D} {xs : List V} {fp : List Addr} {S : PA1} {K : Hp}, AllF (Ow S K 0) ds xs fp → fp = [] := by
          intro ds
          induction ds with
          | nil => intro xs fp S K h; exact h.2
          | cons d ds ih => intro xs fp S K h; obtain ⟨x, r, f1, f2, e, p, q, ef, dj⟩ := h; rw [ef, p.2, ih q]; rfl
        exact this al2
      subst fr0
      refine ⟨b, ys, v, rfl, rfl, s _ _ hb, by rw [← al2.length]; exact hz, ?_⟩
      have kp : ∀ c o, c ≠ b → H c = some o → upd H1 b (.lst (ys ++ [v])) c = some o := fun c o hc q => by rw [upd_ne hc]; exact s _ _ q
      have Sx : ∀ c, inS S0 F (i :: r.e) c ∨ c ∈ F i → inS S0 F [] c := fun c z => z.elim inS_sub fun z => .inr ⟨i, by simp, z⟩
      have vz : Rp (fun c => inS S0 F (i :: r.e) c ∨ c ∈ F i) H1 r.d v := Ow.frz (fun c _ _ z => .inl (z.elim (fun z => inS_mono (fun j h => List.mem_cons_of_mem _ h) z) fun z => .inr ⟨i, nie, z⟩)) _ _ _ _ (fun c hc z => z.elim (fun z => E.ee.fresh z (n c hc)) fun z => by
        obtain ⟨o, q, _⟩ := E.ee.trk i c z
        rw [n c hc] at q; cases q) vr.ow
      obtain ⟨fq', al4, hfq'⟩ := go (Ow (fun c => inS S0 F (i :: r.e) c ∨ c ∈ F i) (upd H1 b (.lst (ys ++ [v]))) 1) (.lst (es ++ [r.d])) (.ref b) [b] (fun d w g hg hn po => Ow.imp (fun c o q nn => ⟨kp c o (fun z => nn (z ▸ (.inr ⟨i, by simp, bF⟩))) q, fun z => nn (Sx c z)⟩) 1 d w g (fun c o hc q => kp c o (fun z => hn c hc (z ▸ bf)) q) po)
        ⟨b, ys ++ [v], [], rfl, upd_same, all_zero (RpL.snoc (al2.toL fun d w g _ po => Rp.imp (fun c o q nn => ⟨kp c o (fun z => nn (z ▸ (.inr ⟨i, by simp, bF⟩))) q, fun z => nn (Sx c z)⟩) _ _ po.1) (Rp.imp (fun c o q nn => ⟨by rw [upd_ne (fun (z : c = b) => nn (.inr (z ▸ bF)))]; exact q, nn⟩) _ _ vz)), rfl, by simp⟩ (fun c hc => .inl ((List.mem_singleton.mp hc) ▸ bf))
      have sub4 : ∀ c ∈ fq', c ∈ F i := fun c hc => (hfq' c hc).elim (fun z => (List.mem_singleton.mp z) ▸ bF) fun z => z.1
      have same_set : xs.set j (.ref b) = xs := by
        apply List.ext_getElem?
        intro m
        by_cases hm : m = j
        · subst hm
          rw [List.getElem?_set_self (List.getElem?_eq_some_iff.mp hy).1, hy]
        · rw [List.getElem?_set_ne (Ne.symm hm)]
      rw [same_set] at al4
      have nab : a ≠ b := fun z => by rw [z, hb] at ha; cases ha
      obtain ⟨F', E'⟩ : ∃ F', ER S0 H0 ((PyL.frzL r.e ρ).set i (some (.tup (ds.set j (.lst (es ++ [r.d]))), 2))) σ (upd H1 b (.lst (ys ++ [v]))) F' := by
        refine ⟨_, E.mutate (d' := .tup (ds.set j (.lst (es ++ [r.d])))) (k' := 2) (fp' := fq') (o' := .lst (ys ++ [v])) hi hv nie s bF trivial (fun c hc => .inl (sub4 c hc)) ?_⟩
        refine ⟨a, xs, rfl, fun z => ?_, by rw [upd_ne nab]; exact s _ _ ha, al4.imp fun d w g hg po => Ow.imp (fun c o q nn => ⟨q, fun z => nn (z.imp id (sub4 c))⟩) 1 d w g (fun _ _ _ q => q) po⟩
        exact (E.ee.inTr (z.elim inS_sub fun z => .inr ⟨i, by simp, sub4 a z⟩ : inS S0 F [] a)).notTup ha
      exact p1 _ _ _ E'
    · exact p1.elim
end
end PyL

namespace PyL
open PySem PySem.Spec L2
set_option autoImplicit false

/-! ### isinstance(x, T), T one of the model's own -/
def tyD : D → String
  | .non => "NoneType"
  | .bl _ => "bool"
  | .int _ => "int"
  | .str _ => "str"
  | .lst _ => "list"
  | .tup _ => "tuple"
  | .dK _ => "dict"
  | .dT _ => "dict"
  | .scr _ _ => "list"
  | .exc _ _ _ _ _ => "object"
def isTy (T : String) (d : D) : Bool := match d with
  | .bl _ => T == "bool" || T == "int"
  | d => tyD d == T
def isScr (d : D) : Bool := match d with
  | .scr _ _ => true
  | .exc _ _ _ _ _ => true
  | _ => false
def gIsi (T : String) (r : R) : Res R := if isScr r.d then .bad else okB (isTy T r.d)
def fIsi (T : String) (f : FE) : FE := fun ρ => (f ρ).bind (gIsi T)
theorem Rp.ty {K : PySem.W.Frag} {S : PA1} {H : Hp} : ∀ {d : D} {v : V}, isScr d = false → Rp S H d v → TyX K H v (.type (tyD d))
  | .non, _, _, h => by cases h; exact .base .non
  | .bl b, _, _, h => by cases h; exact .base (.bl b)
  | .int i, _, _, h => by cases h; exact .base (.int i)
  | .str x, _, _, h => by cases h; exact .base (.str x)
  | .lst ds, _, _, ⟨a, xs, e, _, h, _⟩ => by rw [e]; exact .base (.lst h)
  | .tup ds, _, _, ⟨a, xs, e, _, h, _⟩ => by rw [e]; exact .base (.tup h)
  | .dK kvs, _, _, ⟨a, e, _, h⟩ => by rw [e]; exact .base (.dK h)
  | .dT kvs, _, _, ⟨a, e, _, h⟩ => by rw [e]; exact .base (.dT h)
  | .scr _ _, _, h, _ => by simp [isScr] at h
  | .exc _ _ _ _ _, _, h, _ => by simp [isScr] at h
/-- the answers for the types that are asked -/
def TyAsk (T : String) : Prop := T = "int" ∨ T = "bool" ∨ T = "list" ∨ T = "tuple" ∨ T = "str"
theorem kit_ans (K : PySem.W.Frag) {T : String} (hT : TyAsk T) : ∀ d : D, PySem.W.kitOne K (.type (tyD d)) (.type T) = some (isTy T d) := by
  rcases hT with rfl | rfl | rfl | rfl | rfl <;> intro d <;> cases d <;> rfl
section
variable {X : Cx} {W : WK} {a : Expr} {fa : FE} {p pt pos : Pos} {T : String} {x : Str}
theorem e_isi (hT : TyAsk T) (hg : Gl X "isinstance") (hm : X.mg "isinstance" = none) (hgT : Gl X x) (hmT : X.mg x = none) (hvT : bootBuiltins x = some (.type T)) (ha : PE X a (rdE W fa)) (hnT : x ≠ "__name__" := by decide) (hdT : (x == ("__debug__" : Str)) = false := by decide)
    (h1 : starEach [a, .Name x pt] X.env = (false, eval a X.env) :: starEach [.Name x pt] X.env := by rfl) (h2 : starEach [.Name x pt] X.env = (false, eval (.Name x pt) X.env) :: starEach [] X.env := by rfl)
    (hpl : (backTo pos (starEach [.Name x pt] X.env)).any (·.1) = false := by rfl) : PE X (.Call (.Name "isinstance" p) [a, .Name x pt] [] pos) (rdE W (fIsi T fa)) :=
  peI (pe_callB call_isi hg hm PyProof.Rows.boot_isinstance (pa_cons ha (pa_cons (pe_bltn (v := .ty T) hgT hmT hvT rfl hnT hdT) pa_nil h2) h1) (by decide) (by decide) h1 hpl) fun σ H Q ⟨S0, ρ, F, E, q⟩ => post_bind E q fun r v H1 fp s1 n1 v1 E1 p1 => by
    have z := v1.fz (E.nin n1 _)
    unfold gIsi at p1
    split at p1
    · exact p1.elim
    · rename_i hsc
      have hsc : isScr r.d = false := by simpa using hsc
      exact ⟨v, .ty T, _, _, _, rfl, .ty T, Rp.ty hsc z.rp, kit_ans X.K hT r.d, okB_post p1⟩
end

/-! ### list(range(..)) -/
def lrg (lo hi : Int) : Res R := if -(2 ^ 62) ≤ lo ∧ lo < 2 ^ 62 ∧ -(2 ^ 62) ≤ hi ∧ hi < 2 ^ 62 ∧ (hi - lo).toNat ≤ 2 ^ 24 then .ok ⟨.lst (rgD lo (hi - lo).toNat), 1, [], []⟩ else .bad
def gLR1 (r : R) : Res R := match r.d with
  | .int j => lrg 0 j
  | _ => .bad
def gLR2 (r q : R) : Res R := match r.d, q.d with
  | .int i, .int j => lrg i j
  | _, _ => .bad
def fLR1 (f : FE) : FE := fun ρ => (f ρ).bind gLR1
def fLR2 (f g : FE) : FE := fun ρ => (f ρ).bind fun r => (g ρ).bind fun q => gLR2 r q
theorem rgD_ints (lo : Int) (n : Nat) : rgD lo n = ((List.range n).map fun i : Nat => lo + (i : Int)).map .int := by unfold rgD; rw [List.map_map]; rfl
theorem rgV_ints (a b : Int) : rgV a b = ((List.range (b - a).toNat).map fun i : Nat => a + (i : Int)).map V.int := by unfold rgV; rw [List.map_map]; rfl
theorem lrg_post {W : WK} {S0 : PA1} {ρ : Ev} {F : FP} {σ : St} {H : Hp} {Q : VK} {lo hi : Int} (E : EE S0 ρ σ H F) (h : Post W S0 F σ H Q (lrg lo hi)) : RgOk lo hi ∧ ∀ q, H q = none → Q (.ref q) (upd H q (.lst (rgV lo hi))) := by
  unfold lrg at h
  split at h
  · rename_i hb
    refine ⟨hb, post_lst E h ?_⟩
    rw [rgD_ints, rgV_ints]
    exact RpL.ints _
  · exact h.elim
section
variable {X : Cx} {W : WK} {a b : Expr} {fa fb : FE} {p p2 pos pos2 : Pos}
theorem e_lr1 (hc : X.calm = true) (hg : Gl X "list") (hm : X.mg "list" = none) (hg2 : Gl X "range") (hm2 : X.mg "range" = none) (ha : PE X a (rdE W fa)) (na : starEach [a] X.env = (false, eval a X.env) :: starEach [] X.env := by rfl)
    (nb : starEach [.Call (.Name "range" p2) [a] [] pos2] X.env = (false, eval (.Call (.Name "range" p2) [a] [] pos2) X.env) :: starEach [] X.env := by rfl) : PE X (.Call (.Name "list" p) [.Call (.Name "range" p2) [a] [] pos2] [] pos) (rdE W (fLR1 fa)) :=
  peI (pe_listRg hc hg hm (prg_1 hg2 hm2 ha na) nb) fun σ H Q ⟨S0, ρ, F, E, q⟩ => post_bind E q fun r v H1 fp s1 n1 v1 E1 p1 => by
    have z := v1.fz (E.nin n1 _)
    unfold gLR1 at p1
    split at p1
    · rename_i j e
      exact ⟨j, z.int e, lrg_post E1 p1⟩
    · exact p1.elim
theorem e_lr2 (hc : X.calm = true) (hg : Gl X "list") (hm : X.mg "list" = none) (hg2 : Gl X "range") (hm2 : X.mg "range" = none) (ha : PE X a (rdE W fa)) (hb : PE X b (rdE W fb)) (na : starEach [a, b] X.env = (false, eval a X.env) :: starEach [b] X.env := by rfl) (nb : starEach [b] X.env = (false, eval b X.env) :: starEach [] X.env := by rfl)
    (hp : (backTo pos2 (starEach [b] X.env)).any (·.1) = false := by rfl)
    (nc : starEach [.Call (.Name "range" p2) [a, b] [] pos2] X.env = (false, eval (.Call (.Name "range" p2) [a, b] [] pos2) X.env) :: starEach [] X.env := by rfl) : PE X (.Call (.Name "list" p) [.Call (.Name "range" p2) [a, b] [] pos2] [] pos) (rdE W (fLR2 fa fb)) :=
  peI (pe_listRg hc hg hm (prg_2 hg2 hm2 ha hb na nb hp) nc) fun σ H Q ⟨S0, ρ, F, E, q⟩ => post_bind E q fun r v H1 fp s1 n1 v1 E1 p1 => post_bind E1 p1 fun r2 w H2 fp2 s2 n2 v2 E2 p2 => by
    have z := v1.fz (E.nin n1 _)
    have z2 := v2.fz (E1.nin n2 _)
    unfold gLR2 at p2
    split at p2
    · rename_i i j e1 e2
      exact ⟨i, j, z.int e1, z2.int e2, lrg_post E2 p2⟩
    · exact p2.elim
end

/-! ### x[::-1] -/
def gRevL (r : R) : Res R := match r.d with
  | .lst ds => .ok ⟨.lst ds.reverse, 1, r.c, r.c⟩
  | _ => .bad
def fRevL (f : FE) : FE := fun ρ => (f ρ).bind gRevL
section
variable {X : Cx} {W : WK} {a : Expr} {fa : FE} {p1 p2 p3 pos : Pos} {k : Nat}
theorem e_rev (ha : PE X a (rdE W fa)) : PE X (.Subscript a (.Slice none none (some (.UnaryOp .USub (.Constant (.int 1) k p1) p2)) p3) pos) (rdE W (fRevL fa)) :=
  peI (pe_revL ha) fun σ H Q ⟨S0, ρ, F, E, q⟩ => post_bind E q fun r v H1 fp s1 n1 v1 E1 p1 => by
    have z := v1.fz (E.nin n1 _)
    unfold gRevL at p1
    split at p1
    · rename_i ds e
      obtain ⟨b, us, rfl, hb, lb⟩ := z.lst e
      exact ⟨b, us, rfl, SqL.of hb, post_lst E1 p1 lb.reverse⟩
    · exact p1.elim
end

/-! ### x.index(v) -/
mutual
def noS : D → Bool
  | .str _ => false
  | .lst ds => noSL ds
  | .tup ds => noSL ds
  | _ => true
def noSL : List D → Bool
  | [] => true
  | d :: ds => noS d && noSL ds
end
mutual
theorem lay_of : ∀ (n : Nat) (d : D), pln n d = true → noS d = true → (toPy d).canLay0 = true
  | _, .non, _, _ => rfl
  | _, .bl _, _, _ => rfl
  | _, .int _, _, _ => rfl
  | _, .str _, _, h => by simp [noS] at h
  | n, .lst ds, h, h2 => by
    cases n with
    | zero => simp [pln] at h
    | succ n => exact lay_ofL n ds (by simpa [pln] using h) (by simpa [noS] using h2)
  | n, .tup ds, h, h2 => by
    cases n with
    | zero => simp [pln] at h
    | succ n => exact lay_ofL n ds (by simpa [pln] using h) (by simpa [noS] using h2)
  | _, .dK _, h, _ => by simp [pln] at h
  | _, .dT _, h, _ => by simp [pln] at h
  | _, .scr _ _, h, _ => by simp [pln] at h
  | _, .exc _ _ _ _ _, h, _ => by simp [pln] at h
theorem lay_ofL : ∀ (n : Nat) (ds : List D), plnL n ds = true → noSL ds = true → PyData.canLayAll0 (toPyL ds) = true
  | _, [], _, _ => rfl
  | n, d :: ds, h, h2 => by
    simp only [plnL, noSL, Bool.and_eq_true] at h h2
    simp only [toPyL, PyData.canLayAll0, Bool.and_eq_true]
    exact ⟨lay_of n d h.1 h2.1, lay_ofL n ds h.2 h2.2⟩
end
theorem shaped_of {d : D} (h : pln 60 d = true) (h2 : noS d = true) : SeqAt.shaped (toPy d) = true := by
  unfold SeqAt.shaped
  rw [lay_of 60 d h h2, decide_eq_true (by have := (pln_plain 60 d h).2; omega)]
  rfl
theorem shaped_ofL {ds : List D} (h : plnL 60 ds = true) (h2 : noSL ds = true) : SeqAt.shaped (.list (toPyL ds)) = true := by
  unfold SeqAt.shaped
  have e : PyData.canLay0 (.list (toPyL ds)) = true := lay_ofL 60 ds h h2
  have d : (PyData.list (toPyL ds)).depth ≤ 64 := by
    have := (plnL_plain 60 ds h).2
    show PyData.depthAll (toPyL ds) + 1 ≤ 64
    omega
  rw [e, decide_eq_true d]
  rfl
def fidx (d : D) : List D → Option Nat
  | [] => none
  | x :: xs => if deq x d then some 0 else (fidx d xs).map (· + 1)
theorem fidx_spec {d : D} : ∀ {ds : List D} {j : Nat}, fidx d ds = some j → (∃ z, ds[j]? = some z ∧ deq z d = true) ∧ ∀ (m : Nat) z, m < j → ds[m]? = some z → deq z d = false
  | [], _, h => by cases h
  | x :: xs, j, h => by
    unfold fidx at h
    split at h
    · rename_i hx
      cases h
      exact ⟨⟨x, rfl, hx⟩, fun m z hm => absurd hm (Nat.not_lt_zero m)⟩
    · rename_i hx
      cases q : fidx d xs with
      | none => rw [q] at h; cases h
      | some i =>
        rw [q] at h
        have h : i + 1 = j := by simpa using h
        subst h
        obtain ⟨⟨z, h1, h2⟩, h3⟩ := fidx_spec q
        refine ⟨⟨z, by simpa using h1, h2⟩, fun m z' hm hz => ?_⟩
        cases m with
        | zero => have : x = z' := by simpa using hz
                  rw [← this]; simpa using hx
        | succ m => exact h3 m z' (by omega) (by simpa using hz)
theorem toPyL_get : ∀ (ds : List D) (j : Nat), (toPyL ds)[j]? = ds[j]?.map toPy
  | [], j => by simp [toPyL]
  | d :: ds, 0 => by simp [toPyL]
  | d :: ds, j + 1 => by simp [toPyL, toPyL_get ds j]
theorem plnL_get : ∀ {n : Nat} {ds : List D} {j : Nat} {z : D}, plnL n ds = true → ds[j]? = some z → pln n z = true
  | _, [], _, _, _, h => by simp at h
  | n, d :: ds, 0, z, h, hz => by
    simp only [plnL, Bool.and_eq_true] at h
    have : d = z := by simpa using hz
    rw [← this]; exact h.1
  | n, d :: ds, j + 1, z, h, hz => by
    simp only [plnL, Bool.and_eq_true] at h
    exact plnL_get h.2 (by simpa using hz)
def gIndex (r q : R) : Res R := match r.d with
  | .lst ds => if pln 60 q.d && noS q.d && plnL 60 ds && noSL ds then match fidx q.d ds with
      | some j => okI (j : Nat)
      | none => .bad
    else .bad
  | _ => .bad
/-- the receiver must be a list ahead of the argument -/
def isL (r : R) : Bool := match r.d with
  | .lst _ => true
  | _ => false
def fIndex (f g : FE) : FE := fun ρ => (f ρ).bind fun r => if isL r then (g ρ).bind fun q => gIndex r q else .bad
section
variable {X : Cx} {W : WK} {a b : Expr} {fa fb : FE} {apos cpos : Pos}
theorem e_index (hu : X.A.units + 62 < cLine) (hp : PE X (.Call (.Attribute a "index" apos) [b] [] cpos) (tBM X.K "list" (rIndexD X.K) (rdE W fa) (tCons (rdE W fb) tNil))) : PE X (.Call (.Attribute a "index" apos) [b] [] cpos) (rdE W (fIndex fa fb)) :=
  peI hp fun σ H Q ⟨S0, ρ, F, E, q⟩ => post_bind E q fun r v H1 fp s1 n1 v1 E1 p1 => by
    split at p1
    · rename_i hL
      have z := v1.fz (E.nin n1 _)
      unfold isL at hL
      split at hL
      · rename_i ds hd
        obtain ⟨a', xs, rfl, ha, l⟩ := z.lst hd
        refine ⟨.inl ⟨rfl, xs, SqL.of ha⟩, post_bind E1 p1 fun r2 w H2 fp2 s2 n2 v2 E2 p2 => ?_⟩
        have z2 := v2.fz (E1.nin n2 _)
        unfold gIndex at p2
        rw [hd] at p2
        simp only at p2
        split at p2
        · rename_i hc
          simp only [Bool.and_eq_true] at hc
          obtain ⟨⟨⟨c1, c2⟩, c3⟩, c4⟩ := hc
          split at p2
          · rename_i j hj
            obtain ⟨⟨y, h1, h2⟩, h3⟩ := fidx_spec hj
            have zr : Rp (inS S0 F r.e) H2 (.lst ds) (.ref a') := by have := (z.grow s2).rp; rw [hd] at this; exact this
            refine ⟨a', w, toPy r2.d, toPyL ds, j, toPy y, rfl, rfl, ?_, Rp.dp 60 _ _ c1 z2.rp, shaped_ofL c3 c4, shaped_of c1 c2, by rw [toPyL_get, h1]; rfl, by rw [deq_py 60 _ _ (plnL_get c3 h1) c1]; exact h2, fun m z' hm hz => ?_, okI_post p2⟩
            · exact .lst (SqL.of (s2 _ _ ha)) (RpL.dp 60 ds xs c3 (RpL.imp (fun b o q n => ⟨s2 _ _ q, n⟩) _ _ l))
            · rw [toPyL_get] at hz
              cases hm2 : ds[m]? with
              | none => rw [hm2] at hz; cases hz
              | some t =>
                rw [hm2] at hz
                cases hz
                rw [deq_py 60 _ _ (plnL_get c3 hm2) c1]
                exact h3 m t hm hm2
          · exact p2.elim
        · exact p2.elim
      · cases hL
    · exact p1.elim
end

/-! ### sorted(x), ints -/
def insS (x : Int) : List Int → List Int
  | [] => [x]
  | y :: r => if x ≤ y then x :: y :: r else y :: insS x r
def isort : List Int → List Int
  | [] => []
  | x :: r => insS x (isort r)
theorem insS_perm (x : Int) : ∀ l : List Int, (insS x l).Perm (x :: l)
  | [] => .refl _
  | y :: r => by
    unfold insS
    split
    · exact .refl _
    · exact ((insS_perm x r).cons y).trans (.swap x y r)
theorem isort_perm : ∀ l : List Int, (isort l).Perm l
  | [] => .refl _
  | x :: r => (insS_perm x (isort r)).trans ((isort_perm r).cons x)
theorem insS_sorted (x : Int) : ∀ {l : List Int}, l.Pairwise (· ≤ ·) → (insS x l).Pairwise (· ≤ ·)
  | [], _ => List.pairwise_singleton _ _
  | y :: r, h => by
    obtain ⟨h1, h2⟩ := List.pairwise_cons.mp h
    unfold insS
    split
    · rename_i hx
      exact List.pairwise_cons.mpr ⟨fun z hz => (List.mem_cons.mp hz).elim (fun e => e ▸ hx) fun hz => Int.le_trans hx (h1 z hz), h⟩
    · rename_i hx
      refine List.pairwise_cons.mpr ⟨fun z hz => ?_, insS_sorted x h2⟩
      rcases List.mem_cons.mp ((insS_perm x r).mem_iff.mp hz) with e | hz
      · rw [e]; omega
      · exact h1 z hz
theorem isort_sorted : ∀ l : List Int, (isort l).Pairwise (· ≤ ·)
  | [] => .nil
  | x :: r => insS_sorted x (isort_sorted r)
theorem sorted_uniq : ∀ {a b : List Int}, a.Perm b → a.Pairwise (· ≤ ·) → b.Pairwise (· ≤ ·) → a = b
  | [], b, p, _, _ => (List.nil_perm.mp p).symm
  | x :: a, [], p, _, _ => absurd p.length_eq (by simp)
  | x :: a, y :: b, p, h1, h2 => by
    obtain ⟨g1, g2⟩ := List.pairwise_cons.mp h1
    obtain ⟨k1, k2⟩ := List.pairwise_cons.mp h2
    have e : x = y := by
      have hx : x ∈ y :: b := p.mem_iff.mp List.mem_cons_self
      have hy : y ∈ x :: a := p.mem_iff.mpr List.mem_cons_self
      rcases List.mem_cons.mp hx with e | hx
      · exact e
      · rcases List.mem_cons.mp hy with e | hy
        · exact e.symm
        · have := g1 y hy
          have := k1 x hx
          omega
    subst e
    rw [sorted_uniq ((List.perm_cons x).mp p) g2 k2]
def gSorted := onInts fun ns => .ok ⟨.lst ((isort ns).map .int), 1, [], []⟩
theorem ok_sorted {K : PySem.W.Frag} : BOk (rSortedI K) gSorted := by
  intro S0 ρ σ H F W rs vs Q E l p
  obtain ⟨a, ns, e, ha, q⟩ := onInts_ok l p
  refine ⟨a, ns, e, SqL.of ha, fun ns' b h1 h2 nb => ?_⟩
  have : ns' = isort ns := sorted_uniq (h1.trans (isort_perm ns).symm) h2 (isort_sorted ns)
  subst this
  exact post_lst E q (RpL.ints _) b nb

/-! ### for .. in reversed(..) -/
def revI (r : R) : Res IR := match r.d with
  | .lst ds => .ok ⟨ds.reverse, r.e, r.c⟩
  | _ => .bad
def fRevI (f : FA) : FI := fun ρ => (f ρ).bind (on1I revI)
theorem jok_rev {K : PySem.W.Frag} {Se Sc : PA1} {H : Hp} {a : Addr} {xs : List V} {ds : List D} (n : ¬ Se a) (h : H a = some (.lst xs)) (l : RpL Sc H ds xs) : JOk Se Sc (Itv K a xs.length) ds.reverse H := fun H' k1 i => by
  have h' : SqL K H' a xs := SqL.of (k1 a _ h n)
  refine ⟨fun hi => (show xs.length ≤ i by rw [List.length_reverse, l.length] at hi; exact hi), fun d hd => ?_⟩
  have hi : i < ds.length := by
    have := (List.getElem?_eq_some_iff.mp hd).1
    rwa [List.length_reverse] at this
  have hd' : ds[ds.length - 1 - i]? = some d := by rw [← hd, List.getElem?_reverse hi]
  obtain ⟨x, hx, _⟩ := l.get hd'
  rw [l.length] at hx
  refine ⟨⟨by rw [← l.length]; exact hi, xs, x, h', hx⟩, fun y H3 hy => ?_⟩
  obtain ⟨e, hy⟩ := hy
  have := hy xs h'
  rw [hx] at this
  cases this
  rw [e]
  refine ⟨Same.refl _, fun S' k2 _ => ?_⟩
  obtain ⟨z, hz, rz⟩ := (RpL.imp k2 _ _ l).get hd'
  rw [l.length, hx] at hz; cases hz
  exact rz
section
variable {X : Cx} {W : WK} {tg a : Expr} {fa : FA} {fe : FE} {p p2 pos pos2 : Pos}
theorem i_rev (hg : Gl X "reversed") (hm : X.mg "reversed" = none) (ha : PA X [a] (rdA W fa)) (hs : starEach [a] X.env = [(false, eval a X.env)] := by rfl) : PI X tg (.Call (.Name "reversed" p) [a] [] pos) (rdI W (fRevI fa)) := by
  refine piI (pi_reversed hg hm ha hs) fun σ H Rk ⟨S0, ρ, F, E, p⟩ => postI_args E p fun rs vs H1 fp s1 n1 l1 E1 p1 => ?_
  have fz := l1.fz fun e => E.nin n1 e
  match rs, fz with
  | [r], ⟨v, t, e, z, et⟩ =>
    rw [show t = [] from et] at e
    subst e
    have p1 : PostI W S0 F σ H1 Rk (revI r) := p1
    unfold revI at p1
    split at p1
    · rename_i ds hd
      have rp := z.rp
      rw [hd] at rp
      obtain ⟨a', xs, rfl, na, ha', _⟩ := rp
      obtain ⟨a2, xs2, ea, ha2, l⟩ := z.lst hd
      cases ea
      have : xs2 = xs := by rw [ha'] at ha2; cases ha2; rfl
      subst this
      exact ⟨a', xs2, rfl, SqL.of ha', p1 _ H1 (Same.refl H1) (jok_rev na ha' l)⟩
    · exact p1.elim
  | [], _ => exact p1.elim
  | _ :: _ :: _, _ => exact p1.elim
end
end PyL

namespace PyL
open PySem PySem.Spec L2
set_option autoImplicit false

/-! ### what the top has written -/
/-- a def by its name -/
def TopF (K : PySem.W.Frag) (mg : Str → Option Value) (x : Str) (st : Stmt) : Prop :=
  ∃ (f : Addr) (fd : FuncData), Fun K x x st f fd ∧ mg x = some (.ref f)
/-- a def by another name -/
def TopG (K : PySem.W.Frag) (mg : Str → Option Value) (g x : Str) (st : Stmt) : Prop :=
  ∃ (f : Addr) (fd : FuncData), Fun K x x st f fd ∧ mg g = some (.ref f)
/-- a def that keeps its word -/
def CalD (P : Program) (w : World) (K : PySem.W.Frag) (mg : Str → Option Value) (base : Heap) (k : Nat) (x : Str) (n : Nat) (sem : DS) : Prop :=
  ∃ (f : Addr) (fd : FuncData) (ps : List Str), FnOk P w K mg base CX0 k f fd ps (spD n sem) ∧ mg x = some (.ref f) ∧ PySem.W.keepIn K (.ref f) = true ∧ Binds K fd ps []
section
variable {P : Program} {w : World} {K : PySem.W.Frag} {mg : Str → Option Value} {base : Heap}
theorem cal_mk {x : Str} {st : Stmt} {N ps : List Str} {k n : Nat} {body : FS} (T : TopF K mg x st) (S : FnScope N ps (defScope st)) (hn : ps.length = n) (hN : n ≤ N.length)
    (hb : ∀ (kV doc pm : Value) (an : Option Addr) (cdv ct : Value) (us : List Value), us.length = ps.length → bindArgs (PySem.W.fnOf x x (defArgs st) (defBody st) (defScope st) .none kV doc pm an cdv ct) ⟨us, []⟩ = pure (ps.zip us))
    (hbody : ∀ (f : Addr) (cdv : Value) (A : Around) (outer : List Env) (s : Shared) (H : Hp) (E : XK), Room k (A.deeper (PyProof.Rows.envOfC x (defScope st) s.heap.objs.size f cdv)) → (A.deeper (PyProof.Rows.envOfC x (defScope st) s.heap.objs.size f cdv)).units + 65 < cLine →
      PSs (cxOf CX0 P w K mg base N x (defScope st) f cdv A outer s H E).nox (defBody st) (rdS W0 body)) : CalD P w K mg base (k + 1) x n (dsem N.length n body) := by
  obtain ⟨f, fd, F, hm⟩ := T
  exact ⟨f, fd, ps, def_ok F S hn hN (hbody f), hm, F.kp, F.binds hb⟩
theorem cal_mkG {g x : Str} {st : Stmt} {N ps : List Str} {k n : Nat} {body : FS} (T : TopG K mg g x st) (S : FnScope N ps (defScope st)) (hn : ps.length = n) (hN : n ≤ N.length)
    (hb : ∀ (kV doc pm : Value) (an : Option Addr) (cdv ct : Value) (us : List Value), us.length = ps.length → bindArgs (PySem.W.fnOf x x (defArgs st) (defBody st) (defScope st) .none kV doc pm an cdv ct) ⟨us, []⟩ = pure (ps.zip us))
    (hbody : ∀ (f : Addr) (cdv : Value) (A : Around) (outer : List Env) (s : Shared) (H : Hp) (E : XK), Room k (A.deeper (PyProof.Rows.envOfC x (defScope st) s.heap.objs.size f cdv)) → (A.deeper (PyProof.Rows.envOfC x (defScope st) s.heap.objs.size f cdv)).units + 65 < cLine →
      PSs (cxOf CX0 P w K mg base N x (defScope st) f cdv A outer s H E).nox (defBody st) (rdS W0 body)) : CalD P w K mg base (k + 1) g n (dsem N.length n body) := by
  obtain ⟨f, fd, F, hm⟩ := T
  exact ⟨f, fd, ps, def_ok F S hn hN (hbody f), hm, F.kp, F.binds hb⟩
theorem e_cal {X : Cx} {W : WK} {k k' n : Nat} {sem : DS} {x : Str} {p pos : Pos} {e : Expr} {es : List Expr} {fa : FA} (C : CalD X.prog X.w X.K X.mg X.base k x n sem) (hr : Room k' X.A) (hk : k ≤ k') (hg : Gl X x) (ha : PA X (e :: es) (rdA W fa))
    (hdb : (x == ("__debug__" : Str)) = false := by decide) (he : starEach (e :: es) X.env = (false, eval e X.env) :: starEach es X.env := by rfl) (hpl : (backTo pos (starEach es X.env)).any (·.1) = false := by rfl) :
    PE X (.Call (.Name x p) (e :: es) [] pos) (rdE W (fCall n sem fa)) := by
  obtain ⟨f, fd, ps, F, hm, hkp, hb⟩ := C
  exact e_call F (hr.mono hk) hg hm hkp hb pass0 ha hdb he hpl
end

theorem un62 {A : Around} (h : A.units + 65 < cLine) : A.units + 62 < cLine := by omega

/-! ### the law's own call -/
def ScrD (K : PySem.W.Frag) (ns : List Int) (d : D) : Prop := d = .lst (ns.map .int) ∨ d = .scr K ns
theorem law_sp {K : PySem.W.Frag} {H : Hp} {a : Addr} {ns : List Int} {sem : DS} {k : Nat} {E : XK} (hS : SqL K H a (ns.map V.int)) (h : ∀ d, ScrD K ns d → sem [d] = .ok (.bl true, k)) : spD 1 sem [.ref a] H (fun v _ => v = .bl true) E := by
  have key : ∃ d, ScrD K ns d ∧ Rp (fun _ => False) H d (.ref a) := by
    rcases hS with (hS | ⟨o, hS⟩) | hS
    · exact ⟨_, .inl rfl, a, _, rfl, id, hS, RpL.ints ns⟩
    · exact ⟨_, .inr rfl, a, rfl, .inl ⟨id, o, hS⟩⟩
    · exact ⟨_, .inr rfl, a, rfl, .inr hS⟩
  obtain ⟨d, hd, r⟩ := key
  refine ⟨fun _ => False, [d], rfl, ⟨_, _, rfl, r, rfl⟩, fun _ z => z.elim, ?_⟩
  rw [h d hd]
  intro v H' fp _ _ o
  cases k with
  | zero => exact o.1
  | succ k => exact o.1
end PyL
namespace PyL
open PySem PySem.Spec L2
/-! ### what is never reached -/
def sBad : FS := fun _ => .bad
theorem bs_bad {X : Cx} {W : WK} {st : List Stmt} : PSs X st (rdS W sBad) := ⟨fun _ _ _ _ _ _ ⟨_, _, _, _, _, p⟩ => p.elim⟩
theorem s_bad {X : Cx} {W : WK} {st : Stmt} : PS X st (rdS W sBad) := ⟨fun _ _ _ _ _ _ ⟨_, _, _, _, _, p⟩ => p.elim⟩
/-! ### a try whose body raises nothing -/
theorem s_tryN {X : Cx} {W : WK} {body : List Stmt} {f : FS} {h0 : ExceptHandler} {hs : List ExceptHandler} {pos : Pos} (hb : PSs X.nox body (rdS W f)) : PS X (.Try body (h0 :: hs) [] [] pos) (rdS W f) := ps_try_thru0 hb
end PyL

namespace PyL
open PySem PySem.Spec L2
set_option autoImplicit false

/-! ### math.gcd, math.factorial; x is True -/
theorem ok_gcd : BOk rGcd gGcd := fun S0 ρ σ H F W rs vs Q E l p => ok_II _ S0 ρ σ H F W rs vs Q E l p
def CFac (a : Int) : Prop := 0 ≤ a ∧ a ≤ 1000 ∧ (Builtin.Math.factorialNat a.toNat).log2 < 100000
instance (a : Int) : Decidable (CFac a) := inferInstanceAs (Decidable (_ ∧ _ ∧ _))
def gFac := on1 fun r => match r.d with
  | .int a => if CFac a then okI ((Builtin.Math.factorialNat a.toNat : Nat) : Int) else .bad
  | _ => .bad
def rFac : List V → Hp → VK → Prop := fun vs H Q => ∃ a : Int, vs = [.int a] ∧ CFac a ∧ Q (.int ((Builtin.Math.factorialNat a.toNat : Nat) : Int)) H
theorem cr_fac {X : Cx} : CallR X (.builtin "math.factorial") rFac := by
  intro pins s σ H vs us Q I r h
  obtain ⟨a, rfl, hc, q⟩ := h
  obtain ⟨u, rfl, t, rfl⟩ := vals1 r
  refine PySem.W.mg_factorial (by have := hc.2.1; show ¬ a > 9223372036854775807; omega) (by have := hc.1; omega) (by have := hc.2.1; show ¬ a > _; unfold Builtin.Math.manyFactors; omega) (by have := hc.2.2; rw [Int.natAbs_natCast]; exact Nat.lt_trans this (by decide)) ⟨.int _, H, I.tok _, ⟨_, rfl⟩, q⟩
theorem ok_fac : BOk rFac gFac := by
  intro S0 ρ σ H F W rs vs Q E l p
  obtain ⟨r, v, rfl, z, p⟩ := on1_ok l p
  split at p
  · rename_i a e
    split at p
    · rename_i hc
      exact ⟨a, by rw [z.int e], hc, okI_post p⟩
    · exact p.elim
  · exact p.elim
def gIsB (neg : Bool) : G2 := fun ra rb => match ra.d, rb.d with
  | .bl a, .bl b => okB (if neg then !decide (a = b) else decide (a = b))
  | _, _ => .bad
theorem ok_isB {f : Bool → Bool → Bool} {neg : Bool} (hf : ∀ a b, f a b = if neg then !decide (a = b) else decide (a = b)) : OpOk (fun x y H Q => ∃ a b, x = .bl a ∧ y = .bl b ∧ Q (.bl (f a b)) H) (gIsB neg) := by
  intro S0 ρ σ H F W ra rb x y Q E hx hy p
  unfold gIsB at p
  split at p
  · rename_i a b ea eb
    exact ⟨a, b, hx.bl ea, hy.bl eb, by rw [hf]; exact okB_post p⟩
  · exact p.elim
theorem ok_is : OpOk (fun x y H Q => ∃ a b, x = .bl a ∧ y = .bl b ∧ Q (.bl (decide (a = b))) H) (gIsB false) := ok_isB (f := fun a b => decide (a = b)) fun _ _ => rfl
theorem ok_isn : OpOk (fun x y H Q => ∃ a b, x = .bl a ∧ y = .bl b ∧ Q (.bl (!decide (a = b))) H) (gIsB true) := ok_isB (f := fun a b => !decide (a = b)) fun _ _ => rfl
end PyL

namespace PyL
open PySem PySem.Spec L2
set_option autoImplicit false

/-! ### x[a][b][c] = v, a number, a text .. -/
theorem set_same {xs : List V} {j : Nat} {y : V} (h : xs[j]? = some y) : xs.set j y = xs := by
  apply List.ext_getElem?
  intro m
  by_cases hm : m = j
  · subst hm
    rw [List.getElem?_set_self (List.getElem?_eq_some_iff.mp h).1, h]
  · rw [List.getElem?_set_ne (Ne.symm hm)]
/-- an item deep down is changed in place -/
theorem ow_step {S : PA1} {H : Hp} {k : Nat} {ds : List D} {v : V} {fp : List Addr} {j : Nat} {dj : D} (o : Ow S H (k + 1) (.lst ds) v fp) (hj : ds[j]? = some dj) :
    ∃ a xs y f, v = .ref a ∧ H a = some (.lst xs) ∧ xs.length = ds.length ∧ xs[j]? = some y ∧ Ow S H k dj y f ∧ (∀ c ∈ f, c ∈ fp) ∧
      ∀ (S' : PA1) (H' : Hp) (dj' : D) (f' : List Addr), (∀ c o, H c = some o → ¬ S c → H' c = some o ∧ ¬ S' c) → (∀ c o, c ∈ fp → c ∉ f → H c = some o → H' c = some o) → Ow S' H' k dj' y f' → (∀ c ∈ f', c ∈ f) → ∃ fp', Ow S' H' (k + 1) (.lst (ds.set j dj')) v fp' ∧ ∀ c ∈ fp', c ∈ fp := by
  obtain ⟨a, xs, fq, rfl, ha, al, ef, nd⟩ := o
  obtain ⟨y, f, hy, py, hf, go⟩ := al.at hj
  refine ⟨a, xs, y, f, rfl, ha, al.length.symm, hy, py, fun c hc => by rw [ef]; exact List.mem_cons_of_mem _ (hf c hc), fun S' H' dj' f' fr1 fr2 o' sub => ?_⟩
  obtain ⟨fq', al', hq'⟩ := go (Ow S' H' k) dj' y f' (fun d w g hg hn po => Ow.imp fr1 k d w g (fun c o hc q => fr2 c o (by rw [ef]; exact List.mem_cons_of_mem _ (hg c hc)) (hn c hc) q) po) o' (fun c hc => .inl (sub c hc))
  rw [set_same hy] at al'
  have s2 : ∀ c ∈ fq', c ∈ fq := fun c hc => (hq' c hc).elim (fun z => hf c (sub c z)) fun z => z.1
  refine ⟨a :: fq', ⟨a, xs, fq', rfl, fr2 a _ (by rw [ef]; exact List.mem_cons_self) (fun z => nd (hf a z)) ha, al', rfl, fun z => nd (s2 a z)⟩, fun c hc => ?_⟩
  rw [ef]
  exact (List.mem_cons.mp hc).elim (fun z => z ▸ List.mem_cons_self) fun z => List.mem_cons_of_mem _ (s2 c z)
theorem ow_set {S : PA1} {H : Hp} {k : Nat} {es : List D} {v : V} {fp : List Addr} {l : Nat} (o : Ow S H (k + 1) (.lst es) v fp) (hl : l < es.length) :
    ∃ b ys, v = .ref b ∧ H b = some (.lst ys) ∧ ys.length = es.length ∧ b ∈ fp ∧
      ∀ (S' : PA1) (H' : Hp) (d : D) (x : V), (∀ c o, H c = some o → ¬ S c → H' c = some o ∧ ¬ S' c) → (∀ c o, c ∈ fp → c ≠ b → H c = some o → H' c = some o) → H' b = some (.lst (ys.set l x)) → Ow S' H' k d x [] → ∃ fp', Ow S' H' (k + 1) (.lst (es.set l d)) v fp' ∧ ∀ c ∈ fp', c ∈ fp := by
  obtain ⟨b, ys, fr, rfl, hb, al, ef, nd⟩ := o
  obtain ⟨y, f, hy, py, hf, go⟩ := al.at (List.getElem?_eq_getElem hl)
  refine ⟨b, ys, rfl, hb, al.length.symm, by rw [ef]; exact List.mem_cons_self, fun S' H' d x fr1 fr2 hb' o' => ?_⟩
  obtain ⟨fr', al', hr'⟩ := go (Ow S' H' k) d x [] (fun d w g hg hn po => Ow.imp fr1 k d w g (fun c o hc q => fr2 c o (by rw [ef]; exact List.mem_cons_of_mem _ (hg c hc)) (fun z => nd (z ▸ hg c hc)) q) po) o' (fun c hc => by cases hc)
  have s2 : ∀ c ∈ fr', c ∈ fr := fun c hc => (hr' c hc).elim (fun z => by cases z) fun z => z.1
  refine ⟨b :: fr', ⟨b, _, fr', rfl, hb', al', rfl, fun z => nd (s2 b z)⟩, fun c hc => ?_⟩
  rw [ef]
  exact (List.mem_cons.mp hc).elim (fun z => z ▸ List.mem_cons_self) fun z => List.mem_cons_of_mem _ (s2 c z)

def own3 (i : Nat) (f : FS) : FS := fun ρ => match ρ[i]? with
  | some (some (.lst _, _ + 3)) => f ρ
  | _ => .bad
def row3a (i : Nat) (q : R) (g : FS) : FS := fun ρ => match ρ[i]?, q.d with
  | some (some (.lst ds, _ + 3)), .int z => match ixN ds.length z with
    | some j => match ds[j]? with
      | some (.lst _) => g ρ
      | _ => .bad
    | none => .bad
  | _, _ => .bad
def row3b (i : Nat) (q q2 : R) (g : FS) : FS := fun ρ => match ρ[i]?, q.d, q2.d with
  | some (some (.lst ds, _ + 3)), .int z, .int z2 => match ixN ds.length z with
    | some j => match ds[j]? with
      | some (.lst es) => match ixN es.length z2 with
        | some l => match es[l]? with
          | some (.lst _) => g ρ
          | _ => .bad
        | none => .bad
      | _ => .bad
    | none => .bad
  | _, _, _ => .bad
def store3Out (i : Nat) (r q q2 q3 : R) (ρ : Ev) : Out := match ρ[i]?, q.d, q2.d, q3.d with
  | some (some (.lst ds, k + 3)), .int z, .int z2, .int z3 => match ixN ds.length z with
    | some j => match ds[j]? with
      | some (.lst es) => match ixN es.length z2 with
        | some l => match es[l]? with
          | some (.lst gs) => match ixN gs.length z3 with
            | some m => if scal r.d then .nx (ρ.set i (some (.lst (ds.set j (.lst (es.set l (.lst (gs.set m r.d))))), k + 3))) else .bad
            | none => .bad
          | _ => .bad
        | none => .bad
      | _ => .bad
    | none => .bad
  | _, _, _, _ => .bad
def sStore3 (i : Nat) (fi fj fl f : FE) : FS := own3 i (stE f fun r => stE fi fun q => row3a i q (stE fj fun q2 => row3b i q q2 (stE fl fun q3 => store3Out i r q q2 q3)))
section
variable {X : Cx} {W : WK} {e ei ej el : Expr} {fe fi fj fl : FE} {pos s1 s2 s3 npos : Pos} {x : Str}
theorem s_store3 (i : Nat) (hp : PS X (.Assign [.Subscript (.Subscript (.Subscript (.Name x npos) ei s1) ej s2) el s3] e pos) (tAsg (rdE W fe) (L2.gSub (tOp (rIxL X.K) (tOp (rIxL X.K) (tVar i) (rdE W fi)) (rdE W fj)) (rdE W fl) rSetL))) :
    PS X (.Assign [.Subscript (.Subscript (.Subscript (.Name x npos) ei s1) ej s2) el s3] e pos) (rdS W (sStore3 i fi fj fl fe)) := by
  refine psI hp fun Dn σ H ⟨S0, H0, ρ, F, E, p⟩ => ?_
  unfold sStore3 own3 at p
  split at p
  · rename_i ds k hi
    obtain ⟨v0, hv, ow⟩ := E.ee.rep i _ _ hi
    refine ps_bind E p fun r v H1 fp n1 nv vr E1 p1 => ⟨v0, hv, ps_bind E1 p1 fun q w H2 fp2 n2 nw vq E2 p2 => ?_⟩
    have zq := vq.fz (E1.ee.nin nw _)
    have s12 := n1.trans n2
    unfold row3a at p2
    rw [hi] at p2
    split at p2
    · rename_i ds' k' z e1 ez
      cases e1
      split at p2
      · rename_i j hj
        split at p2
        · rename_i es hes
          obtain ⟨a, xs, y, f, rfl, ha, hxl, hy, oy, hf, up⟩ := ow_step ow hes
          refine ⟨a, xs, z, y, rfl, zq.int ez, SqL.of (s12 _ _ ha), by unfold atI; rw [hxl, hj]; exact hy, ps_bind E2 p2 fun q2 w2 H3 fp3 n3 nw2 vq2 E3 p3 => ?_⟩
          have s13 := s12.trans n3
          have zq2 := vq2.fz (E2.ee.nin nw2 _)
          unfold row3b at p3
          rw [hi, ez] at p3
          split at p3
          · rename_i ds'' k'' z' z2 e1 ez' ez2
            cases e1
            cases ez'
            simp only [hj, hes] at p3
            split at p3
            · rename_i l hl
              split at p3
              · rename_i gs hgs
                obtain ⟨b, ys, y2, f2, rfl, hb, hyl, hy2, oy2, hf2, up2⟩ := ow_step oy hgs
                refine ⟨b, ys, z2, y2, rfl, zq2.int ez2, SqL.of (s13 _ _ hb), by unfold atI; rw [hyl, hl]; exact hy2, ps_bind E3 p3 fun q3 w3 H4 fp4 n4 nw3 vq3 E4 p4 => ?_⟩
                have s14 := s13.trans n4
                have zq3 := vq3.fz (E3.ee.nin nw3 _)
                unfold store3Out at p4
                rw [hi, ez, ez2] at p4
                split at p4
                · rename_i ds3 k3 za zb z3 e1 e2 e3 ez3
                  cases e1
                  cases e2
                  cases e3
                  simp only [hj, hes, hl, hgs] at p4
                  split at p4
                  · rename_i m hm
                    split at p4
                    · rename_i hs
                      obtain ⟨c, us, rfl, hc, hul, cf, up3⟩ := ow_set oy2 (ixN_seq hm).2.1
                      refine ⟨c, us, z3, m, rfl, zq3.int ez3, s14 _ _ hc, by rw [hul]; exact hm, ?_⟩
                      have cF : c ∈ F i := hf c (hf2 c cf)
                      have kp : ∀ d o, d ≠ c → H d = some o → upd H4 c (.lst (us.set m v)) d = some o := fun d o hd q => by rw [upd_ne hd]; exact s14 _ _ q
                      let S' : PA1 := fun d => inS S0 F (i :: []) d ∨ d ∈ F i
                      have Sx : ∀ d, S' d → inS S0 F [] d := fun d z => z.elim inS_sub fun z => .inr ⟨i, by simp, z⟩
                      have fr1 : ∀ d o, H d = some o → ¬ inS S0 F [] d → upd H4 c (.lst (us.set m v)) d = some o ∧ ¬ S' d := fun d o q nn => ⟨kp d o (fun z => nn (z ▸ .inr ⟨i, by simp, cF⟩)) q, fun z => nn (Sx d z)⟩
                      obtain ⟨f3', o3, h3⟩ := up3 S' _ r.d v fr1 (fun d o _ hd q => kp d o hd q) upd_same (scal_ow hs vr.ow k).1
                      obtain ⟨f2', o2, h2⟩ := up2 S' _ _ f3' fr1 (fun d o _ hd q => kp d o (fun z => hd (z ▸ cf)) q) o3 h3
                      obtain ⟨f1', o1, h1⟩ := up S' _ _ f2' fr1 (fun d o _ hd q => kp d o (fun z => hd (z ▸ hf2 c cf)) q) o2 h2
                      have E' := E.mutate (e := []) (fp' := f1') (o' := .lst (us.set m v)) hi hv (by simp) s14 cF trivial (fun d hd => .inl (h1 d hd)) (Ow.imp (fun d o q nn => ⟨q, fun z => nn (z.imp id (h1 d))⟩) _ _ _ _ (fun _ _ _ q => q) o1)
                      exact p4 _ _ _ E'
                    · exact p4.elim
                  · exact p4.elim
                · exact p4.elim
              · exact p3.elim
            · exact p3.elim
          · exact p3.elim
        · exact p2.elim
      · exact p2.elim
    · exact p2.elim
  · exact p.elim
end
end PyL

namespace PyL
open PySem PySem.Spec L2
set_option autoImplicit false

/-! ### math.lcm -/
def CLcm (a b : Int) : Prop := a.natAbs.log2 < 10000 ∧ b.natAbs.log2 < 10000
instance (a b : Int) : Decidable (CLcm a b) := inferInstanceAs (Decidable (_ ∧ _))
theorem log2_max {a b n : Nat} (ha : a.log2 < n) (hb : b.log2 < n) : (max a b).log2 < n := by
  rcases Nat.le_total a b with h | h
  · rw [Nat.max_eq_right h]; exact hb
  · rw [Nat.max_eq_left h]; exact ha
theorem lcm_log2 {a b : Nat} (ha : a.log2 < 10000) (hb : b.log2 < 10000) : (a.lcm b).log2 < 20001 := by
  by_cases hz : a.lcm b = 0
  · rw [hz]; decide
  · refine (Nat.log2_lt hz).mpr ?_
    have ha0 : a ≠ 0 := fun z => hz (by rw [z, Nat.lcm_zero_left])
    have hb0 : b ≠ 0 := fun z => hz (by rw [z, Nat.lcm_zero_right])
    have h1 : a < 2 ^ 10000 := (Nat.log2_lt ha0).mp ha
    have h2 : b < 2 ^ 10000 := (Nat.log2_lt hb0).mp hb
    have h3 : a.lcm b ≤ a * b := Nat.le_of_dvd (Nat.mul_pos (Nat.pos_of_ne_zero ha0) (Nat.pos_of_ne_zero hb0)) (Nat.lcm_dvd (Nat.dvd_mul_right _ _) (Nat.dvd_mul_left _ _))
    calc a.lcm b ≤ a * b := h3
      _ < 2 ^ 10000 * 2 ^ 10000 := Nat.mul_lt_mul'' h1 h2
      _ = 2 ^ 20000 := by rw [← Nat.pow_add]
      _ ≤ 2 ^ 20001 := Nat.pow_le_pow_right (by decide) (by decide)
def rLcm : List V → Hp → VK → Prop := fun vs H Q => ∃ a b : Int, vs = [.int a, .int b] ∧ CLcm a b ∧ Q (.int ((Nat.lcm a.natAbs b.natAbs : Nat) : Int)) H
theorem cr_lcm {X : Cx} : CallR X (.builtin "math.lcm") rLcm := by
  intro pins s σ H vs us Q I r h
  obtain ⟨a, b, rfl, hc, q⟩ := h
  obtain ⟨t, u, rfl⟩ := Vals.int2 r
  have g := PySem.W.mg_run_lcm a t b u (by have := log2_max (a := 1) (b := a.natAbs) (n := 10000) (by decide) hc.1; omega) (by have := log2_max hc.1 hc.2; omega) (by
    rw [Nat.lcm_one_left, Int.natAbs_natCast]
    exact Nat.lt_trans (lcm_log2 hc.1 hc.2) (by decide))
  rw [Nat.lcm_one_left] at g
  exact call_function_meets PySem.W.MGF.kind_lcm PySem.W.MGF.plain_lcm PySem.W.MGF.entry_lcm (PySem.W.MGF.args_lcm _ _) g.meets ⟨.int _, H, I.tok _, ⟨_, rfl⟩, q⟩
def gLcm := on2 fun r q => match r.d, q.d with
  | .int a, .int b => if CLcm a b then okI ((Nat.lcm a.natAbs b.natAbs : Nat) : Int) else .bad
  | _, _ => .bad
theorem ok_lcm : BOk rLcm gLcm := by
  intro S0 ρ σ H F W rs vs Q E l p
  obtain ⟨r, q, v, w, rfl, z, z2, p⟩ := on2_ok l p
  split at p
  · rename_i a b ea eb
    split at p
    · rename_i hc
      exact ⟨a, b, by rw [z.int ea, z2.int eb], hc, okI_post p⟩
    · exact p.elim
  · exact p.elim



end PyL
namespace PyL
open PySem PySem.Spec L2
set_option autoImplicit false
def rcD (lo c : Int) (n : Nat) : List D := (List.range n).map fun i : Nat => .int (lo + (i : Int) * c)
theorem jok_rngC {Se Sc : PA1} {H : Hp} (lo c : Int) (n : Nat) : JOk Se Sc (Itc lo c n) (rcD lo c n) H := fun H' k1 i => by
  refine ⟨fun hi => (show n ≤ i by unfold rcD at hi; simpa using hi), fun d hd => ?_⟩
  unfold rcD at hd
  rw [List.getElem?_map] at hd
  cases q : (List.range n)[i]? with
  | none => rw [q] at hd; cases hd
  | some j =>
    rw [q] at hd
    cases hd
    obtain ⟨h1, h2⟩ := List.getElem?_eq_some_iff.mp q
    have hn : i < n := by simpa using h1
    have hj : i = j := by simpa using h2
    subst hj
    exact ⟨hn, fun x H3 hy => ⟨by rw [hy.1]; exact Same.refl _, fun _ _ _ => hy.2⟩⟩
instance (i j c : Int) (n : Nat) : Decidable (RgC i j c n) := inferInstanceAs (Decidable (_ ∧ _ ∧ _ ∧ _))
def rng3 (r q s : R) : Res IR := match r.d, q.d, s.d with
  | .int i, .int j, .int c => if RgC i j c (Builtin.Range.rangeSize i j c).toNat then .ok ⟨rcD i c (Builtin.Range.rangeSize i j c).toNat, [], []⟩ else .bad
  | _, _, _ => .bad
def on3I (g : R → R → R → Res IR) : List R → Res IR
  | [r, q, s] => g r q s
  | _ => .bad
def fRng3 (f : FA) : FI := fun ρ => (f ρ).bind (on3I rng3)
section
variable {X : Cx} {W : WK}
theorem i_rng3 {tg a b c : Expr} {fa : FA} {p pos : Pos} (hg : Gl X "range") (hm : X.mg "range" = none) (ha : PA X [a, b, c] (rdA W fa))
    (hs : starEach [a, b, c] X.env = (false, eval a X.env) :: starEach [b, c] X.env := by rfl) (hpl : (backTo pos (starEach [b, c] X.env)).any (·.1) = false := by rfl) : PI X tg (.Call (.Name "range" p) [a, b, c] [] pos) (rdI W (fRng3 fa)) := by
  refine piI (pi_range3 hg hm ha hs hpl) fun σ H Rk ⟨S0, ρ, F, E, p⟩ => postI_args E p fun rs vs H1 fp s1 n1 l1 E1 p1 => ?_
  have fz := l1.fz fun e => E.nin n1 e
  match rs, fz with
  | [r, q, s], ⟨v, t, e, z, v2, t2, e2, z2, v3, t3, e3, z3, et⟩ =>
    rw [show t3 = [] from et] at e3
    subst e3
    subst e2
    subst e
    have p1 : PostI W S0 F σ H1 Rk (rng3 r q s) := p1
    unfold rng3 at p1
    split at p1
    · rename_i i j c e1 e2 e3
      split at p1
      · rename_i hb
        exact ⟨i, j, c, _, by rw [z.int e1, z2.int e2, z3.int e3], hb, p1 _ H1 (Same.refl H1) (jok_rngC i c _)⟩
      · exact p1.elim
    · exact p1.elim
  | [], _ => exact p1.elim
  | [_], _ => exact p1.elim
  | [_, _], _ => exact p1.elim
  | _ :: _ :: _ :: _ :: _, _ => exact p1.elim
end
end PyL

namespace PyL
open PySem PySem.Spec L2
set_option autoImplicit false

/-! ### a, b = t, t one's own: what t held goes over, t is forgotten -/
theorem EE.dropS {S0 : PA1} {ρ : Ev} {σ : St} {H : Hp} {F : FP} (E : EE S0 ρ σ H F) (vs : List Nat) : EE (fun a => S0 a ∨ ∃ i ∈ vs, a ∈ F i) (wipeE ρ vs) σ H (cutF vs F) where
  len := by rw [wipeE_len]; exact E.len
  rep := fun i d k h => by
    obtain ⟨h1, h2⟩ := wipeE_some h
    obtain ⟨v, e, o⟩ := E.rep i d k h1
    refine ⟨v, e, ?_⟩
    rw [show cutF vs F i = F i by simp [cutF, h2]]
    refine Ow.imp (fun b o q n => ⟨q, fun z => n ?_⟩) k d v _ (fun _ _ _ q => q) o
    rcases z with (z | ⟨j, hj, z⟩) | ⟨j, _, z⟩
    · exact .inl z
    · exact .inr ⟨j, by simp, z⟩
    · exact .inr ⟨j, by simp, (cutF_mem.mp z).2⟩
  disj := fun a b c h1 h2 => E.disj a b c (cutF_mem.mp h1).2 (cutF_mem.mp h2).2
  trk := fun j a h => E.trk j a (cutF_mem.mp h).2
  out := fun a h => h.elim (E.out a) fun ⟨i, _, z⟩ => E.trk i a z
  apart := fun j a h z => by
    obtain ⟨h1, h2⟩ := cutF_mem.mp h
    rcases z with z | ⟨i, hi, z⟩
    · exact E.apart j a h2 z
    · exact h1 (E.disj _ _ _ z h2 ▸ hi)
def mvK (is : List Nat) (t : Nat) (ρ : Ev) : Option Slot → Out
  | some (some (.tup ds, k)) => match setTs is ds (k - 1) (wipeE ρ [t]) with
    | some ρ' => .nx ρ'
    | none => .bad
  | _ => .bad
def sMvT (t : Nat) (is : List Nat) : FS := fun ρ => mvK is t ρ ρ[t]?
section
variable {X : Cx} {W : WK} {st : Stmt}
theorem s_mvT {t : Nat} {is : List Nat} (hp : PS X st (tAsg (tVar t) (gTup X.K is.length (gNames is)))) : PS X st (rdS W (sMvT t is)) := by
  refine psI hp fun Dn σ H ⟨S0, H0, ρ, F, E, p⟩ => ?_
  unfold sMvT mvK at p
  split at p
  · rename_i ds k hi
    split at p
    · rename_i ρ' hρ
      obtain ⟨v, hv, o⟩ := E.ee.rep t _ _ hi
      obtain ⟨a, xs, rfl, ha, al⟩ : ∃ a xs, v = .ref a ∧ H a = some (.tup xs) ∧ AllF (Ow (inS S0 F []) H (k - 1)) ds xs (F t) := by
        cases k with
        | zero =>
          obtain ⟨⟨a, xs, e, _, h, l⟩, ef⟩ := o
          exact ⟨a, xs, e, h, by rw [ef]; exact all_zero l⟩
        | succ m =>
          obtain ⟨a, xs, e, _, h, al⟩ := o
          exact ⟨a, xs, e, h, al⟩
      refine ⟨.ref a, hv, a, xs, rfl, SqT.of ha, by rw [← al.length, setTs_len hρ], ?_⟩
      have Ed := E.ee.dropS [t]
      have E2 : EE (fun a => S0 a ∨ a ∈ F t) (wipeE ρ [t]) σ H (cutF [t] F) := Ed.ext (Same.refl H) (fun b h => .inl (h.imp id fun h => ⟨t, by simp, h⟩)) fun b h => h.elim (E.ee.out b) (E.ee.trk t b)
      refine setTs_run is ds xs (F t) (wipeE ρ [t]) ρ' (cutF [t] F) σ H _ E2 (fun b hb z => E.ee.apart t b hb z) (fun i b h z => ?_) (fun _ _ => trivial) (al.imp fun d w g _ po => Ow.imp (fun b o q nn => ⟨q, fun z => nn ?_⟩) _ _ _ _ (fun _ _ _ q => q) po) hρ fun σ' F' E' hF => ?_
      · obtain ⟨h1, h2⟩ := cutF_mem.mp h
        exact h1 (by simp [E.ee.disj _ _ _ h2 z])
      · rcases z with (z | ⟨j, _, z⟩) | z
        · exact .inl z
        · exact .inr ⟨j, by simp, (cutF_mem.mp z).2⟩
        · exact .inr ⟨t, by simp, z⟩
      · refine p σ' H F' ⟨E', fun i b h => ?_, E.same, E.old⟩
        rcases hF i b h with h | h | ⟨j, h⟩
        · exact E.new i b (cutF_mem.mp h).2
        · exact E.new t b h
        · exact E.new j b (cutF_mem.mp h).2
    · exact p.elim
  · exact p.elim
end

/-! ### return (x, y), one's own lists go along -/
def tVars : List Nat → TA
  | [] => tNil
  | i :: is => tCons (tVar i) (tVars is)
def getS (ρ : Ev) : List Nat → Option (List (D × Nat))
  | [] => some []
  | i :: is => match ρ[i]? with
    | some (some p) => (getS ρ is).map fun ps => p :: ps
    | _ => none
theorem vars_run {S0 : PA1} {ρ : Ev} {σ : St} {H : Hp} {F : FP} (E : EE S0 ρ σ H F) {m : Nat} : ∀ {is : List Nat} {ps : List (D × Nat)}, getS ρ is = some ps → is.Nodup → (∀ p ∈ ps, scal p.1 = true ∨ p.2 = m) →
    ∃ xs fp, (∀ Q : List V → Hp → Prop, Q xs H → tVars is σ H Q) ∧ AllF (Ow (inS S0 F []) H m) (ps.map (·.1)) xs fp ∧ ∀ a ∈ fp, ∃ i ∈ is, a ∈ F i
  | [], ps, h, _, _ => by
    cases h
    exact ⟨[], [], fun Q q => q, ⟨rfl, rfl⟩, fun a ha => by cases ha⟩
  | i :: is, ps, h, nd, hm => by
    unfold getS at h
    split at h
    · rename_i p hi
      obtain ⟨d, k⟩ := p
      cases hq : getS ρ is with
      | none => rw [hq] at h; cases h
      | some qs =>
        rw [hq] at h
        cases h
        obtain ⟨hn, nd'⟩ := List.nodup_cons.mp nd
        obtain ⟨xs, fp, run, al, hf⟩ := vars_run E hq nd' fun p hp => hm p (List.mem_cons_of_mem _ hp)
        obtain ⟨v, hv, o⟩ := E.rep i d k hi
        obtain ⟨f1, o1, h1⟩ : ∃ f1, Ow (inS S0 F []) H m d v f1 ∧ ∀ a ∈ f1, a ∈ F i := by
          rcases hm (d, k) List.mem_cons_self with z | z
          · exact ⟨[], (scal_ow z o m).1, fun a ha => by cases ha⟩
          · exact ⟨F i, (show k = m from z) ▸ o, fun a ha => ha⟩
        refine ⟨v :: xs, f1 ++ fp, fun Q q => ⟨v, hv, run _ q⟩, ⟨v, xs, f1, fp, rfl, o1, al, rfl, fun a ha hb => ?_⟩, fun a ha => ?_⟩
        · obtain ⟨j, hj, hb⟩ := hf a hb
          exact hn (E.disj _ _ _ (h1 a ha) hb ▸ hj)
        · rcases List.mem_append.mp ha with ha | ha
          · exact ⟨i, List.mem_cons_self, h1 a ha⟩
          · obtain ⟨j, hj, hb⟩ := hf a ha
            exact ⟨j, List.mem_cons_of_mem _ hj, hb⟩
    · cases h
def retTK (m : Nat) (is : List Nat) : Option (List (D × Nat)) → Out
  | some ps => if is.Nodup ∧ ps.length ≤ sizeLine ∧ (ps.all fun p => scal p.1 || p.2 == m + 1) = true then .rt (.tup (ps.map (·.1))) (m + 2) else .bad
  | none => .bad
def sRetT (m : Nat) (is : List Nat) : FS := fun ρ => retTK m is (getS ρ is)
section
variable {X : Cx} {W : WK} {es : List Expr} {x1 : Nat} {p2 pos : Pos}
theorem s_retT {m : Nat} {is : List Nat} {e : Expr} (hp : PE X e (tTup (tVars is))) : PS X (.Return (some e) pos) (rdS W (sRetT m is)) := by
  refine psI (ps_ret hp) fun Dn σ H ⟨S0, H0, ρ, F, E, p⟩ => ?_
  unfold sRetT retTK at p
  split at p
  · rename_i ps hps
    split at p
    · rename_i hc
      obtain ⟨nd, hz, hall⟩ := hc
      obtain ⟨xs, fp, run, al, hf⟩ := vars_run E.ee (m := m + 1) hps nd fun q hq => by
        have := List.all_eq_true.mp hall q hq
        simpa using this
      refine run _ ⟨by rw [← al.length, List.length_map]; exact hz, fun q nq => ?_⟩
      have sm := same_upd (o := .tup xs) nq
      have fF : ∀ a ∈ fp, ∃ i, a ∈ F i := fun a ha => let ⟨i, _, h⟩ := hf a ha; ⟨i, h⟩
      refine p (.ref q) _ fp (E.same.trans sm) (fun a ha => let ⟨i, h⟩ := fF a ha; E.new i a h) ⟨q, xs, rfl, fun z => ?_, upd_same, al.imp fun d w g hg po => Ow.imp (fun b o hb nn => ⟨sm _ _ hb, fun z => nn ?_⟩) _ _ _ _ (fun b o _ hb => sm _ _ hb) po⟩
      · rcases z with z | z
        · obtain ⟨o, h, _⟩ := E.ee.out q z
          rw [nq] at h; cases h
        · obtain ⟨i, h⟩ := fF q z
          obtain ⟨o, h, _⟩ := E.ee.trk i q h
          rw [nq] at h; cases h
      · rcases z with z | z
        · exact .inl z
        · obtain ⟨i, h⟩ := fF b z
          exact .inr ⟨i, by simp, h⟩
    · exact p.elim
  · exact p.elim
end
end PyL

namespace PyL
open PySem PySem.Spec L2
set_option autoImplicit false

/-! ### the combinators, applied (nr: for simp these shall be rewriting steps, no unfolding) -/
theorem nr {α : Type} {a b : α} (h : a = b) : a = b := h
section
variable {ρ : Ev} {f g fa fb fc : FE} {t ta tb : FT} {s s' : FS} {A : FA} {i j k n : Nat} {d : D} {e c : List Nat}
theorem bd_ok {α β : Type} {a : α} {q : α → Res β} : (Res.ok a).bind q = q a := nr rfl
theorem bd_bad {α β : Type} {q : α → Res β} : (Res.bad : Res α).bind q = .bad := nr rfl
theorem bd_ite {α β : Type} {P : Prop} [Decidable P] {x y : Res α} {q : α → Res β} : (if P then x else y).bind q = if P then x.bind q else y.bind q := by split <;> rfl
def varK (i : Nat) : Option Slot → Res R
  | some (some (d, k)) => .ok (al1 i d k)
  | _ => .bad
theorem ap_var : fVar i ρ = varK i ρ[i]? := by unfold fVar varK; split <;> simp_all
theorem vk_some : varK i (some (some (d, k))) = .ok (al1 i d k) := nr rfl
theorem al_int {z : Int} : al1 i (.int z) k = ⟨.int z, 0, [], []⟩ := by simp [al1, scal]
theorem al_bl {z : Bool} : al1 i (.bl z) k = ⟨.bl z, 0, [], []⟩ := by simp [al1, scal]
theorem al_non : al1 i .non k = ⟨.non, 0, [], []⟩ := by simp [al1, scal]
theorem al_str {z : Str} : al1 i (.str z) k = ⟨.str z, 0, [], []⟩ := by simp [al1, scal]
theorem al_0 : al1 i d 0 = ⟨d, 0, [], []⟩ := by simp [al1]
theorem al_l1 {ds : List D} : al1 i (.lst ds) 1 = ⟨.lst ds, 0, [i], []⟩ := by simp [al1, scal]
theorem al_l2 {ds : List D} : al1 i (.lst ds) (k + 2) = ⟨.lst ds, 0, [i], [i]⟩ := by simp [al1, scal]
theorem al_l2' {ds : List D} : al1 i (.lst ds) 2 = ⟨.lst ds, 0, [i], [i]⟩ := al_l2
theorem al_l3' {ds : List D} : al1 i (.lst ds) 3 = ⟨.lst ds, 0, [i], [i]⟩ := al_l2
theorem al_t2 {ds : List D} : al1 i (.tup ds) (k + 2) = ⟨.tup ds, 0, [i], [i]⟩ := by simp [al1, scal]
theorem al_t2' {ds : List D} : al1 i (.tup ds) 2 = ⟨.tup ds, 0, [i], [i]⟩ := al_t2
theorem al_t3' {ds : List D} : al1 i (.tup ds) 3 = ⟨.tup ds, 0, [i], [i]⟩ := al_t2
theorem al_t1 {ds : List D} : al1 i (.tup ds) 1 = ⟨.tup ds, 0, [i], []⟩ := by simp [al1, scal]
theorem ap_c : fC d ρ = .ok ⟨d, 0, [], []⟩ := nr rfl
theorem ap_bin {q : G2} : fBin q fa fb ρ = (fa ρ).bind fun ra => (fb ρ).bind fun rb => q ra rb := nr rfl
theorem ap_un {q : R → Res R} : fUn q f ρ = (f ρ).bind q := nr rfl
theorem ap_test : fTest f ρ = (f ρ).bind toB := nr rfl
theorem tb_bl {b : Bool} : toB ⟨.bl b, k, e, c⟩ = .ok b := nr rfl
theorem ap_notT : fNotT t ρ = (t ρ).bind fun b => .ok (!b) := nr rfl
theorem ap_andT : fAndT ta tb ρ = (ta ρ).bind fun b => if b then tb ρ else .ok false := nr rfl
theorem ap_orT : fOrT ta tb ρ = (ta ρ).bind fun b => if b then .ok true else tb ρ := nr rfl
theorem ap_andV : fAndV fa fb ρ = (fa ρ).bind fun r => (toB r).bind fun b => if b then fb ρ else okB false := nr rfl
theorem ap_orV : fOrV fa fb ρ = (fa ρ).bind fun r => (toB r).bind fun b => if b then okB true else fb ρ := nr rfl
theorem ap_notV : fNotV f ρ = (f ρ).bind fun r => (toB r).bind fun b => okB (!b) := nr rfl
theorem ap_ite : fIte t fa fb ρ = (t ρ).bind fun b => if b then fa ρ else fb ρ := nr rfl
theorem ap_chain {q q' : G2} : fChain q q' fa fb fc ρ = (fa ρ).bind fun ra => (fb ρ).bind fun rb => (q ra rb).bind fun r => (toB r).bind fun k => if k then (fc ρ).bind fun rc => q' rb rc else okB false := nr rfl
theorem ap_isN {neg : Bool} : fIsN neg f ρ = (f ρ).bind (gIsN neg) := nr rfl
theorem ap_nil : fNil ρ = .ok [] := nr rfl
theorem ap_cons : fCons f A ρ = (f ρ).bind fun r => (A ρ).bind fun rs => .ok (r :: rs) := nr rfl
theorem ap_B {q : List R → Res R} : fB q A ρ = (A ρ).bind q := nr rfl
theorem ap_lst : fLst A ρ = (A ρ).bind dispL := nr rfl
theorem ap_tup : fTup A ρ = (A ρ).bind dispT := nr rfl
theorem ap_lstE : fLstE k ρ = .ok ⟨.lst [], k + 1, [], []⟩ := nr rfl
theorem ap_sl {l h : FO} : fSl f l h ρ = (f ρ).bind fun r => (l ρ).bind fun lo => (h ρ).bind fun hi => gSl r lo hi := nr rfl
theorem ap_slK {K : PySem.W.Frag} {l h : FO} : fSlK K f l h ρ = (f ρ).bind fun r => (l ρ).bind fun lo => (h ρ).bind fun hi => gSlK K r lo hi := nr rfl
theorem ap_noP : fNoP ρ = .ok none := nr rfl
theorem ap_part : fPart f ρ = (f ρ).bind toI := nr rfl
theorem ti_int {z : Int} : toI ⟨.int z, k, e, c⟩ = .ok (some z) := nr rfl
theorem ap_isi {T : String} : fIsi T f ρ = (f ρ).bind (gIsi T) := nr rfl
theorem ap_lr1 : fLR1 f ρ = (f ρ).bind gLR1 := nr rfl
theorem ap_lr2 : fLR2 f g ρ = (f ρ).bind fun r => (g ρ).bind fun q => gLR2 r q := nr rfl
theorem ap_revL : fRevL f ρ = (f ρ).bind gRevL := nr rfl
theorem ap_index : fIndex f g ρ = (f ρ).bind fun r => if isL r then (g ρ).bind fun q => gIndex r q else .bad := nr rfl
theorem ap_seqI : fSeqI f ρ = (f ρ).bind seqI := nr rfl
theorem ap_rng1 : fRng1 A ρ = (A ρ).bind (on1I rng1) := nr rfl
theorem ap_rng2 : fRng2 A ρ = (A ρ).bind (on2I rng2) := nr rfl
theorem ap_revI : fRevI A ρ = (A ρ).bind (on1I revI) := nr rfl
theorem ap_call {sem : DS} : fCall n sem A ρ = (A ρ).bind (callR n sem) := nr rfl
theorem ap_comp {it : FI} {tg : FG} {vs : List Nat} {dep : Nat} : fComp dep it tg t f vs ρ = (it ρ).bind fun s => (compL tg t f (wipeE (frzL s.c ρ) vs) s.ds).bind (dispC dep s.c) := nr rfl
/-! statements -/
def Out.then (o : Out) (g : FS) : Out := match o with
  | .nx ρ => g ρ
  | o => o
theorem th_nx : (Out.nx ρ).then s = s ρ := nr rfl
theorem th_rt : (Out.rt d k).then s = .rt d k := nr rfl
theorem th_bk : (Out.bk ρ).then s = .bk ρ := nr rfl
theorem th_ct : (Out.ct ρ).then s = .ct ρ := nr rfl
theorem th_ite {P : Prop} [Decidable P] {x y : Out} : (if P then x else y).then s = if P then x.then s else y.then s := by split <;> rfl
theorem ap_seq : sSeq s s' ρ = (s ρ).then s' := by unfold sSeq Out.then; rfl
def Res.st {α : Type} (r : Res α) (ρ : Ev) (q : α → Out) : Out := match r with
  | .ok a => q a
  | .exn x => .ex x ρ
  | .bad => .bad
theorem st_ok {α : Type} {a : α} {q : α → Out} : (Res.ok a).st ρ q = q a := nr rfl
theorem ap_stE {q : R → Ev → Out} : stE f q ρ = (f ρ).st ρ fun r => q r ρ := by unfold stE Res.st; cases f ρ <;> rfl
theorem ap_set : sSet i f ρ = (f ρ).st ρ fun r => .nx ((frzL r.e ρ).set i (some (r.d, r.k))) := by unfold sSet stE Res.st; cases f ρ <;> rfl
theorem ap_ret : sRet f ρ = (f ρ).st ρ fun r => .rt r.d r.k := by unfold sRet stE Res.st; cases f ρ <;> rfl
theorem ap_retN : sRetN ρ = .rt .non 0 := nr rfl
def retK : Option Slot → Out
  | some (some (d, k)) => .rt d k
  | _ => .bad
theorem ap_retV : sRetV i ρ = retK ρ[i]? := by unfold sRetV retK; split <;> simp_all
theorem rk_some : retK (some (some (d, k))) = .rt d k := nr rfl
theorem ap_expr : sExpr f ρ = (f ρ).st ρ fun _ => .nx ρ := by unfold sExpr stE Res.st; cases f ρ <;> rfl
theorem ap_if : sIf t s s' ρ = (t ρ).st ρ fun b => if b then s ρ else s' ρ := by unfold sIf stT Res.st; cases t ρ <;> rfl
theorem ap_sNil : sNil ρ = .nx ρ := nr rfl
theorem ap_brk : sBrk ρ = .bk ρ := nr rfl
theorem ap_cnt : sCnt ρ = .ct ρ := nr rfl
theorem ap_for {it : FI} {tg : FG} {vs : List Nat} : sFor it tg vs s ρ = (it ρ).st ρ fun z => forL tg vs s (frzL (z.e ++ z.c) ρ) z.ds := by unfold sFor Res.st; cases it ρ <;> rfl
def appK (i : Nat) (ρ : Ev) (r : R) : Option Slot → Out
  | some (some (.lst ds, k + 1)) => if i ∈ r.e then .bad else if ds.length < sizeLine then .nx ((frzL r.e ρ).set i (some (.lst (ds ++ [r.d]), if keepK k r then k + 1 else 1))) else .bad
  | _ => .bad
def ownK (o : Out) : Option Slot → Out
  | some (some (.lst _, _ + 1)) => o
  | _ => .bad
theorem ap_app : sApp i f ρ = ownK ((f ρ).st ρ fun r => appK i ρ r ρ[i]?) ρ[i]? := by
  unfold sApp ownL ownK
  rw [ap_stE]
  unfold appOut appK
  rfl
theorem own_some {ds : List D} {o : Out} : ownK o (some (some (.lst ds, k + 1))) = o := nr rfl
theorem own_1 {ds : List D} {o : Out} : ownK o (some (some (.lst ds, 1))) = o := nr rfl
theorem own_2 {ds : List D} {o : Out} : ownK o (some (some (.lst ds, 2))) = o := nr rfl
theorem own_3 {ds : List D} {o : Out} : ownK o (some (some (.lst ds, 3))) = o := nr rfl
theorem app_1 {ds : List D} {k' : Nat} : appK i ρ ⟨d, k', e, c⟩ (some (some (.lst ds, 1))) = if i ∈ e then .bad else if ds.length < sizeLine then .nx ((frzL e ρ).set i (some (.lst (ds ++ [d]), 1))) else .bad := by simp [appK, keepK]
theorem app_2 {ds : List D} : appK i ρ ⟨d, 1, e, c⟩ (some (some (.lst ds, 2))) = if i ∈ e then .bad else if ds.length < sizeLine then .nx ((frzL e ρ).set i (some (.lst (ds ++ [d]), 2))) else .bad := by simp [appK, keepK]
def storeK (i : Nat) (ρ : Ev) (r q : R) : Option Slot → Out := fun o => match o, q.d with
  | some (some (.lst ds, k + 1)), .int z => match ixN ds.length z with
    | some j => if i ∈ r.e then .bad else if keepK k r && scal r.d then .nx ((frzL r.e ρ).set i (some (.lst (ds.set j r.d), k + 1))) else .nx ((frzL r.e ρ).set i (some (.lst (ds.set j r.d), 1)))
    | none => .bad
  | _, _ => .bad
theorem ap_store : sStore i f g ρ = ownK ((g ρ).st ρ fun r => (f ρ).st ρ fun q => storeK i ρ r q ρ[i]?) ρ[i]? := by
  unfold sStore ownL ownK
  rw [ap_stE]
  simp only [ap_stE]
  unfold storeOut storeK
  rfl
theorem store_1 {ds : List D} {z : Int} {r : R} {k1 : Nat} {e1 c1 : List Nat} {j : Nat} (hj : ixN ds.length z = some j) : storeK i ρ r ⟨.int z, k1, e1, c1⟩ (some (some (.lst ds, 1))) = if i ∈ r.e then .bad else .nx ((frzL r.e ρ).set i (some (.lst (ds.set j r.d), 1))) := by
  simp [storeK, keepK, hj]
def setTK : Option Ev → Out
  | some ρ => .nx ρ
  | none => .bad
theorem ap_setT {is : List Nat} : sSetT is f ρ = (f ρ).st ρ fun r => match r.d with
    | .tup ds => setTK (setTs is ds (r.k - 1) (frzL r.e ρ))
    | _ => .bad := by
  unfold sSetT
  rw [ap_stE]
  rfl
theorem tk_some : setTK (some ρ) = .nx ρ := nr rfl
theorem st_nil {k : Nat} : setTs [] [] k ρ = some ρ := nr rfl
theorem st_cons {k : Nat} {is : List Nat} {ds : List D} : setTs (i :: is) (d :: ds) k ρ = setTs is ds k (ρ.set i (some (d, k))) := nr rfl
theorem ap_par : sPar i j A ρ = (A ρ).st ρ fun rs => parOut i j rs ρ := by unfold sPar stA Res.st; cases A ρ <;> rfl
theorem par_eq {r q : R} : parOut i j [r, q] ρ = .nx (((frzL (esL [r, q]) ρ).set i (some (r.d, 0))).set j (some (q.d, 0))) := nr rfl
def revK (i : Nat) (ρ : Ev) : Option Slot → Out
  | some (some (.lst ds, _ + 1)) => .nx (ρ.set i (some (.lst ds.reverse, 1)))
  | _ => .bad
theorem ap_rev : sRev i ρ = revK i ρ ρ[i]? := by unfold sRev revK; rfl
theorem rev_1 {ds : List D} : revK i ρ (some (some (.lst ds, k + 1))) = .nx (ρ.set i (some (.lst ds.reverse, 1))) := nr rfl
theorem rev_1' {ds : List D} : revK i ρ (some (some (.lst ds, 1))) = .nx (ρ.set i (some (.lst ds.reverse, 1))) := nr rfl
/-! targets -/
theorem gn_ap : gN i d ρ = some (ρ.set i (some (d, 0))) := nr rfl
theorem gt_ap {is : List Nat} {ds : List D} : gT is (.tup ds) ρ = gTs is ds ρ := nr rfl
theorem gts_nil : gTs [] [] ρ = some ρ := nr rfl
theorem gts_cons {is : List Nat} {ds : List D} : gTs (i :: is) (d :: ds) ρ = gTs is ds (ρ.set i (some (d, 0))) := nr rfl
theorem wp_nil : wipeE ρ [] = ρ := nr rfl
theorem wp_cons {vs : List Nat} : wipeE ρ (i :: vs) = (wipeE ρ vs).set i none := nr rfl
theorem fz_nil : frzL [] ρ = ρ := nr rfl
theorem fz_cons {es : List Nat} : frzL (i :: es) ρ = frzL es (frz1 i ρ) := nr rfl
def frzK (i : Nat) (ρ : Ev) : Option Slot → Ev
  | some (some (d, _)) => ρ.set i (some (d, 0))
  | _ => ρ
theorem fz_1 : frz1 i ρ = frzK i ρ ρ[i]? := by unfold frz1 frzK; split <;> simp_all
theorem fz_some : frzK i ρ (some (some (d, k))) = ρ.set i (some (d, 0)) := nr rfl
/-! operators -/
variable {x y : Int} {k1 k2 : Nat} {e1 e2 c1 c2 : List Nat} {xs ys : List D}
theorem o_I : okI x = .ok ⟨.int x, 0, [], []⟩ := nr rfl
theorem o_B {b : Bool} : okB b = .ok ⟨.bl b, 0, [], []⟩ := nr rfl
theorem g_addI : gAdd ⟨.int x, k1, e1, c1⟩ ⟨.int y, k2, e2, c2⟩ = .ok ⟨.int (x + y), 0, [], []⟩ := nr rfl
theorem g_addL : gAdd ⟨.lst xs, k1, e1, c1⟩ ⟨.lst ys, k2, e2, c2⟩ = if xs.length + ys.length ≤ sizeLine then .ok ⟨.lst (xs ++ ys), 1, c1 ++ c2, c1 ++ c2⟩ else .bad := nr rfl
theorem g_subI : gSub ⟨.int x, k1, e1, c1⟩ ⟨.int y, k2, e2, c2⟩ = .ok ⟨.int (x - y), 0, [], []⟩ := nr rfl
theorem g_mulI : gMul ⟨.int x, k1, e1, c1⟩ ⟨.int y, k2, e2, c2⟩ = if CMulL x y then .ok ⟨.int (x * y), 0, [], []⟩ else .bad := nr rfl
theorem g_divI : gDiv ⟨.int x, k1, e1, c1⟩ ⟨.int y, k2, e2, c2⟩ = if CDivL x y then .ok ⟨.int (x.fdiv y), 0, [], []⟩ else .bad := nr rfl
theorem g_modI : gMod ⟨.int x, k1, e1, c1⟩ ⟨.int y, k2, e2, c2⟩ = if y ≠ 0 then .ok ⟨.int (x.fmod y), 0, [], []⟩ else .bad := nr rfl
theorem g_powI : gPow ⟨.int x, k1, e1, c1⟩ ⟨.int y, k2, e2, c2⟩ = if CPow x y then .ok ⟨.int (x ^ y.toNat), 0, [], []⟩ else .bad := nr rfl
theorem g_negI : gNeg ⟨.int x, k1, e1, c1⟩ = .ok ⟨.int (-x), 0, [], []⟩ := nr rfl
theorem g_ltI : gLt ⟨.int x, k1, e1, c1⟩ ⟨.int y, k2, e2, c2⟩ = .ok ⟨.bl (decide (x < y)), 0, [], []⟩ := nr rfl
theorem g_leI : gLe ⟨.int x, k1, e1, c1⟩ ⟨.int y, k2, e2, c2⟩ = .ok ⟨.bl (decide (x ≤ y)), 0, [], []⟩ := nr rfl
theorem g_gtI : gGt ⟨.int x, k1, e1, c1⟩ ⟨.int y, k2, e2, c2⟩ = .ok ⟨.bl (decide (y < x)), 0, [], []⟩ := nr rfl
theorem g_geI : gGe ⟨.int x, k1, e1, c1⟩ ⟨.int y, k2, e2, c2⟩ = .ok ⟨.bl (decide (y ≤ x)), 0, [], []⟩ := nr rfl
theorem g_cmpI {q : Int → Int → Bool} : gCmp q ⟨.int x, k1, e1, c1⟩ ⟨.int y, k2, e2, c2⟩ = .ok ⟨.bl (q x y), 0, [], []⟩ := nr rfl
theorem deq_ii : deq (.int x) (.int y) = decide (x = y) := by unfold deq; first | rfl | (simp [deq]; rfl)
theorem g_eqI : gEq ⟨.int x, k1, e1, c1⟩ ⟨.int y, k2, e2, c2⟩ = .ok ⟨.bl (decide (x = y)), 0, [], []⟩ := by
  show (if pln 60 (.int x) && pln 60 (.int y) then okB (deq (.int x) (.int y)) else .bad) = _
  rw [deq_ii]; rfl
theorem g_neI : gNe ⟨.int x, k1, e1, c1⟩ ⟨.int y, k2, e2, c2⟩ = .ok ⟨.bl (!decide (x = y)), 0, [], []⟩ := by
  show (if pln 60 (.int x) && pln 60 (.int y) then okB (!deq (.int x) (.int y)) else .bad) = _
  rw [deq_ii]; rfl
theorem g_eqD {a b : D} (ha : pln 60 a = true) (hb : pln 60 b = true) : gEq ⟨a, k1, e1, c1⟩ ⟨b, k2, e2, c2⟩ = .ok ⟨.bl (deq a b), 0, [], []⟩ := by
  show (if pln 60 a && pln 60 b then okB (deq a b) else .bad) = _
  rw [ha, hb]; rfl
theorem g_neD {a b : D} (ha : pln 60 a = true) (hb : pln 60 b = true) : gNe ⟨a, k1, e1, c1⟩ ⟨b, k2, e2, c2⟩ = .ok ⟨.bl (!deq a b), 0, [], []⟩ := by
  show (if pln 60 a && pln 60 b then okB (!deq a b) else .bad) = _
  rw [ha, hb]; rfl
def ixK (c : List Nat) : Option D → Res R
  | some d => .ok (itemR ⟨.non, 0, [], c⟩ d)
  | none => .bad
theorem g_ixL : gIx ⟨.lst xs, k1, e1, c1⟩ ⟨.int y, k2, e2, c2⟩ = ixK c1 (atI xs y) := by
  unfold gIx ixK
  cases h : atI xs y <;> simp only [h] <;> first | done | rfl
theorem g_ixT : gIx ⟨.tup xs, k1, e1, c1⟩ ⟨.int y, k2, e2, c2⟩ = ixK c1 (atI xs y) := by
  unfold gIx ixK
  cases h : atI xs y <;> simp only [h] <;> first | done | rfl
theorem ik_int {z : Int} : ixK c (some (.int z)) = .ok ⟨.int z, 0, [], []⟩ := nr rfl
theorem ik_str {z : Str} : ixK c (some (.str z)) = .ok ⟨.str z, 0, [], []⟩ := nr rfl
theorem ik_af (h : af 0 d = true) : ixK c (some d) = .ok ⟨d, 0, [], []⟩ := by unfold ixK itemR; simp only [h, if_true]; rfl
theorem ik_lst {ds : List D} : ixK c (some (.lst ds)) = .ok ⟨.lst ds, 0, c, c⟩ := by unfold ixK itemR; simp [af]
theorem ix_0 {d0 : D} : atI (d0 :: xs) 0 = some d0 := atI_nat (j := 0) rfl
theorem ix_1 {d0 d1 : D} : atI (d0 :: d1 :: xs) 1 = some d1 := atI_nat (j := 1) rfl
theorem ix_2 {d0 d1 d2 : D} : atI (d0 :: d1 :: d2 :: xs) 2 = some d2 := atI_nat (j := 2) rfl
theorem ix_3 {d0 d1 d2 d3 : D} : atI (d0 :: d1 :: d2 :: d3 :: xs) 3 = some d3 := atI_nat (j := 3) rfl
theorem g_len_l : gLen [⟨.lst xs, k1, e1, c1⟩] = .ok ⟨.int xs.length, 0, [], []⟩ := nr rfl
theorem g_len_t : gLen [⟨.tup xs, k1, e1, c1⟩] = .ok ⟨.int xs.length, 0, [], []⟩ := nr rfl
theorem g_absI : gAbs [⟨.int x, k1, e1, c1⟩] = .ok ⟨.int (if x < 0 then -x else x), 0, [], []⟩ := nr rfl
theorem g_intI : gInt [⟨.int x, k1, e1, c1⟩] = .ok ⟨.int x, 0, [], []⟩ := nr rfl
theorem g_intB {b : Bool} : gInt [⟨.bl b, k1, e1, c1⟩] = .ok ⟨.int (if b then 1 else 0), 0, [], []⟩ := nr rfl
theorem g_max2 : gMax2 [⟨.int x, k1, e1, c1⟩, ⟨.int y, k2, e2, c2⟩] = .ok ⟨.int (if y > x then y else x), 0, [], []⟩ := nr rfl
theorem g_min2 : gMin2 [⟨.int x, k1, e1, c1⟩, ⟨.int y, k2, e2, c2⟩] = .ok ⟨.int (if y < x then y else x), 0, [], []⟩ := nr rfl
theorem ints_map : ∀ ns : List Int, intsOf (ns.map .int) = some ns
  | [] => rfl
  | n :: ns => by
    rw [List.map_cons]
    unfold intsOf
    rw [ints_map ns]
    rfl
theorem g_sum {ns : List Int} : gSum [⟨.lst (ns.map .int), k1, e1, c1⟩] = .ok ⟨.int ns.sum, 0, [], []⟩ := by
  unfold gSum onInts on1; simp only [ints_map]; rfl
theorem g_slL {lo hi : Option Int} : gSl ⟨.lst xs, k1, e1, c1⟩ lo hi = .ok ⟨.lst (cutD xs lo hi), 1, c1, c1⟩ := nr rfl
theorem g_rev : gRevL ⟨.lst xs, k1, e1, c1⟩ = .ok ⟨.lst xs.reverse, 1, c1, c1⟩ := nr rfl
theorem g_isi {T : String} (h : isScr d = false) : gIsi T ⟨d, k1, e1, c1⟩ = .ok ⟨.bl (isTy T d), 0, [], []⟩ := by unfold gIsi; simp only [h]; rfl
theorem sq_l : seqI ⟨.lst xs, k1, e1, c1⟩ = .ok ⟨xs, e1, c1⟩ := nr rfl
theorem sq_t : seqI ⟨.tup xs, k1, e1, c1⟩ = .ok ⟨xs, e1, c1⟩ := nr rfl
/-! displays -/
theorem szn (n : Nat) (h : n ≤ 1000) : n ≤ sizeLine := Nat.le_trans h (by decide)
theorem cd_0 {rs : List R} (h : rs.all (fun r => r.k == 0) = true) : cDepth rs = 0 := by
  unfold cDepth
  split
  · rfl
  · rename_i r t q
    split
    · have : r ∈ rs := (List.mem_filter.mp (q ▸ List.mem_cons_self : r ∈ rs.filter fun r => !scal r.d)).1
      simpa using List.all_eq_true.mp h r this
    · rfl
theorem dl_0 {rs : List R} (h : rs.all (fun r => r.k == 0) = true) (h2 : rs.length ≤ sizeLine) : dispL rs = .ok ⟨.lst (rs.map (·.d)), 1, esL rs, esL rs⟩ := by
  unfold dispL; rw [if_pos h2, cd_0 h]
theorem dt_0 {rs : List R} (h : rs.all (fun r => r.k == 0) = true) (h2 : rs.length ≤ sizeLine) : dispT rs = .ok ⟨.tup (rs.map (·.d)), 0, esL rs, esL rs⟩ := by
  unfold dispT; rw [if_pos h2, cd_0 h]; rfl
theorem dl0_0 : dispL [] = .ok ⟨.lst [], 1, [], []⟩ := nr rfl
theorem dt0_0 : dispT [] = .ok ⟨.tup [], 0, [], []⟩ := nr rfl
theorem es_0 : esL [] = [] := nr rfl
theorem es_c {r : R} {rs : List R} : esL (r :: rs) = r.e ++ esL rs := nr rfl
theorem dl0_1 {d0 : D} {e0 c0 : List Nat} : dispL [⟨d0, 0, e0, c0⟩] = .ok ⟨.lst [d0], 1, e0 ++ [], e0 ++ []⟩ := dl_0 rfl (szn 1 (by decide))
theorem dt0_1 {d0 : D} {e0 c0 : List Nat} : dispT [⟨d0, 0, e0, c0⟩] = .ok ⟨.tup [d0], 0, e0 ++ [], e0 ++ []⟩ := dt_0 rfl (szn 1 (by decide))
theorem dl0_2 {d0 d1 : D} {e0 c0 e1 c1 : List Nat} : dispL [⟨d0, 0, e0, c0⟩, ⟨d1, 0, e1, c1⟩] = .ok ⟨.lst [d0, d1], 1, e0 ++ (e1 ++ []), e0 ++ (e1 ++ [])⟩ := dl_0 rfl (szn 2 (by decide))
theorem dt0_2 {d0 d1 : D} {e0 c0 e1 c1 : List Nat} : dispT [⟨d0, 0, e0, c0⟩, ⟨d1, 0, e1, c1⟩] = .ok ⟨.tup [d0, d1], 0, e0 ++ (e1 ++ []), e0 ++ (e1 ++ [])⟩ := dt_0 rfl (szn 2 (by decide))
theorem dl0_3 {d0 d1 d2 : D} {e0 c0 e1 c1 e2 c2 : List Nat} : dispL [⟨d0, 0, e0, c0⟩, ⟨d1, 0, e1, c1⟩, ⟨d2, 0, e2, c2⟩] = .ok ⟨.lst [d0, d1, d2], 1, e0 ++ (e1 ++ (e2 ++ [])), e0 ++ (e1 ++ (e2 ++ []))⟩ := dl_0 rfl (szn 3 (by decide))
theorem dt0_3 {d0 d1 d2 : D} {e0 c0 e1 c1 e2 c2 : List Nat} : dispT [⟨d0, 0, e0, c0⟩, ⟨d1, 0, e1, c1⟩, ⟨d2, 0, e2, c2⟩] = .ok ⟨.tup [d0, d1, d2], 0, e0 ++ (e1 ++ (e2 ++ [])), e0 ++ (e1 ++ (e2 ++ []))⟩ := dt_0 rfl (szn 3 (by decide))
theorem dl0_4 {d0 d1 d2 d3 : D} {e0 c0 e1 c1 e2 c2 e3 c3 : List Nat} : dispL [⟨d0, 0, e0, c0⟩, ⟨d1, 0, e1, c1⟩, ⟨d2, 0, e2, c2⟩, ⟨d3, 0, e3, c3⟩] = .ok ⟨.lst [d0, d1, d2, d3], 1, e0 ++ (e1 ++ (e2 ++ (e3 ++ []))), e0 ++ (e1 ++ (e2 ++ (e3 ++ [])))⟩ := dl_0 rfl (szn 4 (by decide))
theorem dt0_4 {d0 d1 d2 d3 : D} {e0 c0 e1 c1 e2 c2 e3 c3 : List Nat} : dispT [⟨d0, 0, e0, c0⟩, ⟨d1, 0, e1, c1⟩, ⟨d2, 0, e2, c2⟩, ⟨d3, 0, e3, c3⟩] = .ok ⟨.tup [d0, d1, d2, d3], 0, e0 ++ (e1 ++ (e2 ++ (e3 ++ []))), e0 ++ (e1 ++ (e2 ++ (e3 ++ [])))⟩ := dt_0 rfl (szn 4 (by decide))
theorem dl0_5 {d0 d1 d2 d3 d4 : D} {e0 c0 e1 c1 e2 c2 e3 c3 e4 c4 : List Nat} : dispL [⟨d0, 0, e0, c0⟩, ⟨d1, 0, e1, c1⟩, ⟨d2, 0, e2, c2⟩, ⟨d3, 0, e3, c3⟩, ⟨d4, 0, e4, c4⟩] = .ok ⟨.lst [d0, d1, d2, d3, d4], 1, e0 ++ (e1 ++ (e2 ++ (e3 ++ (e4 ++ [])))), e0 ++ (e1 ++ (e2 ++ (e3 ++ (e4 ++ []))))⟩ := dl_0 rfl (szn 5 (by decide))
theorem dt0_5 {d0 d1 d2 d3 d4 : D} {e0 c0 e1 c1 e2 c2 e3 c3 e4 c4 : List Nat} : dispT [⟨d0, 0, e0, c0⟩, ⟨d1, 0, e1, c1⟩, ⟨d2, 0, e2, c2⟩, ⟨d3, 0, e3, c3⟩, ⟨d4, 0, e4, c4⟩] = .ok ⟨.tup [d0, d1, d2, d3, d4], 0, e0 ++ (e1 ++ (e2 ++ (e3 ++ (e4 ++ [])))), e0 ++ (e1 ++ (e2 ++ (e3 ++ (e4 ++ []))))⟩ := dt_0 rfl (szn 5 (by decide))
theorem dl0_6 {d0 d1 d2 d3 d4 d5 : D} {e0 c0 e1 c1 e2 c2 e3 c3 e4 c4 e5 c5 : List Nat} : dispL [⟨d0, 0, e0, c0⟩, ⟨d1, 0, e1, c1⟩, ⟨d2, 0, e2, c2⟩, ⟨d3, 0, e3, c3⟩, ⟨d4, 0, e4, c4⟩, ⟨d5, 0, e5, c5⟩] = .ok ⟨.lst [d0, d1, d2, d3, d4, d5], 1, e0 ++ (e1 ++ (e2 ++ (e3 ++ (e4 ++ (e5 ++ []))))), e0 ++ (e1 ++ (e2 ++ (e3 ++ (e4 ++ (e5 ++ [])))))⟩ := dl_0 rfl (szn 6 (by decide))
theorem dt0_6 {d0 d1 d2 d3 d4 d5 : D} {e0 c0 e1 c1 e2 c2 e3 c3 e4 c4 e5 c5 : List Nat} : dispT [⟨d0, 0, e0, c0⟩, ⟨d1, 0, e1, c1⟩, ⟨d2, 0, e2, c2⟩, ⟨d3, 0, e3, c3⟩, ⟨d4, 0, e4, c4⟩, ⟨d5, 0, e5, c5⟩] = .ok ⟨.tup [d0, d1, d2, d3, d4, d5], 0, e0 ++ (e1 ++ (e2 ++ (e3 ++ (e4 ++ (e5 ++ []))))), e0 ++ (e1 ++ (e2 ++ (e3 ++ (e4 ++ (e5 ++ [])))))⟩ := dt_0 rfl (szn 6 (by decide))
theorem dl0_7 {d0 d1 d2 d3 d4 d5 d6 : D} {e0 c0 e1 c1 e2 c2 e3 c3 e4 c4 e5 c5 e6 c6 : List Nat} : dispL [⟨d0, 0, e0, c0⟩, ⟨d1, 0, e1, c1⟩, ⟨d2, 0, e2, c2⟩, ⟨d3, 0, e3, c3⟩, ⟨d4, 0, e4, c4⟩, ⟨d5, 0, e5, c5⟩, ⟨d6, 0, e6, c6⟩] = .ok ⟨.lst [d0, d1, d2, d3, d4, d5, d6], 1, e0 ++ (e1 ++ (e2 ++ (e3 ++ (e4 ++ (e5 ++ (e6 ++ [])))))), e0 ++ (e1 ++ (e2 ++ (e3 ++ (e4 ++ (e5 ++ (e6 ++ []))))))⟩ := dl_0 rfl (szn 7 (by decide))
theorem dt0_7 {d0 d1 d2 d3 d4 d5 d6 : D} {e0 c0 e1 c1 e2 c2 e3 c3 e4 c4 e5 c5 e6 c6 : List Nat} : dispT [⟨d0, 0, e0, c0⟩, ⟨d1, 0, e1, c1⟩, ⟨d2, 0, e2, c2⟩, ⟨d3, 0, e3, c3⟩, ⟨d4, 0, e4, c4⟩, ⟨d5, 0, e5, c5⟩, ⟨d6, 0, e6, c6⟩] = .ok ⟨.tup [d0, d1, d2, d3, d4, d5, d6], 0, e0 ++ (e1 ++ (e2 ++ (e3 ++ (e4 ++ (e5 ++ (e6 ++ [])))))), e0 ++ (e1 ++ (e2 ++ (e3 ++ (e4 ++ (e5 ++ (e6 ++ []))))))⟩ := dt_0 rfl (szn 7 (by decide))
theorem dl0_8 {d0 d1 d2 d3 d4 d5 d6 d7 : D} {e0 c0 e1 c1 e2 c2 e3 c3 e4 c4 e5 c5 e6 c6 e7 c7 : List Nat} : dispL [⟨d0, 0, e0, c0⟩, ⟨d1, 0, e1, c1⟩, ⟨d2, 0, e2, c2⟩, ⟨d3, 0, e3, c3⟩, ⟨d4, 0, e4, c4⟩, ⟨d5, 0, e5, c5⟩, ⟨d6, 0, e6, c6⟩, ⟨d7, 0, e7, c7⟩] = .ok ⟨.lst [d0, d1, d2, d3, d4, d5, d6, d7], 1, e0 ++ (e1 ++ (e2 ++ (e3 ++ (e4 ++ (e5 ++ (e6 ++ (e7 ++ []))))))), e0 ++ (e1 ++ (e2 ++ (e3 ++ (e4 ++ (e5 ++ (e6 ++ (e7 ++ [])))))))⟩ := dl_0 rfl (szn 8 (by decide))
theorem dt0_8 {d0 d1 d2 d3 d4 d5 d6 d7 : D} {e0 c0 e1 c1 e2 c2 e3 c3 e4 c4 e5 c5 e6 c6 e7 c7 : List Nat} : dispT [⟨d0, 0, e0, c0⟩, ⟨d1, 0, e1, c1⟩, ⟨d2, 0, e2, c2⟩, ⟨d3, 0, e3, c3⟩, ⟨d4, 0, e4, c4⟩, ⟨d5, 0, e5, c5⟩, ⟨d6, 0, e6, c6⟩, ⟨d7, 0, e7, c7⟩] = .ok ⟨.tup [d0, d1, d2, d3, d4, d5, d6, d7], 0, e0 ++ (e1 ++ (e2 ++ (e3 ++ (e4 ++ (e5 ++ (e6 ++ (e7 ++ []))))))), e0 ++ (e1 ++ (e2 ++ (e3 ++ (e4 ++ (e5 ++ (e6 ++ (e7 ++ [])))))))⟩ := dt_0 rfl (szn 8 (by decide))
theorem dl0_9 {d0 d1 d2 d3 d4 d5 d6 d7 d8 : D} {e0 c0 e1 c1 e2 c2 e3 c3 e4 c4 e5 c5 e6 c6 e7 c7 e8 c8 : List Nat} : dispL [⟨d0, 0, e0, c0⟩, ⟨d1, 0, e1, c1⟩, ⟨d2, 0, e2, c2⟩, ⟨d3, 0, e3, c3⟩, ⟨d4, 0, e4, c4⟩, ⟨d5, 0, e5, c5⟩, ⟨d6, 0, e6, c6⟩, ⟨d7, 0, e7, c7⟩, ⟨d8, 0, e8, c8⟩] = .ok ⟨.lst [d0, d1, d2, d3, d4, d5, d6, d7, d8], 1, e0 ++ (e1 ++ (e2 ++ (e3 ++ (e4 ++ (e5 ++ (e6 ++ (e7 ++ (e8 ++ [])))))))), e0 ++ (e1 ++ (e2 ++ (e3 ++ (e4 ++ (e5 ++ (e6 ++ (e7 ++ (e8 ++ []))))))))⟩ := dl_0 rfl (szn 9 (by decide))
theorem dl0_10 {d0 d1 d2 d3 d4 d5 d6 d7 d8 d9 : D} {e0 c0 e1 c1 e2 c2 e3 c3 e4 c4 e5 c5 e6 c6 e7 c7 e8 c8 e9 c9 : List Nat} : dispL [⟨d0, 0, e0, c0⟩, ⟨d1, 0, e1, c1⟩, ⟨d2, 0, e2, c2⟩, ⟨d3, 0, e3, c3⟩, ⟨d4, 0, e4, c4⟩, ⟨d5, 0, e5, c5⟩, ⟨d6, 0, e6, c6⟩, ⟨d7, 0, e7, c7⟩, ⟨d8, 0, e8, c8⟩, ⟨d9, 0, e9, c9⟩] = .ok ⟨.lst [d0, d1, d2, d3, d4, d5, d6, d7, d8, d9], 1, e0 ++ (e1 ++ (e2 ++ (e3 ++ (e4 ++ (e5 ++ (e6 ++ (e7 ++ (e8 ++ (e9 ++ []))))))))), e0 ++ (e1 ++ (e2 ++ (e3 ++ (e4 ++ (e5 ++ (e6 ++ (e7 ++ (e8 ++ (e9 ++ [])))))))))⟩ := dl_0 rfl (szn 10 (by decide))
theorem dl0_11 {d0 d1 d2 d3 d4 d5 d6 d7 d8 d9 d10 : D} {e0 c0 e1 c1 e2 c2 e3 c3 e4 c4 e5 c5 e6 c6 e7 c7 e8 c8 e9 c9 e10 c10 : List Nat} : dispL [⟨d0, 0, e0, c0⟩, ⟨d1, 0, e1, c1⟩, ⟨d2, 0, e2, c2⟩, ⟨d3, 0, e3, c3⟩, ⟨d4, 0, e4, c4⟩, ⟨d5, 0, e5, c5⟩, ⟨d6, 0, e6, c6⟩, ⟨d7, 0, e7, c7⟩, ⟨d8, 0, e8, c8⟩, ⟨d9, 0, e9, c9⟩, ⟨d10, 0, e10, c10⟩] = .ok ⟨.lst [d0, d1, d2, d3, d4, d5, d6, d7, d8, d9, d10], 1, e0 ++ (e1 ++ (e2 ++ (e3 ++ (e4 ++ (e5 ++ (e6 ++ (e7 ++ (e8 ++ (e9 ++ (e10 ++ [])))))))))), e0 ++ (e1 ++ (e2 ++ (e3 ++ (e4 ++ (e5 ++ (e6 ++ (e7 ++ (e8 ++ (e9 ++ (e10 ++ []))))))))))⟩ := dl_0 rfl (szn 11 (by decide))
theorem dl0_12 {d0 d1 d2 d3 d4 d5 d6 d7 d8 d9 d10 d11 : D} {e0 c0 e1 c1 e2 c2 e3 c3 e4 c4 e5 c5 e6 c6 e7 c7 e8 c8 e9 c9 e10 c10 e11 c11 : List Nat} : dispL [⟨d0, 0, e0, c0⟩, ⟨d1, 0, e1, c1⟩, ⟨d2, 0, e2, c2⟩, ⟨d3, 0, e3, c3⟩, ⟨d4, 0, e4, c4⟩, ⟨d5, 0, e5, c5⟩, ⟨d6, 0, e6, c6⟩, ⟨d7, 0, e7, c7⟩, ⟨d8, 0, e8, c8⟩, ⟨d9, 0, e9, c9⟩, ⟨d10, 0, e10, c10⟩, ⟨d11, 0, e11, c11⟩] = .ok ⟨.lst [d0, d1, d2, d3, d4, d5, d6, d7, d8, d9, d10, d11], 1, e0 ++ (e1 ++ (e2 ++ (e3 ++ (e4 ++ (e5 ++ (e6 ++ (e7 ++ (e8 ++ (e9 ++ (e10 ++ (e11 ++ []))))))))))), e0 ++ (e1 ++ (e2 ++ (e3 ++ (e4 ++ (e5 ++ (e6 ++ (e7 ++ (e8 ++ (e9 ++ (e10 ++ (e11 ++ [])))))))))))⟩ := dl_0 rfl (szn 12 (by decide))
theorem dl0_13 {d0 d1 d2 d3 d4 d5 d6 d7 d8 d9 d10 d11 d12 : D} {e0 c0 e1 c1 e2 c2 e3 c3 e4 c4 e5 c5 e6 c6 e7 c7 e8 c8 e9 c9 e10 c10 e11 c11 e12 c12 : List Nat} : dispL [⟨d0, 0, e0, c0⟩, ⟨d1, 0, e1, c1⟩, ⟨d2, 0, e2, c2⟩, ⟨d3, 0, e3, c3⟩, ⟨d4, 0, e4, c4⟩, ⟨d5, 0, e5, c5⟩, ⟨d6, 0, e6, c6⟩, ⟨d7, 0, e7, c7⟩, ⟨d8, 0, e8, c8⟩, ⟨d9, 0, e9, c9⟩, ⟨d10, 0, e10, c10⟩, ⟨d11, 0, e11, c11⟩, ⟨d12, 0, e12, c12⟩] = .ok ⟨.lst [d0, d1, d2, d3, d4, d5, d6, d7, d8, d9, d10, d11, d12], 1, e0 ++ (e1 ++ (e2 ++ (e3 ++ (e4 ++ (e5 ++ (e6 ++ (e7 ++ (e8 ++ (e9 ++ (e10 ++ (e11 ++ (e12 ++ [])))))))))))), e0 ++ (e1 ++ (e2 ++ (e3 ++ (e4 ++ (e5 ++ (e6 ++ (e7 ++ (e8 ++ (e9 ++ (e10 ++ (e11 ++ (e12 ++ []))))))))))))⟩ := dl_0 rfl (szn 13 (by decide))
theorem dl0_14 {d0 d1 d2 d3 d4 d5 d6 d7 d8 d9 d10 d11 d12 d13 : D} {e0 c0 e1 c1 e2 c2 e3 c3 e4 c4 e5 c5 e6 c6 e7 c7 e8 c8 e9 c9 e10 c10 e11 c11 e12 c12 e13 c13 : List Nat} : dispL [⟨d0, 0, e0, c0⟩, ⟨d1, 0, e1, c1⟩, ⟨d2, 0, e2, c2⟩, ⟨d3, 0, e3, c3⟩, ⟨d4, 0, e4, c4⟩, ⟨d5, 0, e5, c5⟩, ⟨d6, 0, e6, c6⟩, ⟨d7, 0, e7, c7⟩, ⟨d8, 0, e8, c8⟩, ⟨d9, 0, e9, c9⟩, ⟨d10, 0, e10, c10⟩, ⟨d11, 0, e11, c11⟩, ⟨d12, 0, e12, c12⟩, ⟨d13, 0, e13, c13⟩] = .ok ⟨.lst [d0, d1, d2, d3, d4, d5, d6, d7, d8, d9, d10, d11, d12, d13], 1, e0 ++ (e1 ++ (e2 ++ (e3 ++ (e4 ++ (e5 ++ (e6 ++ (e7 ++ (e8 ++ (e9 ++ (e10 ++ (e11 ++ (e12 ++ (e13 ++ []))))))))))))), e0 ++ (e1 ++ (e2 ++ (e3 ++ (e4 ++ (e5 ++ (e6 ++ (e7 ++ (e8 ++ (e9 ++ (e10 ++ (e11 ++ (e12 ++ (e13 ++ [])))))))))))))⟩ := dl_0 rfl (szn 14 (by decide))
theorem dl0_15 {d0 d1 d2 d3 d4 d5 d6 d7 d8 d9 d10 d11 d12 d13 d14 : D} {e0 c0 e1 c1 e2 c2 e3 c3 e4 c4 e5 c5 e6 c6 e7 c7 e8 c8 e9 c9 e10 c10 e11 c11 e12 c12 e13 c13 e14 c14 : List Nat} : dispL [⟨d0, 0, e0, c0⟩, ⟨d1, 0, e1, c1⟩, ⟨d2, 0, e2, c2⟩, ⟨d3, 0, e3, c3⟩, ⟨d4, 0, e4, c4⟩, ⟨d5, 0, e5, c5⟩, ⟨d6, 0, e6, c6⟩, ⟨d7, 0, e7, c7⟩, ⟨d8, 0, e8, c8⟩, ⟨d9, 0, e9, c9⟩, ⟨d10, 0, e10, c10⟩, ⟨d11, 0, e11, c11⟩, ⟨d12, 0, e12, c12⟩, ⟨d13, 0, e13, c13⟩, ⟨d14, 0, e14, c14⟩] = .ok ⟨.lst [d0, d1, d2, d3, d4, d5, d6, d7, d8, d9, d10, d11, d12, d13, d14], 1, e0 ++ (e1 ++ (e2 ++ (e3 ++ (e4 ++ (e5 ++ (e6 ++ (e7 ++ (e8 ++ (e9 ++ (e10 ++ (e11 ++ (e12 ++ (e13 ++ (e14 ++ [])))))))))))))), e0 ++ (e1 ++ (e2 ++ (e3 ++ (e4 ++ (e5 ++ (e6 ++ (e7 ++ (e8 ++ (e9 ++ (e10 ++ (e11 ++ (e12 ++ (e13 ++ (e14 ++ []))))))))))))))⟩ := dl_0 rfl (szn 15 (by decide))
theorem dl0_16 {d0 d1 d2 d3 d4 d5 d6 d7 d8 d9 d10 d11 d12 d13 d14 d15 : D} {e0 c0 e1 c1 e2 c2 e3 c3 e4 c4 e5 c5 e6 c6 e7 c7 e8 c8 e9 c9 e10 c10 e11 c11 e12 c12 e13 c13 e14 c14 e15 c15 : List Nat} : dispL [⟨d0, 0, e0, c0⟩, ⟨d1, 0, e1, c1⟩, ⟨d2, 0, e2, c2⟩, ⟨d3, 0, e3, c3⟩, ⟨d4, 0, e4, c4⟩, ⟨d5, 0, e5, c5⟩, ⟨d6, 0, e6, c6⟩, ⟨d7, 0, e7, c7⟩, ⟨d8, 0, e8, c8⟩, ⟨d9, 0, e9, c9⟩, ⟨d10, 0, e10, c10⟩, ⟨d11, 0, e11, c11⟩, ⟨d12, 0, e12, c12⟩, ⟨d13, 0, e13, c13⟩, ⟨d14, 0, e14, c14⟩, ⟨d15, 0, e15, c15⟩] = .ok ⟨.lst [d0, d1, d2, d3, d4, d5, d6, d7, d8, d9, d10, d11, d12, d13, d14, d15], 1, e0 ++ (e1 ++ (e2 ++ (e3 ++ (e4 ++ (e5 ++ (e6 ++ (e7 ++ (e8 ++ (e9 ++ (e10 ++ (e11 ++ (e12 ++ (e13 ++ (e14 ++ (e15 ++ []))))))))))))))), e0 ++ (e1 ++ (e2 ++ (e3 ++ (e4 ++ (e5 ++ (e6 ++ (e7 ++ (e8 ++ (e9 ++ (e10 ++ (e11 ++ (e12 ++ (e13 ++ (e14 ++ (e15 ++ [])))))))))))))))⟩ := dl_0 rfl (szn 16 (by decide))
theorem dl0_17 {d0 d1 d2 d3 d4 d5 d6 d7 d8 d9 d10 d11 d12 d13 d14 d15 d16 : D} {e0 c0 e1 c1 e2 c2 e3 c3 e4 c4 e5 c5 e6 c6 e7 c7 e8 c8 e9 c9 e10 c10 e11 c11 e12 c12 e13 c13 e14 c14 e15 c15 e16 c16 : List Nat} : dispL [⟨d0, 0, e0, c0⟩, ⟨d1, 0, e1, c1⟩, ⟨d2, 0, e2, c2⟩, ⟨d3, 0, e3, c3⟩, ⟨d4, 0, e4, c4⟩, ⟨d5, 0, e5, c5⟩, ⟨d6, 0, e6, c6⟩, ⟨d7, 0, e7, c7⟩, ⟨d8, 0, e8, c8⟩, ⟨d9, 0, e9, c9⟩, ⟨d10, 0, e10, c10⟩, ⟨d11, 0, e11, c11⟩, ⟨d12, 0, e12, c12⟩, ⟨d13, 0, e13, c13⟩, ⟨d14, 0, e14, c14⟩, ⟨d15, 0, e15, c15⟩, ⟨d16, 0, e16, c16⟩] = .ok ⟨.lst [d0, d1, d2, d3, d4, d5, d6, d7, d8, d9, d10, d11, d12, d13, d14, d15, d16], 1, e0 ++ (e1 ++ (e2 ++ (e3 ++ (e4 ++ (e5 ++ (e6 ++ (e7 ++ (e8 ++ (e9 ++ (e10 ++ (e11 ++ (e12 ++ (e13 ++ (e14 ++ (e15 ++ (e16 ++ [])))))))))))))))), e0 ++ (e1 ++ (e2 ++ (e3 ++ (e4 ++ (e5 ++ (e6 ++ (e7 ++ (e8 ++ (e9 ++ (e10 ++ (e11 ++ (e12 ++ (e13 ++ (e14 ++ (e15 ++ (e16 ++ []))))))))))))))))⟩ := dl_0 rfl (szn 17 (by decide))
theorem dl0_18 {d0 d1 d2 d3 d4 d5 d6 d7 d8 d9 d10 d11 d12 d13 d14 d15 d16 d17 : D} {e0 c0 e1 c1 e2 c2 e3 c3 e4 c4 e5 c5 e6 c6 e7 c7 e8 c8 e9 c9 e10 c10 e11 c11 e12 c12 e13 c13 e14 c14 e15 c15 e16 c16 e17 c17 : List Nat} : dispL [⟨d0, 0, e0, c0⟩, ⟨d1, 0, e1, c1⟩, ⟨d2, 0, e2, c2⟩, ⟨d3, 0, e3, c3⟩, ⟨d4, 0, e4, c4⟩, ⟨d5, 0, e5, c5⟩, ⟨d6, 0, e6, c6⟩, ⟨d7, 0, e7, c7⟩, ⟨d8, 0, e8, c8⟩, ⟨d9, 0, e9, c9⟩, ⟨d10, 0, e10, c10⟩, ⟨d11, 0, e11, c11⟩, ⟨d12, 0, e12, c12⟩, ⟨d13, 0, e13, c13⟩, ⟨d14, 0, e14, c14⟩, ⟨d15, 0, e15, c15⟩, ⟨d16, 0, e16, c16⟩, ⟨d17, 0, e17, c17⟩] = .ok ⟨.lst [d0, d1, d2, d3, d4, d5, d6, d7, d8, d9, d10, d11, d12, d13, d14, d15, d16, d17], 1, e0 ++ (e1 ++ (e2 ++ (e3 ++ (e4 ++ (e5 ++ (e6 ++ (e7 ++ (e8 ++ (e9 ++ (e10 ++ (e11 ++ (e12 ++ (e13 ++ (e14 ++ (e15 ++ (e16 ++ (e17 ++ []))))))))))))))))), e0 ++ (e1 ++ (e2 ++ (e3 ++ (e4 ++ (e5 ++ (e6 ++ (e7 ++ (e8 ++ (e9 ++ (e10 ++ (e11 ++ (e12 ++ (e13 ++ (e14 ++ (e15 ++ (e16 ++ (e17 ++ [])))))))))))))))))⟩ := dl_0 rfl (szn 18 (by decide))
theorem dl0_19 {d0 d1 d2 d3 d4 d5 d6 d7 d8 d9 d10 d11 d12 d13 d14 d15 d16 d17 d18 : D} {e0 c0 e1 c1 e2 c2 e3 c3 e4 c4 e5 c5 e6 c6 e7 c7 e8 c8 e9 c9 e10 c10 e11 c11 e12 c12 e13 c13 e14 c14 e15 c15 e16 c16 e17 c17 e18 c18 : List Nat} : dispL [⟨d0, 0, e0, c0⟩, ⟨d1, 0, e1, c1⟩, ⟨d2, 0, e2, c2⟩, ⟨d3, 0, e3, c3⟩, ⟨d4, 0, e4, c4⟩, ⟨d5, 0, e5, c5⟩, ⟨d6, 0, e6, c6⟩, ⟨d7, 0, e7, c7⟩, ⟨d8, 0, e8, c8⟩, ⟨d9, 0, e9, c9⟩, ⟨d10, 0, e10, c10⟩, ⟨d11, 0, e11, c11⟩, ⟨d12, 0, e12, c12⟩, ⟨d13, 0, e13, c13⟩, ⟨d14, 0, e14, c14⟩, ⟨d15, 0, e15, c15⟩, ⟨d16, 0, e16, c16⟩, ⟨d17, 0, e17, c17⟩, ⟨d18, 0, e18, c18⟩] = .ok ⟨.lst [d0, d1, d2, d3, d4, d5, d6, d7, d8, d9, d10, d11, d12, d13, d14, d15, d16, d17, d18], 1, e0 ++ (e1 ++ (e2 ++ (e3 ++ (e4 ++ (e5 ++ (e6 ++ (e7 ++ (e8 ++ (e9 ++ (e10 ++ (e11 ++ (e12 ++ (e13 ++ (e14 ++ (e15 ++ (e16 ++ (e17 ++ (e18 ++ [])))))))))))))))))), e0 ++ (e1 ++ (e2 ++ (e3 ++ (e4 ++ (e5 ++ (e6 ++ (e7 ++ (e8 ++ (e9 ++ (e10 ++ (e11 ++ (e12 ++ (e13 ++ (e14 ++ (e15 ++ (e16 ++ (e17 ++ (e18 ++ []))))))))))))))))))⟩ := dl_0 rfl (szn 19 (by decide))
theorem dl0_20 {d0 d1 d2 d3 d4 d5 d6 d7 d8 d9 d10 d11 d12 d13 d14 d15 d16 d17 d18 d19 : D} {e0 c0 e1 c1 e2 c2 e3 c3 e4 c4 e5 c5 e6 c6 e7 c7 e8 c8 e9 c9 e10 c10 e11 c11 e12 c12 e13 c13 e14 c14 e15 c15 e16 c16 e17 c17 e18 c18 e19 c19 : List Nat} : dispL [⟨d0, 0, e0, c0⟩, ⟨d1, 0, e1, c1⟩, ⟨d2, 0, e2, c2⟩, ⟨d3, 0, e3, c3⟩, ⟨d4, 0, e4, c4⟩, ⟨d5, 0, e5, c5⟩, ⟨d6, 0, e6, c6⟩, ⟨d7, 0, e7, c7⟩, ⟨d8, 0, e8, c8⟩, ⟨d9, 0, e9, c9⟩, ⟨d10, 0, e10, c10⟩, ⟨d11, 0, e11, c11⟩, ⟨d12, 0, e12, c12⟩, ⟨d13, 0, e13, c13⟩, ⟨d14, 0, e14, c14⟩, ⟨d15, 0, e15, c15⟩, ⟨d16, 0, e16, c16⟩, ⟨d17, 0, e17, c17⟩, ⟨d18, 0, e18, c18⟩, ⟨d19, 0, e19, c19⟩] = .ok ⟨.lst [d0, d1, d2, d3, d4, d5, d6, d7, d8, d9, d10, d11, d12, d13, d14, d15, d16, d17, d18, d19], 1, e0 ++ (e1 ++ (e2 ++ (e3 ++ (e4 ++ (e5 ++ (e6 ++ (e7 ++ (e8 ++ (e9 ++ (e10 ++ (e11 ++ (e12 ++ (e13 ++ (e14 ++ (e15 ++ (e16 ++ (e17 ++ (e18 ++ (e19 ++ []))))))))))))))))))), e0 ++ (e1 ++ (e2 ++ (e3 ++ (e4 ++ (e5 ++ (e6 ++ (e7 ++ (e8 ++ (e9 ++ (e10 ++ (e11 ++ (e12 ++ (e13 ++ (e14 ++ (e15 ++ (e16 ++ (e17 ++ (e18 ++ (e19 ++ [])))))))))))))))))))⟩ := dl_0 rfl (szn 20 (by decide))
theorem dt_g {rs : List R} (h2 : rs.length ≤ sizeLine) : dispT rs = .ok ⟨.tup (rs.map (·.d)), if cDepth rs = 0 then 0 else cDepth rs + 1, esL rs, esL rs⟩ := if_pos h2
theorem dl_g {rs : List R} (h2 : rs.length ≤ sizeLine) : dispL rs = .ok ⟨.lst (rs.map (·.d)), cDepth rs + 1, esL rs, esL rs⟩ := if_pos h2
theorem dt_i1 {z : Int} {xs : List D} {e c : List Nat} : dispT [⟨.int z, 0, [], []⟩, ⟨.lst xs, 1, e, c⟩] = .ok ⟨.tup [.int z, .lst xs], 2, e ++ [], e ++ []⟩ := by
  refine Eq.trans (dt_g ?_) ?_
  · exact szn 2 (by decide)
  · rfl
theorem dt_l1i {z : Int} {xs : List D} {e c : List Nat} : dispT [⟨.lst xs, 1, e, c⟩, ⟨.int z, 0, [], []⟩] = .ok ⟨.tup [.lst xs, .int z], 2, e ++ [], e ++ []⟩ := by
  refine Eq.trans (dt_g ?_) ?_
  · exact szn 2 (by decide)
  · rfl
theorem dl_l1 {xs : List D} {e c : List Nat} : dispL [⟨.lst xs, 1, e, c⟩] = .ok ⟨.lst [.lst xs], 2, e ++ [], e ++ []⟩ := by
  refine Eq.trans (dl_g ?_) ?_
  · exact szn 1 (by decide)
  · rfl
theorem dl_l1l1 {xs ys : List D} {e c e' c' : List Nat} : dispL [⟨.lst xs, 1, e, c⟩, ⟨.lst ys, 1, e', c'⟩] = .ok ⟨.lst [.lst xs, .lst ys], 2, e ++ (e' ++ []), e ++ (e' ++ [])⟩ := by
  refine Eq.trans (dl_g ?_) ?_
  · exact szn 2 (by decide)
  · rfl
/-! range -/
def InR (x : Int) : Prop := -(2 ^ 62) ≤ x ∧ x < 2 ^ 62
theorem InR.of {x : Int} (h1 : -1000000000000 ≤ x) (h2 : x ≤ 1000000000000) : InR x := by
  unfold InR
  have e : (2 : Int) ^ 62 = 4611686018427387904 := by decide
  rw [e]; omega
theorem r1_ok (h : InR x) : on1I rng1 [⟨.int x, k1, e1, c1⟩] = .ok ⟨rgD 0 x.toNat, [], []⟩ := by
  unfold on1I rng1
  exact if_pos h
theorem r2_ok (h : InR x) (h' : InR y) : on2I rng2 [⟨.int x, k1, e1, c1⟩, ⟨.int y, k2, e2, c2⟩] = .ok ⟨rgD x (y - x).toNat, [], []⟩ := by
  unfold on2I rng2
  exact if_pos ⟨h.1, h.2, h'.1, h'.2⟩
theorem lr1_ok (h : InR x) (h2 : x.toNat ≤ 2 ^ 24) : gLR1 ⟨.int x, k1, e1, c1⟩ = .ok ⟨.lst (rgD 0 x.toNat), 1, [], []⟩ := by
  unfold gLR1 lrg
  simp only [Int.sub_zero]
  exact if_pos ⟨by decide, by decide, h.1, h.2, h2⟩
/-! calls -/
def callV (rs : List R) (d : D) (k : Nat) : R := if af k d then ⟨d, k, [], []⟩ else ⟨d, k, esL rs, esL rs⟩
theorem cl_ok {sem : DS} {rs : List R} (hn : rs.length = n) (h : sem (rs.map (·.d)) = .ok (d, k)) : callR n sem rs = .ok (callV rs d k) := by
  unfold callR callV
  rw [if_pos hn, h]
theorem cv_af {rs : List R} (h : af k d = true) : callV rs d k = ⟨d, k, [], []⟩ := by unfold callV; rw [if_pos h]
theorem c1_ok {sem : DS} {d1 : D} (h : sem [d1] = .ok (d, k)) (ha : af k d = true) : callR 1 sem [⟨d1, k1, e1, c1⟩] = .ok ⟨d, k, [], []⟩ := by rw [cl_ok (n := 1) rfl h, cv_af ha]
theorem c2_ok {sem : DS} {d1 d2 : D} (h : sem [d1, d2] = .ok (d, k)) (ha : af k d = true) : callR 2 sem [⟨d1, k1, e1, c1⟩, ⟨d2, k2, e2, c2⟩] = .ok ⟨d, k, [], []⟩ := by rw [cl_ok (n := 2) rfl h, cv_af ha]
theorem c3_ok {sem : DS} {d1 d2 d3 : D} {k3 : Nat} {e3 c3 : List Nat} (h : sem [d1, d2, d3] = .ok (d, k)) (ha : af k d = true) : callR 3 sem [⟨d1, k1, e1, c1⟩, ⟨d2, k2, e2, c2⟩, ⟨d3, k3, e3, c3⟩] = .ok ⟨d, k, [], []⟩ := by rw [cl_ok (n := 3) rfl h, cv_af ha]
theorem c4_ok {sem : DS} {d1 d2 d3 d4 : D} {k3 k4 : Nat} {e3 c3 e4 c4 : List Nat} (h : sem [d1, d2, d3, d4] = .ok (d, k)) (ha : af k d = true) : callR 4 sem [⟨d1, k1, e1, c1⟩, ⟨d2, k2, e2, c2⟩, ⟨d3, k3, e3, c3⟩, ⟨d4, k4, e4, c4⟩] = .ok ⟨d, k, [], []⟩ := by rw [cl_ok (n := 4) rfl h, cv_af ha]
theorem c5_ok {sem : DS} {d1 d2 d3 d4 d5 : D} {k3 k4 k5 : Nat} {e3 c3 e4 c4 e5 c5 : List Nat} (h : sem [d1, d2, d3, d4, d5] = .ok (d, k)) (ha : af k d = true) : callR 5 sem [⟨d1, k1, e1, c1⟩, ⟨d2, k2, e2, c2⟩, ⟨d3, k3, e3, c3⟩, ⟨d4, k4, e4, c4⟩, ⟨d5, k5, e5, c5⟩] = .ok ⟨d, k, [], []⟩ := by rw [cl_ok (n := 5) rfl h, cv_af ha]
def callE (rs : List R) (d : D) (k : Nat) : List Nat := if af k d then [] else esL rs
theorem cl_any {sem : DS} {rs : List R} (hn : rs.length = n) (h : sem (rs.map (·.d)) = .ok (d, k)) : callR n sem rs = .ok ⟨d, k, callE rs d k, callE rs d k⟩ := by
  rw [cl_ok hn h]
  unfold callV callE
  split <;> rfl
theorem c1_any {sem : DS} {d1 : D} (h : sem [d1] = .ok (d, k)) : callR 1 sem [⟨d1, k1, e1, c1⟩] = .ok ⟨d, k, callE [⟨d1, k1, e1, c1⟩] d k, callE [⟨d1, k1, e1, c1⟩] d k⟩ := by rw [cl_any (n := 1) rfl h]
theorem c2_any {sem : DS} {d1 d2 : D} (h : sem [d1, d2] = .ok (d, k)) : callR 2 sem [⟨d1, k1, e1, c1⟩, ⟨d2, k2, e2, c2⟩] = .ok ⟨d, k, callE [⟨d1, k1, e1, c1⟩, ⟨d2, k2, e2, c2⟩] d k, callE [⟨d1, k1, e1, c1⟩, ⟨d2, k2, e2, c2⟩] d k⟩ := by rw [cl_any (n := 2) rfl h]
theorem c3_any {sem : DS} {d1 d2 d3 : D} {k3 : Nat} {e3 c3 : List Nat} (h : sem [d1, d2, d3] = .ok (d, k)) : callR 3 sem [⟨d1, k1, e1, c1⟩, ⟨d2, k2, e2, c2⟩, ⟨d3, k3, e3, c3⟩] = .ok ⟨d, k, callE [⟨d1, k1, e1, c1⟩, ⟨d2, k2, e2, c2⟩, ⟨d3, k3, e3, c3⟩] d k, callE [⟨d1, k1, e1, c1⟩, ⟨d2, k2, e2, c2⟩, ⟨d3, k3, e3, c3⟩] d k⟩ := by rw [cl_any (n := 3) rfl h]
theorem c6_ok {sem : DS} {d1 d2 d3 d4 d5 d6 : D} {k3 k4 k5 k6 : Nat} {e3 c3 e4 c4 e5 c5 e6 c6 : List Nat} (h : sem [d1, d2, d3, d4, d5, d6] = .ok (d, k)) (ha : af k d = true) : callR 6 sem [⟨d1, k1, e1, c1⟩, ⟨d2, k2, e2, c2⟩, ⟨d3, k3, e3, c3⟩, ⟨d4, k4, e4, c4⟩, ⟨d5, k5, e5, c5⟩, ⟨d6, k6, e6, c6⟩] = .ok ⟨d, k, [], []⟩ := by rw [cl_ok (n := 6) rfl h, cv_af ha]
theorem ce_0 {rs : List R} (h : af k d = false) : callE rs d k = esL rs := by unfold callE; rw [h]; rfl
theorem af_int : af k (.int x) = true := by cases k <;> rfl
theorem af_bl {b : Bool} : af k (.bl b) = true := by cases k <;> rfl
theorem af_non : af k .non = true := by cases k <;> rfl
theorem af_str {z : Str} : af k (.str z) = true := by cases k <;> rfl
theorem afL_of {ds : List D} (h : ∀ d ∈ ds, af k d = true) : afL k ds = true := by
  induction ds with
  | nil => cases k <;> rfl
  | cons d ds ih => simp only [afL, Bool.and_eq_true]; exact ⟨h d List.mem_cons_self, ih fun d hd => h d (List.mem_cons_of_mem _ hd)⟩
theorem af_lst {ds : List D} (h : ∀ d ∈ ds, af k d = true) : af (k + 1) (.lst ds) = true := by simpa [af] using afL_of h
theorem af_ints {ns : List Int} : af 1 (.lst (ns.map .int)) = true := af_lst fun d hd => by
  obtain ⟨n, _, rfl⟩ := List.mem_map.mp hd
  rfl
/-! a def's body -/
def dK : Out → Res (D × Nat)
  | .rt d k => .ok (d, k)
  | .nx _ => .ok (.non, 0)
  | .ex x _ => .exn x
  | _ => .bad
theorem ds_eq {N : Nat} {body : FS} {ds : List D} (h : ds.length = n) : dsem N n body ds = dK (body (ds.map (fun d => some (d, 0)) ++ List.replicate (N - n) none)) := by
  unfold dsem
  rw [if_pos h]
  unfold dK
  rfl
theorem dk_rt : dK (.rt d k) = .ok (d, k) := nr rfl
theorem dk_nx : dK (.nx ρ) = .ok (.non, 0) := nr rfl
end
end PyL

namespace PyL
open PySem PySem.Spec L2
set_option autoImplicit false

/-! ### loops, at the level of data -/
theorem forL_inv {tg : FG} {vs : List Nat} {body : FS} (I : Nat → Ev → Prop) : ∀ {ds : List D} {ρ : Ev} {j : Nat}, I j ρ →
    (∀ i d ρ, ds[i]? = some d → I (j + i) ρ → ∃ ρ1 ρ2, tg d (wipeE ρ vs) = some ρ1 ∧ (body ρ1 = .nx ρ2 ∨ body ρ1 = .ct ρ2) ∧ I (j + i + 1) ρ2) → ∃ ρ', forL tg vs body ρ ds = .nx ρ' ∧ I (j + ds.length) ρ'
  | [], ρ, j, h, _ => ⟨ρ, rfl, h⟩
  | d :: ds, ρ, j, h, step => by
    obtain ⟨ρ1, ρ2, e1, e2, h2⟩ := step 0 d ρ rfl h
    obtain ⟨ρ', e, h'⟩ := forL_inv I (ds := ds) (ρ := ρ2) (j := j + 1) h2 fun i d' ρ hd hi => by
      have := step (i + 1) d' ρ (by simpa using hd) (by rw [show j + (i + 1) = j + 1 + i by omega]; exact hi)
      rw [show j + (i + 1) = j + 1 + i by omega] at this
      exact this
    refine ⟨ρ', ?_, by rw [List.length_cons, show j + (ds.length + 1) = j + 1 + ds.length by omega]; exact h'⟩
    unfold forL
    rcases e2 with e2 | e2
    · simp only [e1, e2]; exact e
    · simp only [e1, e2]; exact e

/-! ### the draws -/
def OkN (L : List Int) : Prop := ∀ x ∈ L, 0 ≤ x ∧ x < 1000003
theorem OkN.snoc {L : List Int} {x : Int} (h : OkN L) (h1 : 0 ≤ x) (h2 : x < 1000003) : OkN (L ++ [x]) := fun y hy => by
  rcases List.mem_append.mp hy with hy | hy
  · exact h y hy
  · rw [List.mem_singleton.mp hy]; exact ⟨h1, h2⟩
def b1d : FS := sSeq (sSet 4 (fB gAbs (fCons (fB gInt (fCons (fVar 3) (fNil))) (fNil))))
    (sIf (fTest (fBin gGe (fVar 4) (fBin gPow (fC (.int 10)) (fC (.int 18))))) (sFor (fRng1 (fCons (fC (.int 60)) (fNil))) (gN 5) [5] (sIf (fTest (fBin gGt (fVar 4) (fC (.int 0)))) (sSeq (sApp 2 (fBin gMod (fVar 4) (fC (.int 1000003))))
    (sSet 4 (fBin gDiv (fVar 4) (fC (.int 1000003))))) (sNil))) (sSeq (sSet 6 (fBin gMod (fBin gAdd (fBin gAdd (fBin gMul (fVar 4) (fC (.int 48271))) (fBin gMul (fC (.int 7)) (fB gLen (fCons (fVar 2) (fNil))))) (fC (.int 11))) (fC (.int 2147483647))))
    (sFor (fRng1 (fCons (fC (.int 4)) (fNil))) (gN 5) [5] (sSeq (sSet 6 (fBin gMod (fBin gAdd (fBin gAdd (fBin gAdd (fBin gMul (fVar 6) (fC (.int 69621))) (fBin gDiv (fVar 6) (fC (.int 65536)))) (fBin gMul (fC (.int 13)) (fVar 5))) (fC (.int 5))) (fC (.int 2147483629))))
    (sApp 2 (fBin gMod (fBin gDiv (fVar 6) (fC (.int 8))) (fC (.int 1000003))))))))
def b2d : FS := sIf (fTest (fBin gLt (fB gLen (fCons (fVar 2) (fNil))) (fVar 1))) (sSeq (sSet 7 (fC (.int 0)))
    (sSeq (sIf (fTest (fBin gGt (fB gLen (fCons (fVar 2) (fNil))) (fC (.int 0)))) (sSet 7 (fBin gIx (fVar 2) (fBin gMod (fVar 5) (fB gLen (fCons (fVar 2) (fNil)))))) (sNil))
    (sApp 2 (fBin gMod (fBin gAdd (fBin gAdd (fBin gMul (fVar 7) (fC (.int 16807))) (fBin gMul (fC (.int 31)) (fB gLen (fCons (fVar 2) (fNil))))) (fC (.int 17))) (fC (.int 1000003)))))) (sNil)
noncomputable def b_draws (K : PySem.W.Frag) : FS :=
 sSeq (sSet 2 (fLstE 0))
    (sSeq (sFor (fSeqI (fSlK K (fVar 0) (fNoP) (fPart (fC (.int 63))))) (gN 3) [3] b1d)
    (sSeq (sFor (fRng1 (fCons (fVar 1) (fNil))) (gN 5) [5] b2d)
    (sRet (fSl (fVar 2) (fNoP) (fPart (fVar 1))))))
/-- the state of the draws -/
def DI (d m : D) (L : List Int) (ρ : Ev) : Prop := ∃ x3 x4 x5 x6 x7, ρ = [some (d, 0), some (m, 0), some (.lst (L.map .int), 1), x3, x4, x5, x6, x7]
theorem step1a {d m : D} {L : List Int} {n : Int} {x3 x5 x6 x7 : Slot} (hL : OkN L) (hl : L.length < 10000) (h0 : 0 ≤ n) : ∃ L' n', OkN L' ∧ L'.length ≤ L.length + 1 ∧ 0 ≤ n' ∧
    (sIf (fTest (fBin gGt (fVar 4) (fC (.int 0)))) (sSeq (sApp 2 (fBin gMod (fVar 4) (fC (.int 1000003)))) (sSet 4 (fBin gDiv (fVar 4) (fC (.int 1000003))))) (sNil)) [some (d, 0), some (m, 0), some (.lst (L.map .int), 1), x3, some (.int n, 0), x5, x6, x7]
      = .nx [some (d, 0), some (m, 0), some (.lst (L'.map .int), 1), x3, some (.int n', 0), x5, x6, x7] := by
  by_cases hn : 0 < n
  · refine ⟨L ++ [n.fmod 1000003], n.fdiv 1000003, hL.snoc ?_ ?_, by simp, ?_, ?_⟩
    · rw [Int.fmod_eq_emod_of_nonneg _ (by decide)]; omega
    · rw [Int.fmod_eq_emod_of_nonneg _ (by decide)]; omega
    · rw [Int.fdiv_eq_ediv_of_nonneg _ (by decide)]; omega
    · have hz : (L.map D.int).length < sizeLine := by rw [List.length_map]; exact Nat.lt_trans hl (by decide)
      have hd : CDivL n 1000003 := ⟨by decide, .inl (by decide)⟩
      simp [ap_seq, ap_set, ap_ret, ap_retN, ap_retV, rk_some, ap_expr, ap_if, ap_sNil, ap_brk, ap_cnt, ap_for, ap_app, own_some, own_1, own_2, own_3, app_1, app_2, th_nx, th_rt, th_bk, th_ct, st_ok, bd_ok, ap_stE, ap_setT, tk_some, st_nil, st_cons, ap_par, par_eq, ap_rev, rev_1, rev_1', ap_var, vk_some, al_int, al_bl, al_non, al_str, al_0, al_l1, al_l2, al_l2', al_l3', al_t1, al_t2, al_t2', al_t3', ap_c, ap_bin, ap_un, ap_test, tb_bl, ap_notT, ap_andT, ap_orT, ap_andV, ap_orV, ap_notV, ap_ite, ap_chain, ap_isN, ap_nil, ap_cons, ap_B, ap_lst, ap_tup, ap_lstE, ap_sl, ap_slK, ap_noP, ap_part, ti_int, ap_isi, ap_lr1, ap_lr2, ap_revL, ap_index, ap_seqI, ap_rng1, ap_rng2, ap_revI, ap_call, ap_comp, gn_ap, gt_ap, gts_nil, gts_cons, wp_nil, wp_cons, fz_nil, fz_cons, fz_1, fz_some, o_I, o_B, g_addI, g_addL, g_subI, g_mulI, g_divI, g_modI, g_powI, g_negI, g_ltI, g_leI, g_gtI, g_geI, g_cmpI, g_eqI, g_neI, g_ixL, g_ixT, ik_int, ik_str, ik_lst, ix_0, ix_1, ix_2, ix_3, g_len_l, g_len_t, g_absI, g_intI, g_intB, g_max2, g_min2, g_sum, g_slL, g_rev, sq_l, sq_t, dk_rt, dk_nx, List.set_cons_zero, List.set_cons_succ, List.getElem?_cons_zero, List.getElem?_cons_succ, List.append_nil, List.nil_append, if_true, if_false, Bool.false_eq_true, decide_true, decide_false, Bool.not_true, Bool.not_false, List.not_mem_nil, List.mem_cons, or_false, dl0_1, dt0_1, dl0_2, dt0_2, dl0_3, dt0_3, dl0_4, dt0_4, dl0_5, dt0_5, dl0_6, dt0_6, dl0_7, dt0_7, dl0_8, dt0_8, dl0_9, dl0_10, dl0_11, dl0_12, dl0_13, dl0_14, dl0_15, dl0_16, dl0_17, dl0_18, dl0_19, dl0_20, dl0_0, dt0_0, dt_i1, dt_l1i, dl_l1, dl_l1l1, es_0, es_c, hn, hz, hd, -List.length_map]
  · refine ⟨L, n, hL, by omega, h0, ?_⟩
    simp [ap_seq, ap_set, ap_ret, ap_retN, ap_retV, rk_some, ap_expr, ap_if, ap_sNil, ap_brk, ap_cnt, ap_for, ap_app, own_some, own_1, own_2, own_3, app_1, app_2, th_nx, th_rt, th_bk, th_ct, st_ok, bd_ok, ap_stE, ap_setT, tk_some, st_nil, st_cons, ap_par, par_eq, ap_rev, rev_1, rev_1', ap_var, vk_some, al_int, al_bl, al_non, al_str, al_0, al_l1, al_l2, al_l2', al_l3', al_t1, al_t2, al_t2', al_t3', ap_c, ap_bin, ap_un, ap_test, tb_bl, ap_notT, ap_andT, ap_orT, ap_andV, ap_orV, ap_notV, ap_ite, ap_chain, ap_isN, ap_nil, ap_cons, ap_B, ap_lst, ap_tup, ap_lstE, ap_sl, ap_slK, ap_noP, ap_part, ti_int, ap_isi, ap_lr1, ap_lr2, ap_revL, ap_index, ap_seqI, ap_rng1, ap_rng2, ap_revI, ap_call, ap_comp, gn_ap, gt_ap, gts_nil, gts_cons, wp_nil, wp_cons, fz_nil, fz_cons, fz_1, fz_some, o_I, o_B, g_addI, g_addL, g_subI, g_mulI, g_divI, g_modI, g_powI, g_negI, g_ltI, g_leI, g_gtI, g_geI, g_cmpI, g_eqI, g_neI, g_ixL, g_ixT, ik_int, ik_str, ik_lst, ix_0, ix_1, ix_2, ix_3, g_len_l, g_len_t, g_absI, g_intI, g_intB, g_max2, g_min2, g_sum, g_slL, g_rev, sq_l, sq_t, dk_rt, dk_nx, List.set_cons_zero, List.set_cons_succ, List.getElem?_cons_zero, List.getElem?_cons_succ, List.append_nil, List.nil_append, if_true, if_false, Bool.false_eq_true, decide_true, decide_false, Bool.not_true, Bool.not_false, List.not_mem_nil, List.mem_cons, or_false, dl0_1, dt0_1, dl0_2, dt0_2, dl0_3, dt0_3, dl0_4, dt0_4, dl0_5, dt0_5, dl0_6, dt0_6, dl0_7, dt0_7, dl0_8, dt0_8, dl0_9, dl0_10, dl0_11, dl0_12, dl0_13, dl0_14, dl0_15, dl0_16, dl0_17, dl0_18, dl0_19, dl0_20, dl0_0, dt0_0, dt_i1, dt_l1i, dl_l1, dl_l1l1, es_0, es_c, hn]
theorem rgD_len (lo : Int) (n : Nat) : (rgD lo n).length = n := by simp [rgD]
theorem rgD_get {lo : Int} {n i : Nat} {d : D} (h : (rgD lo n)[i]? = some d) : i < n ∧ d = .int (lo + (i : Int)) := by
  unfold rgD at h
  rw [List.getElem?_map] at h
  cases q : (List.range n)[i]? with
  | none => rw [q] at h; cases h
  | some j =>
    rw [q] at h
    obtain ⟨h1, h2⟩ := List.getElem?_eq_some_iff.mp q
    have hn : i < n := by simpa using h1
    have hj : i = j := by simpa using h2
    subst hj
    cases h
    exact ⟨hn, rfl⟩
/-- the lists grow by c in each turn, and what else holds in two slots stays -/
theorem loop4 {body : FS} {d m : D} {L : List Int} {x4 x6 : Slot} {c cnt : Nat} (P : Slot → Slot → Prop) (hL : OkN L) (hl : L.length + cnt * c < 10000) (h0 : P x4 x6)
    (step : ∀ (L : List Int) (x4 x3 x6 x7 : Slot) (i : Nat), OkN L → L.length < 10000 → P x4 x6 → i < cnt → ∃ L' x4' x6', OkN L' ∧ L'.length ≤ L.length + c ∧ P x4' x6' ∧
      body [some (d, 0), some (m, 0), some (.lst (L.map .int), 1), x3, x4, some (.int (i : Int), 0), x6, x7] = .nx [some (d, 0), some (m, 0), some (.lst (L'.map .int), 1), x3, x4', some (.int (i : Int), 0), x6', x7]) (x3 x5 x7 : Slot) (hc : cnt ≤ 1000) :
    ∃ L' x4' x5' x6', OkN L' ∧ L'.length ≤ L.length + cnt * c ∧ P x4' x6' ∧ sFor (fRng1 (fCons (fC (.int (cnt : Int))) (fNil))) (gN 5) [5] body [some (d, 0), some (m, 0), some (.lst (L.map .int), 1), x3, x4, x5, x6, x7]
      = .nx [some (d, 0), some (m, 0), some (.lst (L'.map .int), 1), x3, x4', x5', x6', x7] := by
  obtain ⟨ρ', e, L', x4', x5', x6', h1, h2, h3, rfl⟩ := forL_inv (tg := gN 5) (vs := [5]) (body := body) (ds := rgD 0 cnt) (j := 0)
    (fun j ρ => ∃ L' x4' x5' x6', OkN L' ∧ L'.length ≤ L.length + j * c ∧ P x4' x6' ∧ ρ = [some (d, 0), some (m, 0), some (.lst (L'.map .int), 1), x3, x4', x5', x6', x7]) (ρ := [some (d, 0), some (m, 0), some (.lst (L.map .int), 1), x3, x4, x5, x6, x7])
    ⟨L, x4, x5, x6, hL, by omega, h0, rfl⟩ (fun i e ρ he hi => by
      obtain ⟨hi1, rfl⟩ := rgD_get he
      obtain ⟨L1, y4, y5, y6, h1, h2, h3, rfl⟩ := hi
      rw [Nat.zero_add] at h2
      have hle : i * c + c ≤ cnt * c := by rw [← Nat.succ_mul]; exact Nat.mul_le_mul_right c hi1
      obtain ⟨L2, z4, z6, g1, g2, g3, g4⟩ := step L1 y4 x3 y6 x7 i h1 (by omega) h3 hi1
      refine ⟨_, _, rfl, .inl ?_, L2, z4, some (.int (i : Int), 0), z6, g1, ?_, g3, rfl⟩
      · simpa [ap_seq, ap_set, ap_ret, ap_retN, ap_retV, rk_some, ap_expr, ap_if, ap_sNil, ap_brk, ap_cnt, ap_for, ap_app, own_some, own_1, own_2, own_3, app_1, app_2, th_nx, th_rt, th_bk, th_ct, st_ok, bd_ok, ap_stE, ap_setT, tk_some, st_nil, st_cons, ap_par, par_eq, ap_rev, rev_1, rev_1', ap_var, vk_some, al_int, al_bl, al_non, al_str, al_0, al_l1, al_l2, al_l2', al_l3', al_t1, al_t2, al_t2', al_t3', ap_c, ap_bin, ap_un, ap_test, tb_bl, ap_notT, ap_andT, ap_orT, ap_andV, ap_orV, ap_notV, ap_ite, ap_chain, ap_isN, ap_nil, ap_cons, ap_B, ap_lst, ap_tup, ap_lstE, ap_sl, ap_slK, ap_noP, ap_part, ti_int, ap_isi, ap_lr1, ap_lr2, ap_revL, ap_index, ap_seqI, ap_rng1, ap_rng2, ap_revI, ap_call, ap_comp, gn_ap, gt_ap, gts_nil, gts_cons, wp_nil, wp_cons, fz_nil, fz_cons, fz_1, fz_some, o_I, o_B, g_addI, g_addL, g_subI, g_mulI, g_divI, g_modI, g_powI, g_negI, g_ltI, g_leI, g_gtI, g_geI, g_cmpI, g_eqI, g_neI, g_ixL, g_ixT, ik_int, ik_str, ik_lst, ix_0, ix_1, ix_2, ix_3, g_len_l, g_len_t, g_absI, g_intI, g_intB, g_max2, g_min2, g_sum, g_slL, g_rev, sq_l, sq_t, dk_rt, dk_nx, List.set_cons_zero, List.set_cons_succ, List.getElem?_cons_zero, List.getElem?_cons_succ, List.append_nil, List.nil_append, if_true, if_false, Bool.false_eq_true, decide_true, decide_false, Bool.not_true, Bool.not_false, List.not_mem_nil, List.mem_cons, or_false, dl0_1, dt0_1, dl0_2, dt0_2, dl0_3, dt0_3, dl0_4, dt0_4, dl0_5, dt0_5, dl0_6, dt0_6, dl0_7, dt0_7, dl0_8, dt0_8, dl0_9, dl0_10, dl0_11, dl0_12, dl0_13, dl0_14, dl0_15, dl0_16, dl0_17, dl0_18, dl0_19, dl0_20, dl0_0, dt0_0, dt_i1, dt_l1i, dl_l1, dl_l1l1, es_0, es_c] using g4
      · rw [Nat.zero_add, Nat.succ_mul]; omega)
  rw [rgD_len, Nat.zero_add] at h2
  refine ⟨L', x4', x5', x6', h1, h2, h3, ?_⟩
  have hr : InR (cnt : Int) := InR.of (by omega) (by omega)
  simp only [ap_seq, ap_set, ap_ret, ap_retN, ap_retV, rk_some, ap_expr, ap_if, ap_sNil, ap_brk, ap_cnt, ap_for, ap_app, own_some, own_1, own_2, own_3, app_1, app_2, th_nx, th_rt, th_bk, th_ct, st_ok, bd_ok, ap_stE, ap_setT, tk_some, st_nil, st_cons, ap_par, par_eq, ap_rev, rev_1, rev_1', ap_var, vk_some, al_int, al_bl, al_non, al_str, al_0, al_l1, al_l2, al_l2', al_l3', al_t1, al_t2, al_t2', al_t3', ap_c, ap_bin, ap_un, ap_test, tb_bl, ap_notT, ap_andT, ap_orT, ap_andV, ap_orV, ap_notV, ap_ite, ap_chain, ap_isN, ap_nil, ap_cons, ap_B, ap_lst, ap_tup, ap_lstE, ap_sl, ap_slK, ap_noP, ap_part, ti_int, ap_isi, ap_lr1, ap_lr2, ap_revL, ap_index, ap_seqI, ap_rng1, ap_rng2, ap_revI, ap_call, ap_comp, gn_ap, gt_ap, gts_nil, gts_cons, wp_nil, wp_cons, fz_nil, fz_cons, fz_1, fz_some, o_I, o_B, g_addI, g_addL, g_subI, g_mulI, g_divI, g_modI, g_powI, g_negI, g_ltI, g_leI, g_gtI, g_geI, g_cmpI, g_eqI, g_neI, g_ixL, g_ixT, ik_int, ik_str, ik_lst, ix_0, ix_1, ix_2, ix_3, g_len_l, g_len_t, g_absI, g_intI, g_intB, g_max2, g_min2, g_sum, g_slL, g_rev, sq_l, sq_t, dk_rt, dk_nx, List.set_cons_zero, List.set_cons_succ, List.getElem?_cons_zero, List.getElem?_cons_succ, List.append_nil, List.nil_append, if_true, if_false, Bool.false_eq_true, decide_true, decide_false, Bool.not_true, Bool.not_false, List.not_mem_nil, List.mem_cons, or_false, dl0_1, dt0_1, dl0_2, dt0_2, dl0_3, dt0_3, dl0_4, dt0_4, dl0_5, dt0_5, dl0_6, dt0_6, dl0_7, dt0_7, dl0_8, dt0_8, dl0_9, dl0_10, dl0_11, dl0_12, dl0_13, dl0_14, dl0_15, dl0_16, dl0_17, dl0_18, dl0_19, dl0_20, dl0_0, dt0_0, dt_i1, dt_l1i, dl_l1, dl_l1l1, es_0, es_c, r1_ok hr, Int.toNat_natCast]
  exact e
theorem CMulL_of {i j : Int} (h : i.natAbs.log2 + j.natAbs.log2 < 1000) : CMulL i j := by unfold CMulL; omega
theorem log2_lt {n k : Nat} (h : n < 2 ^ k) (hk : 0 < k) : n.log2 < k := by
  by_cases hn : n = 0
  · subst hn; exact hk
  · exact (Nat.log2_lt hn).mpr h
theorem step1b {d m : D} {L : List Int} {y : Int} {x3 x4 x7 : Slot} {i : Nat} (hL : OkN L) (hl : L.length < 10000) (h0 : 0 ≤ y) (h1 : y < 2147483647) (hi : i < 4) : ∃ L' y', OkN L' ∧ L'.length ≤ L.length + 1 ∧ 0 ≤ y' ∧ y' < 2147483647 ∧
    (sSeq (sSet 6 (fBin gMod (fBin gAdd (fBin gAdd (fBin gAdd (fBin gMul (fVar 6) (fC (.int 69621))) (fBin gDiv (fVar 6) (fC (.int 65536)))) (fBin gMul (fC (.int 13)) (fVar 5))) (fC (.int 5))) (fC (.int 2147483629))))
    (sApp 2 (fBin gMod (fBin gDiv (fVar 6) (fC (.int 8))) (fC (.int 1000003))))) [some (d, 0), some (m, 0), some (.lst (L.map .int), 1), x3, x4, some (.int (i : Int), 0), some (.int y, 0), x7]
      = .nx [some (d, 0), some (m, 0), some (.lst (L'.map .int), 1), x3, x4, some (.int (i : Int), 0), some (.int y', 0), x7] := by
  have hz : (L.map D.int).length < sizeLine := by rw [List.length_map]; exact Nat.lt_trans hl (by decide)
  have hd : CDivL y 65536 := ⟨by decide, .inl (by decide)⟩
  have hm : CMulL y 69621 := CMulL_of (by
    have := log2_lt (n := y.natAbs) (k := 32) (by omega) (by decide)
    have : (69621 : Int).natAbs.log2 = 16 := by decide
    omega)
  have hm2 : CMulL 13 (i : Int) := CMulL_of (by
    have := log2_lt (n := (i : Int).natAbs) (k := 2) (by omega) (by decide)
    have : (13 : Int).natAbs.log2 = 3 := by decide
    omega)
  generalize hw : (y * 69621 + y.fdiv 65536 + 13 * (i : Int) + 5).fmod 2147483629 = w
  have b1 : 0 ≤ w ∧ w < 2147483629 := by
    rw [← hw, Int.fmod_eq_emod_of_nonneg _ (by decide)]; omega
  have hd2 : CDivL w 8 := ⟨by decide, .inl (by decide)⟩
  refine ⟨L ++ [(w.fdiv 8).fmod 1000003], w, hL.snoc ?_ ?_, by simp, b1.1, by omega, ?_⟩
  · rw [Int.fmod_eq_emod_of_nonneg _ (by decide)]; omega
  · rw [Int.fmod_eq_emod_of_nonneg _ (by decide)]; omega
  · simp [ap_seq, ap_set, ap_ret, ap_retN, ap_retV, rk_some, ap_expr, ap_if, ap_sNil, ap_brk, ap_cnt, ap_for, ap_app, own_some, own_1, own_2, own_3, app_1, app_2, th_nx, th_rt, th_bk, th_ct, st_ok, bd_ok, ap_stE, ap_setT, tk_some, st_nil, st_cons, ap_par, par_eq, ap_rev, rev_1, rev_1', ap_var, vk_some, al_int, al_bl, al_non, al_str, al_0, al_l1, al_l2, al_l2', al_l3', al_t1, al_t2, al_t2', al_t3', ap_c, ap_bin, ap_un, ap_test, tb_bl, ap_notT, ap_andT, ap_orT, ap_andV, ap_orV, ap_notV, ap_ite, ap_chain, ap_isN, ap_nil, ap_cons, ap_B, ap_lst, ap_tup, ap_lstE, ap_sl, ap_slK, ap_noP, ap_part, ti_int, ap_isi, ap_lr1, ap_lr2, ap_revL, ap_index, ap_seqI, ap_rng1, ap_rng2, ap_revI, ap_call, ap_comp, gn_ap, gt_ap, gts_nil, gts_cons, wp_nil, wp_cons, fz_nil, fz_cons, fz_1, fz_some, o_I, o_B, g_addI, g_addL, g_subI, g_mulI, g_divI, g_modI, g_powI, g_negI, g_ltI, g_leI, g_gtI, g_geI, g_cmpI, g_eqI, g_neI, g_ixL, g_ixT, ik_int, ik_str, ik_lst, ix_0, ix_1, ix_2, ix_3, g_len_l, g_len_t, g_absI, g_intI, g_intB, g_max2, g_min2, g_sum, g_slL, g_rev, sq_l, sq_t, dk_rt, dk_nx, List.set_cons_zero, List.set_cons_succ, List.getElem?_cons_zero, List.getElem?_cons_succ, List.append_nil, List.nil_append, if_true, if_false, Bool.false_eq_true, decide_true, decide_false, Bool.not_true, Bool.not_false, List.not_mem_nil, List.mem_cons, or_false, dl0_1, dt0_1, dl0_2, dt0_2, dl0_3, dt0_3, dl0_4, dt0_4, dl0_5, dt0_5, dl0_6, dt0_6, dl0_7, dt0_7, dl0_8, dt0_8, dl0_9, dl0_10, dl0_11, dl0_12, dl0_13, dl0_14, dl0_15, dl0_16, dl0_17, dl0_18, dl0_19, dl0_20, dl0_0, dt0_0, dt_i1, dt_l1i, dl_l1, dl_l1l1, es_0, es_c, hz, hd, hd2, hm, hm2, hw, -List.length_map]
theorem step1 {d m : D} {L : List Int} {c : Int} {x4 x5 x6 x7 : Slot} (hL : OkN L) (hl : L.length < 4000) : ∃ L' x4' x5' x6', OkN L' ∧ L'.length ≤ L.length + 60 ∧
    b1d [some (d, 0), some (m, 0), some (.lst (L.map .int), 1), some (.int c, 0), x4, x5, x6, x7] = .nx [some (d, 0), some (m, 0), some (.lst (L'.map .int), 1), some (.int c, 0), x4', x5', x6', x7] := by
  generalize hn : (if c < 0 then -c else c) = n
  have n0 : 0 ≤ n := by rw [← hn]; split <;> omega
  have hp : CPow 10 18 := by decide
  by_cases hb : (10 : Int) ^ 18 ≤ n
  · obtain ⟨L', x4', x5', x6', h1, h2, h3, h4⟩ := loop4 (d := d) (m := m) (L := L) (x4 := some (.int n, 0)) (x6 := x6) (c := 1) (cnt := 60) (fun s _ => ∃ n : Int, 0 ≤ n ∧ s = some (.int n, 0)) hL (by omega) ⟨n, n0, rfl⟩
      (fun L x4 x3 x6 x7 i hL hl h hi => by
        obtain ⟨n, hn, rfl⟩ := h
        obtain ⟨L', n', g1, g2, g3, g4⟩ := step1a (d := d) (m := m) (x3 := x3) (x5 := some (.int (i : Int), 0)) (x6 := x6) (x7 := x7) hL hl hn
        exact ⟨L', _, x6, g1, g2, ⟨n', g3, rfl⟩, g4⟩) (some (.int c, 0)) x5 x7 (by decide)
    refine ⟨L', x4', x5', x6', h1, by omega, ?_⟩
    have hb' : decide ((10 : Int) ^ 18 ≤ n) = true := decide_eq_true hb
    rw [show (18 : Nat) = (18 : Int).toNat from rfl] at hb'
    simp only [ap_seq, ap_set, ap_ret, ap_retN, ap_retV, rk_some, ap_expr, ap_if, ap_sNil, ap_brk, ap_cnt, ap_for, ap_app, own_some, own_1, own_2, own_3, app_1, app_2, th_nx, th_rt, th_bk, th_ct, st_ok, bd_ok, ap_stE, ap_setT, tk_some, st_nil, st_cons, ap_par, par_eq, ap_rev, rev_1, rev_1', ap_var, vk_some, al_int, al_bl, al_non, al_str, al_0, al_l1, al_l2, al_l2', al_l3', al_t1, al_t2, al_t2', al_t3', ap_c, ap_bin, ap_un, ap_test, tb_bl, ap_notT, ap_andT, ap_orT, ap_andV, ap_orV, ap_notV, ap_ite, ap_chain, ap_isN, ap_nil, ap_cons, ap_B, ap_lst, ap_tup, ap_lstE, ap_sl, ap_slK, ap_noP, ap_part, ti_int, ap_isi, ap_lr1, ap_lr2, ap_revL, ap_index, ap_seqI, ap_rng1, ap_rng2, ap_revI, ap_call, ap_comp, gn_ap, gt_ap, gts_nil, gts_cons, wp_nil, wp_cons, fz_nil, fz_cons, fz_1, fz_some, o_I, o_B, g_addI, g_addL, g_subI, g_mulI, g_divI, g_modI, g_powI, g_negI, g_ltI, g_leI, g_gtI, g_geI, g_cmpI, g_eqI, g_neI, g_ixL, g_ixT, ik_int, ik_str, ik_lst, ix_0, ix_1, ix_2, ix_3, g_len_l, g_len_t, g_absI, g_intI, g_intB, g_max2, g_min2, g_sum, g_slL, g_rev, sq_l, sq_t, dk_rt, dk_nx, List.set_cons_zero, List.set_cons_succ, List.getElem?_cons_zero, List.getElem?_cons_succ, List.append_nil, List.nil_append, if_true, if_false, Bool.false_eq_true, decide_true, decide_false, Bool.not_true, Bool.not_false, List.not_mem_nil, List.mem_cons, or_false, dl0_1, dt0_1, dl0_2, dt0_2, dl0_3, dt0_3, dl0_4, dt0_4, dl0_5, dt0_5, dl0_6, dt0_6, dl0_7, dt0_7, dl0_8, dt0_8, dl0_9, dl0_10, dl0_11, dl0_12, dl0_13, dl0_14, dl0_15, dl0_16, dl0_17, dl0_18, dl0_19, dl0_20, dl0_0, dt0_0, dt_i1, dt_l1i, dl_l1, dl_l1l1, es_0, es_c, b1d, hn, hp, hb']
    simp only [ap_seq, ap_set, ap_ret, ap_retN, ap_retV, rk_some, ap_expr, ap_if, ap_sNil, ap_brk, ap_cnt, ap_for, ap_app, own_some, own_1, own_2, own_3, app_1, app_2, th_nx, th_rt, th_bk, th_ct, st_ok, bd_ok, ap_stE, ap_setT, tk_some, st_nil, st_cons, ap_par, par_eq, ap_rev, rev_1, rev_1', ap_var, vk_some, al_int, al_bl, al_non, al_str, al_0, al_l1, al_l2, al_l2', al_l3', al_t1, al_t2, al_t2', al_t3', ap_c, ap_bin, ap_un, ap_test, tb_bl, ap_notT, ap_andT, ap_orT, ap_andV, ap_orV, ap_notV, ap_ite, ap_chain, ap_isN, ap_nil, ap_cons, ap_B, ap_lst, ap_tup, ap_lstE, ap_sl, ap_slK, ap_noP, ap_part, ti_int, ap_isi, ap_lr1, ap_lr2, ap_revL, ap_index, ap_seqI, ap_rng1, ap_rng2, ap_revI, ap_call, ap_comp, gn_ap, gt_ap, gts_nil, gts_cons, wp_nil, wp_cons, fz_nil, fz_cons, fz_1, fz_some, o_I, o_B, g_addI, g_addL, g_subI, g_mulI, g_divI, g_modI, g_powI, g_negI, g_ltI, g_leI, g_gtI, g_geI, g_cmpI, g_eqI, g_neI, g_ixL, g_ixT, ik_int, ik_str, ik_lst, ix_0, ix_1, ix_2, ix_3, g_len_l, g_len_t, g_absI, g_intI, g_intB, g_max2, g_min2, g_sum, g_slL, g_rev, sq_l, sq_t, dk_rt, dk_nx, List.set_cons_zero, List.set_cons_succ, List.getElem?_cons_zero, List.getElem?_cons_succ, List.append_nil, List.nil_append, if_true, if_false, Bool.false_eq_true, decide_true, decide_false, Bool.not_true, Bool.not_false, List.not_mem_nil, List.mem_cons, or_false, dl0_1, dt0_1, dl0_2, dt0_2, dl0_3, dt0_3, dl0_4, dt0_4, dl0_5, dt0_5, dl0_6, dt0_6, dl0_7, dt0_7, dl0_8, dt0_8, dl0_9, dl0_10, dl0_11, dl0_12, dl0_13, dl0_14, dl0_15, dl0_16, dl0_17, dl0_18, dl0_19, dl0_20, dl0_0, dt0_0, dt_i1, dt_l1i, dl_l1, dl_l1l1, es_0, es_c] at h4
    exact h4
  · have hm : CMulL n 48271 := CMulL_of (by
      have : (10 : Int) ^ 18 = 1000000000000000000 := by decide
      have := log2_lt (n := n.natAbs) (k := 64) (by
        have : (2 : Nat) ^ 64 = 18446744073709551616 := by decide
        omega) (by decide)
      have : (48271 : Int).natAbs.log2 = 15 := by decide
      omega)
    have hm2 : CMulL 7 ((L.map D.int).length : Int) := CMulL_of (by
      have := log2_lt (n := ((L.map D.int).length : Int).natAbs) (k := 13) (by rw [List.length_map]; omega) (by decide)
      have : (7 : Int).natAbs.log2 = 2 := by decide
      omega)
    generalize hw : (n * 48271 + 7 * ((L.map D.int).length : Int) + 11).fmod 2147483647 = w
    have b1 : 0 ≤ w ∧ w < 2147483647 := by
      rw [← hw, Int.fmod_eq_emod_of_nonneg _ (by decide)]; omega
    obtain ⟨L', x4', x5', x6', h1, h2, h3, h4⟩ := loop4 (d := d) (m := m) (L := L) (x4 := some (.int n, 0)) (x6 := some (.int w, 0)) (c := 1) (cnt := 4) (fun _ s => ∃ n : Int, 0 ≤ n ∧ n < 2147483647 ∧ s = some (.int n, 0)) hL (by omega) ⟨w, b1.1, b1.2, rfl⟩
      (fun L x4 x3 x6 x7 i hL hl h hi => by
        obtain ⟨n, hn, hn', rfl⟩ := h
        obtain ⟨L', n', g1, g2, g3, g4, g5⟩ := step1b (d := d) (m := m) (x3 := x3) (x4 := x4) (x7 := x7) hL hl hn hn' hi
        exact ⟨L', _, _, g1, g2, ⟨n', g3, g4, rfl⟩, g5⟩) (some (.int c, 0)) x5 x7 (by decide)
    refine ⟨L', x4', x5', x6', h1, by omega, ?_⟩
    have hb' : decide ((10 : Int) ^ 18 ≤ n) = false := decide_eq_false hb
    rw [show (18 : Nat) = (18 : Int).toNat from rfl] at hb'
    have z : (2147483647 : Int) ≠ 0 := by decide
    simp only [ap_seq, ap_set, ap_ret, ap_retN, ap_retV, rk_some, ap_expr, ap_if, ap_sNil, ap_brk, ap_cnt, ap_for, ap_app, own_some, own_1, own_2, own_3, app_1, app_2, th_nx, th_rt, th_bk, th_ct, st_ok, bd_ok, ap_stE, ap_setT, tk_some, st_nil, st_cons, ap_par, par_eq, ap_rev, rev_1, rev_1', ap_var, vk_some, al_int, al_bl, al_non, al_str, al_0, al_l1, al_l2, al_l2', al_l3', al_t1, al_t2, al_t2', al_t3', ap_c, ap_bin, ap_un, ap_test, tb_bl, ap_notT, ap_andT, ap_orT, ap_andV, ap_orV, ap_notV, ap_ite, ap_chain, ap_isN, ap_nil, ap_cons, ap_B, ap_lst, ap_tup, ap_lstE, ap_sl, ap_slK, ap_noP, ap_part, ti_int, ap_isi, ap_lr1, ap_lr2, ap_revL, ap_index, ap_seqI, ap_rng1, ap_rng2, ap_revI, ap_call, ap_comp, gn_ap, gt_ap, gts_nil, gts_cons, wp_nil, wp_cons, fz_nil, fz_cons, fz_1, fz_some, o_I, o_B, g_addI, g_addL, g_subI, g_mulI, g_divI, g_modI, g_powI, g_negI, g_ltI, g_leI, g_gtI, g_geI, g_cmpI, g_eqI, g_neI, g_ixL, g_ixT, ik_int, ik_str, ik_lst, ix_0, ix_1, ix_2, ix_3, g_len_l, g_len_t, g_absI, g_intI, g_intB, g_max2, g_min2, g_sum, g_slL, g_rev, sq_l, sq_t, dk_rt, dk_nx, List.set_cons_zero, List.set_cons_succ, List.getElem?_cons_zero, List.getElem?_cons_succ, List.append_nil, List.nil_append, if_true, if_false, Bool.false_eq_true, decide_true, decide_false, Bool.not_true, Bool.not_false, List.not_mem_nil, List.mem_cons, or_false, dl0_1, dt0_1, dl0_2, dt0_2, dl0_3, dt0_3, dl0_4, dt0_4, dl0_5, dt0_5, dl0_6, dt0_6, dl0_7, dt0_7, dl0_8, dt0_8, dl0_9, dl0_10, dl0_11, dl0_12, dl0_13, dl0_14, dl0_15, dl0_16, dl0_17, dl0_18, dl0_19, dl0_20, dl0_0, dt0_0, dt_i1, dt_l1i, dl_l1, dl_l1l1, es_0, es_c, b1d, hn, hp, hb', hm, hm2, hw, z]
    simp only [ap_seq, ap_set, ap_ret, ap_retN, ap_retV, rk_some, ap_expr, ap_if, ap_sNil, ap_brk, ap_cnt, ap_for, ap_app, own_some, own_1, own_2, own_3, app_1, app_2, th_nx, th_rt, th_bk, th_ct, st_ok, bd_ok, ap_stE, ap_setT, tk_some, st_nil, st_cons, ap_par, par_eq, ap_rev, rev_1, rev_1', ap_var, vk_some, al_int, al_bl, al_non, al_str, al_0, al_l1, al_l2, al_l2', al_l3', al_t1, al_t2, al_t2', al_t3', ap_c, ap_bin, ap_un, ap_test, tb_bl, ap_notT, ap_andT, ap_orT, ap_andV, ap_orV, ap_notV, ap_ite, ap_chain, ap_isN, ap_nil, ap_cons, ap_B, ap_lst, ap_tup, ap_lstE, ap_sl, ap_slK, ap_noP, ap_part, ti_int, ap_isi, ap_lr1, ap_lr2, ap_revL, ap_index, ap_seqI, ap_rng1, ap_rng2, ap_revI, ap_call, ap_comp, gn_ap, gt_ap, gts_nil, gts_cons, wp_nil, wp_cons, fz_nil, fz_cons, fz_1, fz_some, o_I, o_B, g_addI, g_addL, g_subI, g_mulI, g_divI, g_modI, g_powI, g_negI, g_ltI, g_leI, g_gtI, g_geI, g_cmpI, g_eqI, g_neI, g_ixL, g_ixT, ik_int, ik_str, ik_lst, ix_0, ix_1, ix_2, ix_3, g_len_l, g_len_t, g_absI, g_intI, g_intB, g_max2, g_min2, g_sum, g_slL, g_rev, sq_l, sq_t, dk_rt, dk_nx, List.set_cons_zero, List.set_cons_succ, List.getElem?_cons_zero, List.getElem?_cons_succ, List.append_nil, List.nil_append, if_true, if_false, Bool.false_eq_true, decide_true, decide_false, Bool.not_true, Bool.not_false, List.not_mem_nil, List.mem_cons, or_false, dl0_1, dt0_1, dl0_2, dt0_2, dl0_3, dt0_3, dl0_4, dt0_4, dl0_5, dt0_5, dl0_6, dt0_6, dl0_7, dt0_7, dl0_8, dt0_8, dl0_9, dl0_10, dl0_11, dl0_12, dl0_13, dl0_14, dl0_15, dl0_16, dl0_17, dl0_18, dl0_19, dl0_20, dl0_0, dt0_0, dt_i1, dt_l1i, dl_l1, dl_l1l1, es_0, es_c] at h4
    exact h4
theorem atI_int {L : List Int} {z : Int} (h0 : 0 ≤ z) (h1 : z < L.length) : atI (L.map D.int) z = some (.int (L.getD z.toNat 0)) := by
  obtain ⟨j, rfl⟩ := Int.eq_ofNat_of_zero_le h0
  have hj : j < L.length := by omega
  refine atI_nat ?_
  rw [List.getElem?_map, List.getElem?_eq_getElem hj, Int.toNat_natCast]
  simp [List.getD, List.getElem?_eq_getElem hj]
theorem OkN.getD {L : List Int} (h : OkN L) (j : Nat) : 0 ≤ L.getD j 0 ∧ L.getD j 0 < 1000003 := by
  by_cases hj : j < L.length
  · simp only [List.getD, List.getElem?_eq_getElem hj, Option.getD_some]
    exact h _ (List.getElem_mem hj)
  · simp only [List.getD, List.getElem?_eq_none (Nat.le_of_not_lt hj), Option.getD_none]
    decide
/-- the second loop -/
theorem step2 {d : D} {m : Nat} {L : List Int} {x3 x4 x6 x7 : Slot} {i : Nat} (hL : OkN L) (hl : L.length < 10000) (hi : i < m) (hm : m ≤ 1000) (hLi : i ≤ L.length) : ∃ L' x7', OkN L' ∧ L'.length ≤ L.length + 1 ∧ i + 1 ≤ L'.length ∧
    b2d [some (d, 0), some (.int (m : Int), 0), some (.lst (L.map .int), 1), x3, x4, some (.int (i : Int), 0), x6, x7] = .nx [some (d, 0), some (.int (m : Int), 0), some (.lst (L'.map .int), 1), x3, x4, some (.int (i : Int), 0), x6, x7'] := by
  by_cases hb : L.length < m
  · have hb' : decide (((L.map D.int).length : Int) < (m : Int)) = true := decide_eq_true (by rw [List.length_map]; omega)
    have hz : (L.map D.int).length < sizeLine := by rw [List.length_map]; exact Nat.lt_trans hl (by decide)
    have h31 : CMulL 31 ((L.map D.int).length : Int) := CMulL_of (by
      have := log2_lt (n := ((L.map D.int).length : Int).natAbs) (k := 14) (by rw [List.length_map]; omega) (by decide)
      have : (31 : Int).natAbs.log2 = 4 := by decide
      omega)
    have zz : (1000003 : Int) ≠ 0 := by decide
    have fin : ∀ y : Int, 0 ≤ y → y < 1000003 → CMulL y 16807 ∧ 0 ≤ (y * 16807 + 31 * ((L.map D.int).length : Int) + 17).fmod 1000003 ∧ (y * 16807 + 31 * ((L.map D.int).length : Int) + 17).fmod 1000003 < 1000003 := fun y h0 h1 => by
      refine ⟨CMulL_of (by
        have := log2_lt (n := y.natAbs) (k := 20) (by omega) (by decide)
        have : (16807 : Int).natAbs.log2 = 14 := by decide
        omega), ?_, ?_⟩
      · rw [Int.fmod_eq_emod_of_nonneg _ (by decide)]; omega
      · rw [Int.fmod_eq_emod_of_nonneg _ (by decide)]; omega
    by_cases h0 : 0 < L.length
    · have h0' : decide ((0 : Int) < ((L.map D.int).length : Int)) = true := decide_eq_true (by rw [List.length_map]; omega)
      have hne : ((L.map D.int).length : Int) ≠ 0 := by rw [List.length_map]; omega
      have hix : atI (L.map D.int) ((i : Int).fmod ((L.map D.int).length : Int)) = some (.int (L.getD ((i : Int).fmod ((L.map D.int).length : Int)).toNat 0)) := by
        rw [List.length_map, Int.fmod_eq_emod_of_nonneg _ (by omega)]
        exact atI_int (Int.emod_nonneg _ (by omega)) (Int.emod_lt_of_pos _ (by omega))
      obtain ⟨y0, y1⟩ := hL.getD ((i : Int).fmod ((L.map D.int).length : Int)).toNat
      generalize hy : L.getD ((i : Int).fmod ((L.map D.int).length : Int)).toNat 0 = y at hix y0 y1
      obtain ⟨f1, f2, f3⟩ := fin y y0 y1
      refine ⟨L ++ [(y * 16807 + 31 * ((L.map D.int).length : Int) + 17).fmod 1000003], some (.int y, 0), hL.snoc f2 f3, by simp, by simp; omega, ?_⟩
      simp only [ap_seq, ap_set, ap_ret, ap_retN, ap_retV, rk_some, ap_expr, ap_if, ap_sNil, ap_brk, ap_cnt, ap_for, ap_app, own_some, own_1, own_2, own_3, app_1, app_2, th_nx, th_rt, th_bk, th_ct, st_ok, bd_ok, ap_stE, ap_setT, tk_some, st_nil, st_cons, ap_par, par_eq, ap_rev, rev_1, rev_1', ap_var, vk_some, al_int, al_bl, al_non, al_str, al_0, al_l1, al_l2, al_l2', al_l3', al_t1, al_t2, al_t2', al_t3', ap_c, ap_bin, ap_un, ap_test, tb_bl, ap_notT, ap_andT, ap_orT, ap_andV, ap_orV, ap_notV, ap_ite, ap_chain, ap_isN, ap_nil, ap_cons, ap_B, ap_lst, ap_tup, ap_lstE, ap_sl, ap_slK, ap_noP, ap_part, ti_int, ap_isi, ap_lr1, ap_lr2, ap_revL, ap_index, ap_seqI, ap_rng1, ap_rng2, ap_revI, ap_call, ap_comp, gn_ap, gt_ap, gts_nil, gts_cons, wp_nil, wp_cons, fz_nil, fz_cons, fz_1, fz_some, o_I, o_B, g_addI, g_addL, g_subI, g_mulI, g_divI, g_modI, g_powI, g_negI, g_ltI, g_leI, g_gtI, g_geI, g_cmpI, g_eqI, g_neI, g_ixL, g_ixT, ik_int, ik_str, ik_lst, ix_0, ix_1, ix_2, ix_3, g_len_l, g_len_t, g_absI, g_intI, g_intB, g_max2, g_min2, g_sum, g_slL, g_rev, sq_l, sq_t, dk_rt, dk_nx, List.set_cons_zero, List.set_cons_succ, List.getElem?_cons_zero, List.getElem?_cons_succ, List.append_nil, List.nil_append, if_true, if_false, Bool.false_eq_true, decide_true, decide_false, Bool.not_true, Bool.not_false, List.not_mem_nil, List.mem_cons, or_false, dl0_1, dt0_1, dl0_2, dt0_2, dl0_3, dt0_3, dl0_4, dt0_4, dl0_5, dt0_5, dl0_6, dt0_6, dl0_7, dt0_7, dl0_8, dt0_8, dl0_9, dl0_10, dl0_11, dl0_12, dl0_13, dl0_14, dl0_15, dl0_16, dl0_17, dl0_18, dl0_19, dl0_20, dl0_0, dt0_0, dt_i1, dt_l1i, dl_l1, dl_l1l1, es_0, es_c, b2d, hb', h0', hne, hix, h31, hz, zz, f1, ne_eq, not_false_eq_true, List.map_append, List.map_cons, List.map_nil]
    · have h0' : decide ((0 : Int) < ((L.map D.int).length : Int)) = false := decide_eq_false (by rw [List.length_map]; omega)
      obtain ⟨f1, f2, f3⟩ := fin 0 (by decide) (by decide)
      refine ⟨L ++ [(0 * 16807 + 31 * ((L.map D.int).length : Int) + 17).fmod 1000003], some (.int 0, 0), hL.snoc f2 f3, by simp, by simp; omega, ?_⟩
      simp only [ap_seq, ap_set, ap_ret, ap_retN, ap_retV, rk_some, ap_expr, ap_if, ap_sNil, ap_brk, ap_cnt, ap_for, ap_app, own_some, own_1, own_2, own_3, app_1, app_2, th_nx, th_rt, th_bk, th_ct, st_ok, bd_ok, ap_stE, ap_setT, tk_some, st_nil, st_cons, ap_par, par_eq, ap_rev, rev_1, rev_1', ap_var, vk_some, al_int, al_bl, al_non, al_str, al_0, al_l1, al_l2, al_l2', al_l3', al_t1, al_t2, al_t2', al_t3', ap_c, ap_bin, ap_un, ap_test, tb_bl, ap_notT, ap_andT, ap_orT, ap_andV, ap_orV, ap_notV, ap_ite, ap_chain, ap_isN, ap_nil, ap_cons, ap_B, ap_lst, ap_tup, ap_lstE, ap_sl, ap_slK, ap_noP, ap_part, ti_int, ap_isi, ap_lr1, ap_lr2, ap_revL, ap_index, ap_seqI, ap_rng1, ap_rng2, ap_revI, ap_call, ap_comp, gn_ap, gt_ap, gts_nil, gts_cons, wp_nil, wp_cons, fz_nil, fz_cons, fz_1, fz_some, o_I, o_B, g_addI, g_addL, g_subI, g_mulI, g_divI, g_modI, g_powI, g_negI, g_ltI, g_leI, g_gtI, g_geI, g_cmpI, g_eqI, g_neI, g_ixL, g_ixT, ik_int, ik_str, ik_lst, ix_0, ix_1, ix_2, ix_3, g_len_l, g_len_t, g_absI, g_intI, g_intB, g_max2, g_min2, g_sum, g_slL, g_rev, sq_l, sq_t, dk_rt, dk_nx, List.set_cons_zero, List.set_cons_succ, List.getElem?_cons_zero, List.getElem?_cons_succ, List.append_nil, List.nil_append, if_true, if_false, Bool.false_eq_true, decide_true, decide_false, Bool.not_true, Bool.not_false, List.not_mem_nil, List.mem_cons, or_false, dl0_1, dt0_1, dl0_2, dt0_2, dl0_3, dt0_3, dl0_4, dt0_4, dl0_5, dt0_5, dl0_6, dt0_6, dl0_7, dt0_7, dl0_8, dt0_8, dl0_9, dl0_10, dl0_11, dl0_12, dl0_13, dl0_14, dl0_15, dl0_16, dl0_17, dl0_18, dl0_19, dl0_20, dl0_0, dt0_0, dt_i1, dt_l1i, dl_l1, dl_l1l1, es_0, es_c, b2d, hb', h0', h31, hz, zz, f1, ne_eq, not_false_eq_true, List.map_append, List.map_cons, List.map_nil]
  · have hb' : decide (((L.map D.int).length : Int) < (m : Int)) = false := decide_eq_false (by rw [List.length_map]; omega)
    refine ⟨L, x7, hL, by omega, by omega, ?_⟩
    simp only [ap_seq, ap_set, ap_ret, ap_retN, ap_retV, rk_some, ap_expr, ap_if, ap_sNil, ap_brk, ap_cnt, ap_for, ap_app, own_some, own_1, own_2, own_3, app_1, app_2, th_nx, th_rt, th_bk, th_ct, st_ok, bd_ok, ap_stE, ap_setT, tk_some, st_nil, st_cons, ap_par, par_eq, ap_rev, rev_1, rev_1', ap_var, vk_some, al_int, al_bl, al_non, al_str, al_0, al_l1, al_l2, al_l2', al_l3', al_t1, al_t2, al_t2', al_t3', ap_c, ap_bin, ap_un, ap_test, tb_bl, ap_notT, ap_andT, ap_orT, ap_andV, ap_orV, ap_notV, ap_ite, ap_chain, ap_isN, ap_nil, ap_cons, ap_B, ap_lst, ap_tup, ap_lstE, ap_sl, ap_slK, ap_noP, ap_part, ti_int, ap_isi, ap_lr1, ap_lr2, ap_revL, ap_index, ap_seqI, ap_rng1, ap_rng2, ap_revI, ap_call, ap_comp, gn_ap, gt_ap, gts_nil, gts_cons, wp_nil, wp_cons, fz_nil, fz_cons, fz_1, fz_some, o_I, o_B, g_addI, g_addL, g_subI, g_mulI, g_divI, g_modI, g_powI, g_negI, g_ltI, g_leI, g_gtI, g_geI, g_cmpI, g_eqI, g_neI, g_ixL, g_ixT, ik_int, ik_str, ik_lst, ix_0, ix_1, ix_2, ix_3, g_len_l, g_len_t, g_absI, g_intI, g_intB, g_max2, g_min2, g_sum, g_slL, g_rev, sq_l, sq_t, dk_rt, dk_nx, List.set_cons_zero, List.set_cons_succ, List.getElem?_cons_zero, List.getElem?_cons_succ, List.append_nil, List.nil_append, if_true, if_false, Bool.false_eq_true, decide_true, decide_false, Bool.not_true, Bool.not_false, List.not_mem_nil, List.mem_cons, or_false, dl0_1, dt0_1, dl0_2, dt0_2, dl0_3, dt0_3, dl0_4, dt0_4, dl0_5, dt0_5, dl0_6, dt0_6, dl0_7, dt0_7, dl0_8, dt0_8, dl0_9, dl0_10, dl0_11, dl0_12, dl0_13, dl0_14, dl0_15, dl0_16, dl0_17, dl0_18, dl0_19, dl0_20, dl0_0, dt0_0, dt_i1, dt_l1i, dl_l1, dl_l1l1, es_0, es_c, b2d, hb']
theorem cut_take (ds : List D) (m : Nat) : cutD ds none (some (m : Int)) = ds.take m := by
  unfold cutD
  rw [HT.sIx_none, HT.sIx_nat, List.drop_zero, Nat.sub_zero]
  by_cases h : m ≤ ds.length
  · rw [Nat.min_eq_left h]
  · rw [Nat.min_eq_right (by omega), List.take_of_length_le (Nat.le_refl _), List.take_of_length_le (by omega)]
theorem cut_drop (ds : List D) (m : Nat) : cutD ds (some (m : Int)) none = ds.drop m := by
  unfold cutD
  rw [HT.sIx_none, HT.sIx_nat]
  by_cases h : m ≤ ds.length
  · rw [Nat.min_eq_left h, List.take_of_length_le (by rw [List.length_drop]; omega)]
  · rw [Nat.min_eq_right (by omega), List.drop_eq_nil_of_le (by omega : ds.length ≤ m), List.drop_length, List.take_nil]
theorem dr_at {L : List Int} {j : Nat} (h : j < L.length) : atI (L.map D.int) (j : Int) = some (.int (L.getD j 0)) := by
  rw [atI_int (by omega) (by omega), Int.toNat_natCast]
/-- a place by a remainder -/
theorem modNat {a b : Int} (hb : 0 < b) : ∃ n : Nat, a.fmod b = (n : Int) ∧ (n : Int) < b := by
  rw [Int.fmod_eq_emod_of_nonneg _ (by omega)]
  obtain ⟨n, e⟩ := Int.eq_ofNat_of_zero_le (Int.emod_nonneg a (by omega : b ≠ 0))
  exact ⟨n, e, by have := Int.emod_lt_of_pos a hb; omega⟩
theorem atI_mem {ds : List D} {j : Nat} (h : j < ds.length) : ∃ d, atI ds (j : Int) = some d ∧ d ∈ ds := ⟨ds[j], atI_nat (List.getElem?_eq_getElem h), List.getElem_mem h⟩
theorem scr_slice {K : PySem.W.Frag} {ns : List Int} {d : D} (h : ScrD K ns d) : gSlK K ⟨d, 0, [], []⟩ none (some 63) = .ok ⟨.lst ((ns.take 63).map .int), 1, [], []⟩ := by
  have e : cutD (ns.map D.int) none (some 63) = (ns.take 63).map .int := by
    rw [show (63 : Int) = ((63 : Nat) : Int) from rfl, cut_take, List.map_take]
  rcases h with rfl | rfl
  · show gSl ⟨.lst (ns.map .int), 0, [], []⟩ none (some 63) = _
    rw [g_slL, e]
  · unfold gSlK
    simp only [if_true, e]
/-- what the draws are: as many numbers as asked, each below 1000003 -/
theorem draws_ok {K : PySem.W.Frag} {ns : List Int} {d : D} {m : Nat} (h : ScrD K ns d) (hm : m ≤ 1000) : ∃ L : List Int, OkN L ∧ L.length = m ∧ dsem 8 2 (b_draws K) [d, .int (m : Int)] = .ok (.lst (L.map .int), 1) := by
  -- the first loop
  obtain ⟨ρ1, e1, L1, x3, x4, x5, x6, hL1, hl1, rfl⟩ := forL_inv (tg := gN 3) (vs := [3]) (body := b1d) (ds := (ns.take 63).map .int) (j := 0)
    (fun j ρ => ∃ L x3 x4 x5 x6, OkN L ∧ L.length ≤ j * 60 ∧ ρ = [some (d, 0), some (.int (m : Int), 0), some (.lst (L.map .int), 1), x3, x4, x5, x6, none]) (ρ := [some (d, 0), some (.int (m : Int), 0), some (.lst (([] : List Int).map .int), 1), none, none, none, none, none])
    ⟨[], none, none, none, none, (fun x hx => by cases hx), by simp, rfl⟩ (fun i e ρ he hi => by
      obtain ⟨L, x3, x4, x5, x6, hL, hl, rfl⟩ := hi
      have hi63 : i < 63 := by
        have := (List.getElem?_eq_some_iff.mp he).1
        rw [List.length_map, List.length_take] at this
        omega
      rw [List.getElem?_map] at he
      cases q : (ns.take 63)[i]? with
      | none => rw [q] at he; cases he
      | some c =>
        rw [q] at he
        cases he
        obtain ⟨L', x4', x5', x6', g1, g2, g3⟩ := step1 (d := d) (m := .int (m : Int)) (c := c) (x4 := x4) (x5 := x5) (x6 := x6) (x7 := none) hL (by omega)
        exact ⟨_, _, rfl, .inl g3, L', some (.int c, 0), x4', x5', x6', g1, by omega, rfl⟩)
  have hk : (ns.take 63).length ≤ 63 := by rw [List.length_take]; omega
  rw [List.length_map] at hl1
  -- the second
  obtain ⟨ρ2, e2, L2, y5, y7, hL2, hl2, hl3, rfl⟩ := forL_inv (tg := gN 5) (vs := [5]) (body := b2d) (ds := rgD 0 m) (j := 0)
    (fun j ρ => ∃ L x5 x7, OkN L ∧ L.length ≤ 3780 + j ∧ j ≤ L.length ∧ ρ = [some (d, 0), some (.int (m : Int), 0), some (.lst (L.map .int), 1), x3, x4, x5, x6, x7]) (ρ := [some (d, 0), some (.int (m : Int), 0), some (.lst (L1.map .int), 1), x3, x4, x5, x6, none])
    ⟨L1, x5, none, hL1, by omega, Nat.zero_le _, rfl⟩ (fun i e ρ he hi => by
      obtain ⟨hi1, rfl⟩ := rgD_get he
      obtain ⟨L, x5, x7, hL, hl, hli, rfl⟩ := hi
      obtain ⟨L', x7', g1, g2, g3, g4⟩ := step2 (d := d) (m := m) (x3 := x3) (x4 := x4) (x6 := x6) (x7 := x7) (i := i) hL (by omega) hi1 hm (by omega)
      refine ⟨_, _, rfl, .inl ?_, L', some (.int (i : Int), 0), x7', g1, by omega, by omega, rfl⟩
      simpa only [ap_seq, ap_set, ap_ret, ap_retN, ap_retV, rk_some, ap_expr, ap_if, ap_sNil, ap_brk, ap_cnt, ap_for, ap_app, own_some, own_1, own_2, own_3, app_1, app_2, th_nx, th_rt, th_bk, th_ct, st_ok, bd_ok, ap_stE, ap_setT, tk_some, st_nil, st_cons, ap_par, par_eq, ap_rev, rev_1, rev_1', ap_var, vk_some, al_int, al_bl, al_non, al_str, al_0, al_l1, al_l2, al_l2', al_l3', al_t1, al_t2, al_t2', al_t3', ap_c, ap_bin, ap_un, ap_test, tb_bl, ap_notT, ap_andT, ap_orT, ap_andV, ap_orV, ap_notV, ap_ite, ap_chain, ap_isN, ap_nil, ap_cons, ap_B, ap_lst, ap_tup, ap_lstE, ap_sl, ap_slK, ap_noP, ap_part, ti_int, ap_isi, ap_lr1, ap_lr2, ap_revL, ap_index, ap_seqI, ap_rng1, ap_rng2, ap_revI, ap_call, ap_comp, gn_ap, gt_ap, gts_nil, gts_cons, wp_nil, wp_cons, fz_nil, fz_cons, fz_1, fz_some, o_I, o_B, g_addI, g_addL, g_subI, g_mulI, g_divI, g_modI, g_powI, g_negI, g_ltI, g_leI, g_gtI, g_geI, g_cmpI, g_eqI, g_neI, g_ixL, g_ixT, ik_int, ik_str, ik_lst, ix_0, ix_1, ix_2, ix_3, g_len_l, g_len_t, g_absI, g_intI, g_intB, g_max2, g_min2, g_sum, g_slL, g_rev, sq_l, sq_t, dk_rt, dk_nx, List.set_cons_zero, List.set_cons_succ, List.getElem?_cons_zero, List.getElem?_cons_succ, List.append_nil, List.nil_append, if_true, if_false, Bool.false_eq_true, decide_true, decide_false, Bool.not_true, Bool.not_false, List.not_mem_nil, List.mem_cons, or_false, dl0_1, dt0_1, dl0_2, dt0_2, dl0_3, dt0_3, dl0_4, dt0_4, dl0_5, dt0_5, dl0_6, dt0_6, dl0_7, dt0_7, dl0_8, dt0_8, dl0_9, dl0_10, dl0_11, dl0_12, dl0_13, dl0_14, dl0_15, dl0_16, dl0_17, dl0_18, dl0_19, dl0_20, dl0_0, dt0_0, dt_i1, dt_l1i, dl_l1, dl_l1l1, es_0, es_c, Int.zero_add] using g4)
  rw [rgD_len, Nat.zero_add] at hl3
  refine ⟨L2.take m, fun x hx => hL2 x (List.mem_of_mem_take hx), by rw [List.length_take]; omega, ?_⟩
  have hr : InR (m : Int) := InR.of (by omega) (by omega)
  rw [ds_eq (n := 2) rfl]
  unfold b_draws
  simp only [ap_seq, ap_set, ap_ret, ap_retN, ap_retV, rk_some, ap_expr, ap_if, ap_sNil, ap_brk, ap_cnt, ap_for, ap_app, own_some, own_1, own_2, own_3, app_1, app_2, th_nx, th_rt, th_bk, th_ct, st_ok, bd_ok, ap_stE, ap_setT, tk_some, st_nil, st_cons, ap_par, par_eq, ap_rev, rev_1, rev_1', ap_var, vk_some, al_int, al_bl, al_non, al_str, al_0, al_l1, al_l2, al_l2', al_l3', al_t1, al_t2, al_t2', al_t3', ap_c, ap_bin, ap_un, ap_test, tb_bl, ap_notT, ap_andT, ap_orT, ap_andV, ap_orV, ap_notV, ap_ite, ap_chain, ap_isN, ap_nil, ap_cons, ap_B, ap_lst, ap_tup, ap_lstE, ap_sl, ap_slK, ap_noP, ap_part, ti_int, ap_isi, ap_lr1, ap_lr2, ap_revL, ap_index, ap_seqI, ap_rng1, ap_rng2, ap_revI, ap_call, ap_comp, gn_ap, gt_ap, gts_nil, gts_cons, wp_nil, wp_cons, fz_nil, fz_cons, fz_1, fz_some, o_I, o_B, g_addI, g_addL, g_subI, g_mulI, g_divI, g_modI, g_powI, g_negI, g_ltI, g_leI, g_gtI, g_geI, g_cmpI, g_eqI, g_neI, g_ixL, g_ixT, ik_int, ik_str, ik_lst, ix_0, ix_1, ix_2, ix_3, g_len_l, g_len_t, g_absI, g_intI, g_intB, g_max2, g_min2, g_sum, g_slL, g_rev, sq_l, sq_t, dk_rt, dk_nx, List.set_cons_zero, List.set_cons_succ, List.getElem?_cons_zero, List.getElem?_cons_succ, List.append_nil, List.nil_append, if_true, if_false, Bool.false_eq_true, decide_true, decide_false, Bool.not_true, Bool.not_false, List.not_mem_nil, List.mem_cons, or_false, dl0_1, dt0_1, dl0_2, dt0_2, dl0_3, dt0_3, dl0_4, dt0_4, dl0_5, dt0_5, dl0_6, dt0_6, dl0_7, dt0_7, dl0_8, dt0_8, dl0_9, dl0_10, dl0_11, dl0_12, dl0_13, dl0_14, dl0_15, dl0_16, dl0_17, dl0_18, dl0_19, dl0_20, dl0_0, dt0_0, dt_i1, dt_l1i, dl_l1, dl_l1l1, es_0, es_c, List.map_cons, List.map_nil, List.cons_append, List.replicate, Nat.reduceSub, scr_slice h, Nat.zero_add]
  rw [show ([] : List D) = ([] : List Int).map .int from rfl, e1]
  simp only [ap_seq, ap_set, ap_ret, ap_retN, ap_retV, rk_some, ap_expr, ap_if, ap_sNil, ap_brk, ap_cnt, ap_for, ap_app, own_some, own_1, own_2, own_3, app_1, app_2, th_nx, th_rt, th_bk, th_ct, st_ok, bd_ok, ap_stE, ap_setT, tk_some, st_nil, st_cons, ap_par, par_eq, ap_rev, rev_1, rev_1', ap_var, vk_some, al_int, al_bl, al_non, al_str, al_0, al_l1, al_l2, al_l2', al_l3', al_t1, al_t2, al_t2', al_t3', ap_c, ap_bin, ap_un, ap_test, tb_bl, ap_notT, ap_andT, ap_orT, ap_andV, ap_orV, ap_notV, ap_ite, ap_chain, ap_isN, ap_nil, ap_cons, ap_B, ap_lst, ap_tup, ap_lstE, ap_sl, ap_slK, ap_noP, ap_part, ti_int, ap_isi, ap_lr1, ap_lr2, ap_revL, ap_index, ap_seqI, ap_rng1, ap_rng2, ap_revI, ap_call, ap_comp, gn_ap, gt_ap, gts_nil, gts_cons, wp_nil, wp_cons, fz_nil, fz_cons, fz_1, fz_some, o_I, o_B, g_addI, g_addL, g_subI, g_mulI, g_divI, g_modI, g_powI, g_negI, g_ltI, g_leI, g_gtI, g_geI, g_cmpI, g_eqI, g_neI, g_ixL, g_ixT, ik_int, ik_str, ik_lst, ix_0, ix_1, ix_2, ix_3, g_len_l, g_len_t, g_absI, g_intI, g_intB, g_max2, g_min2, g_sum, g_slL, g_rev, sq_l, sq_t, dk_rt, dk_nx, List.set_cons_zero, List.set_cons_succ, List.getElem?_cons_zero, List.getElem?_cons_succ, List.append_nil, List.nil_append, if_true, if_false, Bool.false_eq_true, decide_true, decide_false, Bool.not_true, Bool.not_false, List.not_mem_nil, List.mem_cons, or_false, dl0_1, dt0_1, dl0_2, dt0_2, dl0_3, dt0_3, dl0_4, dt0_4, dl0_5, dt0_5, dl0_6, dt0_6, dl0_7, dt0_7, dl0_8, dt0_8, dl0_9, dl0_10, dl0_11, dl0_12, dl0_13, dl0_14, dl0_15, dl0_16, dl0_17, dl0_18, dl0_19, dl0_20, dl0_0, dt0_0, dt_i1, dt_l1i, dl_l1, dl_l1l1, es_0, es_c, r1_ok hr, Int.toNat_natCast]
  rw [e2]
  simp only [ap_seq, ap_set, ap_ret, ap_retN, ap_retV, rk_some, ap_expr, ap_if, ap_sNil, ap_brk, ap_cnt, ap_for, ap_app, own_some, own_1, own_2, own_3, app_1, app_2, th_nx, th_rt, th_bk, th_ct, st_ok, bd_ok, ap_stE, ap_setT, tk_some, st_nil, st_cons, ap_par, par_eq, ap_rev, rev_1, rev_1', ap_var, vk_some, al_int, al_bl, al_non, al_str, al_0, al_l1, al_l2, al_l2', al_l3', al_t1, al_t2, al_t2', al_t3', ap_c, ap_bin, ap_un, ap_test, tb_bl, ap_notT, ap_andT, ap_orT, ap_andV, ap_orV, ap_notV, ap_ite, ap_chain, ap_isN, ap_nil, ap_cons, ap_B, ap_lst, ap_tup, ap_lstE, ap_sl, ap_slK, ap_noP, ap_part, ti_int, ap_isi, ap_lr1, ap_lr2, ap_revL, ap_index, ap_seqI, ap_rng1, ap_rng2, ap_revI, ap_call, ap_comp, gn_ap, gt_ap, gts_nil, gts_cons, wp_nil, wp_cons, fz_nil, fz_cons, fz_1, fz_some, o_I, o_B, g_addI, g_addL, g_subI, g_mulI, g_divI, g_modI, g_powI, g_negI, g_ltI, g_leI, g_gtI, g_geI, g_cmpI, g_eqI, g_neI, g_ixL, g_ixT, ik_int, ik_str, ik_lst, ix_0, ix_1, ix_2, ix_3, g_len_l, g_len_t, g_absI, g_intI, g_intB, g_max2, g_min2, g_sum, g_slL, g_rev, sq_l, sq_t, dk_rt, dk_nx, List.set_cons_zero, List.set_cons_succ, List.getElem?_cons_zero, List.getElem?_cons_succ, List.append_nil, List.nil_append, if_true, if_false, Bool.false_eq_true, decide_true, decide_false, Bool.not_true, Bool.not_false, List.not_mem_nil, List.mem_cons, or_false, dl0_1, dt0_1, dl0_2, dt0_2, dl0_3, dt0_3, dl0_4, dt0_4, dl0_5, dt0_5, dl0_6, dt0_6, dl0_7, dt0_7, dl0_8, dt0_8, dl0_9, dl0_10, dl0_11, dl0_12, dl0_13, dl0_14, dl0_15, dl0_16, dl0_17, dl0_18, dl0_19, dl0_20, dl0_0, dt0_0, dt_i1, dt_l1i, dl_l1, dl_l1l1, es_0, es_c, cut_take, List.map_take]
end PyL

namespace PyL
open PySem PySem.Spec L2
set_option autoImplicit false

/-! ### equality of data -/
mutual
theorem deq_refl : ∀ (n : Nat) (d : D), pln n d = true → deq d d = true
  | _, .non, _ => rfl
  | _, .bl b, _ => by simp [deq]
  | _, .int i, _ => by simp [deq]
  | _, .str x, _ => by simp [deq]
  | 0, .lst _, h => by simp [pln] at h
  | 0, .tup _, h => by simp [pln] at h
  | n + 1, .lst ds, h => by
    have h : plnL n ds = true := by simpa [pln] using h
    simpa [deq] using deqL_refl n ds h
  | n + 1, .tup ds, h => by
    have h : plnL n ds = true := by simpa [pln] using h
    simpa [deq] using deqL_refl n ds h
  | _, .dK _, h => by simp [pln] at h
  | _, .dT _, h => by simp [pln] at h
  | _, .scr _ _, h => by simp [pln] at h
theorem deqL_refl : ∀ (n : Nat) (ds : List D), plnL n ds = true → deqL ds ds = true
  | _, [], _ => rfl
  | n, d :: ds, h => by
    simp only [plnL, Bool.and_eq_true] at h
    simp [deqL, deq_refl n d h.1, deqL_refl n ds h.2]
end
theorem plnL_of {n : Nat} {ds : List D} (h : ∀ d ∈ ds, pln n d = true) : plnL n ds = true := by
  induction ds with
  | nil => rfl
  | cons d ds ih => simp only [plnL, Bool.and_eq_true]; exact ⟨h d List.mem_cons_self, ih fun d hd => h d (List.mem_cons_of_mem _ hd)⟩
theorem pln_lst {n : Nat} {ds : List D} (h : ∀ d ∈ ds, pln n d = true) : pln (n + 1) (.lst ds) = true := by simpa [pln] using plnL_of h
theorem pln_tup {n : Nat} {ds : List D} (h : ∀ d ∈ ds, pln n d = true) : pln (n + 1) (.tup ds) = true := by simpa [pln] using plnL_of h
/-! ### encodings -/
abbrev eI (ns : List Int) : D := .lst (ns.map .int)
abbrev eM (rows : List (List Int)) : D := .lst (rows.map eI)
theorem pln_int {n : Nat} {i : Int} : pln n (.int i) = true := by cases n <;> rfl
theorem pln_eI {n : Nat} {ns : List Int} : pln (n + 1) (eI ns) = true := pln_lst fun d hd => by
  obtain ⟨i, _, rfl⟩ := List.mem_map.mp hd
  exact pln_int
theorem pln_eM {n : Nat} {rows : List (List Int)} : pln (n + 2) (eM rows) = true := pln_lst fun d hd => by
  obtain ⟨i, _, rfl⟩ := List.mem_map.mp hd
  exact pln_eI
theorem af_eI {n : Nat} {ns : List Int} : af (n + 1) (eI ns) = true := af_lst fun d hd => by
  obtain ⟨i, _, rfl⟩ := List.mem_map.mp hd
  exact af_int
theorem af_eM {rows : List (List Int)} : af 2 (eM rows) = true := af_lst fun d hd => by
  obtain ⟨i, _, rfl⟩ := List.mem_map.mp hd
  exact af_eI
/-- a link: where it begins, where it ends, its weight -/
abbrev Lk := Nat × Nat × Int
abbrev eK (l : Lk) : D := .tup [.int (l.1 : Int), .int (l.2.1 : Int), .int l.2.2]
abbrev eL (ls : List Lk) : D := .lst (ls.map eK)
theorem af_eK {l : Lk} : af 0 (eK l) = true := rfl
theorem af_eL {ls : List Lk} : af 1 (eL ls) = true := af_lst fun d hd => by
  obtain ⟨i, _, rfl⟩ := List.mem_map.mp hd
  rfl
theorem pln_eK {n : Nat} {l : Lk} : pln (n + 1) (eK l) = true := pln_tup fun d hd => by
  simp only [List.mem_cons, List.not_mem_nil, or_false] at hd
  rcases hd with rfl | rfl | rfl <;> exact pln_int
theorem pln_eL {n : Nat} {ls : List Lk} : pln (n + 2) (eL ls) = true := pln_lst fun d hd => by
  obtain ⟨i, _, rfl⟩ := List.mem_map.mp hd
  exact pln_eK

/-! ### vectors over the places -/
def vec (n : Nat) (f : Nat → Int) : List Int := (List.range n).map f
theorem vec_len {n : Nat} {f : Nat → Int} : (vec n f).length = n := by simp [vec]
theorem vec_get {n : Nat} {f : Nat → Int} {i : Nat} (h : i < n) : (vec n f)[i]? = some (f i) := by
  simp [vec, h]
theorem vec_at {n : Nat} {f : Nat → Int} {i : Nat} (h : i < n) : atI ((vec n f).map D.int) (i : Int) = some (.int (f i)) := by
  refine atI_nat ?_
  rw [List.getElem?_map, vec_get h]; rfl
theorem vec_congr {n : Nat} {f g : Nat → Int} (h : ∀ i < n, f i = g i) : vec n f = vec n g := by
  unfold vec
  exact List.map_congr_left fun i hi => h i (List.mem_range.mp hi)
def upd1 (f : Nat → Int) (j : Nat) (x : Int) : Nat → Int := fun i => if i = j then x else f i
theorem vec_set {n : Nat} {f : Nat → Int} {j : Nat} {x : Int} : (vec n f).set j x = vec n (upd1 f j x) := by
  apply List.ext_getElem?
  intro i
  by_cases hi : i < n
  · rw [vec_get hi]
    by_cases hj : j = i
    · subst hj
      rw [List.getElem?_set_self (by rw [vec_len]; exact hi)]
      simp [upd1]
    · rw [List.getElem?_set_ne hj, vec_get hi]
      simp [upd1, Ne.symm hj]
  · rw [List.getElem?_eq_none (by rw [List.length_set, vec_len]; omega), List.getElem?_eq_none (by rw [vec_len]; omega)]
theorem vec_zero {n : Nat} : vec n (fun _ => 0) = List.replicate n 0 := by
  unfold vec
  rw [List.map_const', List.length_range]
def sumN (n : Nat) (f : Nat → Int) : Int := (vec n f).sum
theorem sumN_succ {n : Nat} {f : Nat → Int} : sumN (n + 1) f = sumN n f + f n := by
  unfold sumN vec
  rw [List.range_succ, List.map_append, List.sum_append]
  simp
theorem sumN_zero {f : Nat → Int} : sumN 0 f = 0 := rfl
theorem sumN_congr {n : Nat} {f g : Nat → Int} (h : ∀ i < n, f i = g i) : sumN n f = sumN n g := by unfold sumN; rw [vec_congr h]
theorem sumN_add {n : Nat} {f g : Nat → Int} : sumN n (fun i => f i + g i) = sumN n f + sumN n g := by
  induction n with
  | zero => rfl
  | succ n ih => rw [sumN_succ, sumN_succ, sumN_succ, ih]; omega
theorem sumN_mul {n : Nat} {f : Nat → Int} {c : Int} : sumN n (fun i => f i * c) = sumN n f * c := by
  induction n with
  | zero => simp [sumN_zero]
  | succ n ih => rw [sumN_succ, sumN_succ, ih, Int.add_mul]
theorem sumN_mulL {n : Nat} {f : Nat → Int} {c : Int} : sumN n (fun i => c * f i) = c * sumN n f := by
  induction n with
  | zero => simp [sumN_zero]
  | succ n ih => rw [sumN_succ, sumN_succ, ih, Int.mul_add]
theorem sumN_0 {n : Nat} {f : Nat → Int} (h : ∀ i < n, f i = 0) : sumN n f = 0 := by
  induction n with
  | zero => rfl
  | succ n ih => rw [sumN_succ, ih (fun i hi => h i (by omega)), h n (by omega)]; rfl
theorem sumN_one {n j : Nat} {f : Nat → Int} (hj : j < n) (h : ∀ i < n, i ≠ j → f i = 0) : sumN n f = f j := by
  induction n with
  | zero => omega
  | succ n ih =>
    rw [sumN_succ]
    by_cases hn : n = j
    · subst hn
      rw [sumN_0 fun i hi => h i (by omega) (by omega)]; omega
    · rw [ih (by omega) (fun i hi => h i (by omega)), h n (by omega) hn]; omega
theorem sumN_swap {n m : Nat} {f : Nat → Nat → Int} : sumN n (fun i => sumN m (f i)) = sumN m (fun j => sumN n (fun i => f i j)) := by
  induction n with
  | zero => rw [sumN_zero, sumN_0]; intro i _; rfl
  | succ n ih =>
    rw [sumN_succ, ih, ← sumN_add]
    exact sumN_congr fun j _ => sumN_succ.symm

/-! ### sizes of numbers -/
def Bd (k : Nat) (x : Int) : Prop := x.natAbs < 2 ^ k
theorem Bd.mono {k m : Nat} {x : Int} (h : Bd k x) (hk : k ≤ m) : Bd m x := Nat.lt_of_lt_of_le h (Nat.pow_le_pow_right (by decide) hk)
theorem Bd.mul {k m : Nat} {x y : Int} (h : Bd k x) (h' : Bd m y) : Bd (k + m) (x * y) := by
  unfold Bd at *
  rw [Int.natAbs_mul, Nat.pow_add]
  exact Nat.mul_lt_mul'' h h'
theorem Bd.add {k : Nat} {x y : Int} (h : Bd k x) (h' : Bd k y) : Bd (k + 1) (x + y) := by
  unfold Bd at *
  rw [Nat.pow_succ]
  omega
theorem Bd.zero {k : Nat} : Bd k 0 := Nat.two_pow_pos k
theorem Bd.of {k : Nat} {x : Int} (n : Nat) (h : x.natAbs < n) (hn : n ≤ 2 ^ k) : Bd k x := Nat.lt_of_lt_of_le h hn
theorem Bd.sub {k : Nat} {x y : Int} (h : Bd k x) (h' : Bd k y) : Bd (k + 1) (x - y) := by
  unfold Bd at *
  rw [Nat.pow_succ]
  omega
theorem Bd.log2 {k : Nat} {x : Int} (h : Bd k x) (hk : 0 < k) : x.natAbs.log2 < k := log2_lt h hk
theorem Bd.mulOk {k m : Nat} {x y : Int} (h : Bd k x) (h' : Bd m y) (hk : k + m ≤ 1000000) : CMulL x y := by
  unfold CMulL
  have h1 : x.natAbs.log2 ≤ k := by
    by_cases hx : x.natAbs = 0
    · rw [hx]; exact Nat.zero_le _
    · exact Nat.le_of_lt ((Nat.log2_lt hx).mpr h)
  have h2 : y.natAbs.log2 ≤ m := by
    by_cases hx : y.natAbs = 0
    · rw [hx]; exact Nat.zero_le _
    · exact Nat.le_of_lt ((Nat.log2_lt hx).mpr h')
  omega
/-- sums of m terms, m below 2^j -/
theorem Bd.sumL {k : Nat} {xs : List Int} (h : ∀ x ∈ xs, Bd k x) : xs.sum.natAbs ≤ xs.length * 2 ^ k := by
  induction xs with
  | nil => simp
  | cons x xs ih =>
    have h1 : x.natAbs < 2 ^ k := h x List.mem_cons_self
    have h2 := ih fun y hy => h y (List.mem_cons_of_mem _ hy)
    rw [List.sum_cons, List.length_cons, Nat.add_mul, Nat.one_mul]
    omega
theorem Bd.sum {k j : Nat} {xs : List Int} (h : ∀ x ∈ xs, Bd k x) (hj : xs.length < 2 ^ j) : Bd (k + j) xs.sum := by
  unfold Bd
  refine Nat.lt_of_le_of_lt (Bd.sumL h) ?_
  rw [Nat.pow_add, Nat.mul_comm]
  exact Nat.mul_lt_mul_of_pos_left hj (Nat.two_pow_pos k)
theorem Bd.sumN {k j n : Nat} {f : Nat → Int} (h : ∀ i < n, Bd k (f i)) (hj : n < 2 ^ j) : Bd (k + j) (sumN n f) := Bd.sum (fun x hx => by
  obtain ⟨i, hi, rfl⟩ := List.mem_map.mp hx
  exact h i (List.mem_range.mp hi)) (by rw [vec_len]; exact hj)

/-! ### loops and comprehensions -/
theorem rgD_zero (n : Nat) : rgD 0 n = (List.range n).map fun i : Nat => .int (i : Int) := by
  unfold rgD
  exact List.map_congr_left fun i _ => by rw [Int.zero_add]
theorem forL_fold {α β : Type} {enc : α → D} {tg : FG} {vs : List Nat} {body : FS} (S : β → Ev → Prop) (step : β → α → β) : ∀ {xs : List α} {b : β} {ρ : Ev}, S b ρ →
    (∀ x ∈ xs, ∀ b ρ, S b ρ → ∃ ρ1 ρ2, tg (enc x) (wipeE ρ vs) = some ρ1 ∧ (body ρ1 = .nx ρ2 ∨ body ρ1 = .ct ρ2) ∧ S (step b x) ρ2) → ∃ ρ', forL tg vs body ρ (xs.map enc) = .nx ρ' ∧ S (xs.foldl step b) ρ'
  | [], b, ρ, h, _ => ⟨ρ, rfl, h⟩
  | x :: xs, b, ρ, h, st => by
    obtain ⟨ρ1, ρ2, e1, e2, h2⟩ := st x List.mem_cons_self b ρ h
    obtain ⟨ρ', e, h'⟩ := forL_fold S step (xs := xs) h2 fun y hy => st y (List.mem_cons_of_mem _ hy)
    refine ⟨ρ', ?_, h'⟩
    rw [List.map_cons]
    unfold forL
    rcases e2 with e2 | e2
    · simp only [e1, e2]; exact e
    · simp only [e1, e2]; exact e
/-- .. by the place in the list -/
theorem forL_at {α : Type} {enc : α → D} {tg : FG} {vs : List Nat} {body : FS} {xs : List α} (S : Nat → Ev → Prop) {ρ : Ev} (h : S 0 ρ)
    (st : ∀ i x, xs[i]? = some x → ∀ ρ, S i ρ → ∃ ρ1 ρ2, tg (enc x) (wipeE ρ vs) = some ρ1 ∧ (body ρ1 = .nx ρ2 ∨ body ρ1 = .ct ρ2) ∧ S (i + 1) ρ2) : ∃ ρ', forL tg vs body ρ (xs.map enc) = .nx ρ' ∧ S xs.length ρ' := by
  obtain ⟨ρ', e, h'⟩ := forL_inv (tg := tg) (vs := vs) (body := body) S (ds := xs.map enc) (j := 0) h fun i d ρ hd hi => by
    rw [Nat.zero_add] at hi ⊢
    rw [List.getElem?_map] at hd
    cases q : xs[i]? with
    | none => rw [q] at hd; cases hd
    | some x => rw [q] at hd; cases hd; exact st i x q ρ hi
  rw [List.length_map, Nat.zero_add] at h'
  exact ⟨ρ', e, h'⟩
theorem take_snoc {α : Type} {xs : List α} {i : Nat} {x : α} (h : xs[i]? = some x) : xs.take (i + 1) = xs.take i ++ [x] := by
  rw [List.take_add_one, h]; rfl
theorem small {n : Nat} (h : n ≤ 1000000) : n < sizeLine := Nat.lt_of_le_of_lt h (by decide)
theorem small' {n : Nat} (h : n ≤ 1000000) : n ≤ sizeLine := Nat.le_of_lt (small h)
/-- .. over range(n) -/
theorem forL_rng {v : Nat} {vs : List Nat} {body : FS} {n : Nat} (S : Nat → Ev → Prop) {ρ : Ev} (h : S 0 ρ)
    (st : ∀ i, i < n → ∀ ρ, S i ρ → ∃ ρ2, (body ((wipeE ρ vs).set v (some (.int (i : Int), 0))) = .nx ρ2 ∨ body ((wipeE ρ vs).set v (some (.int (i : Int), 0))) = .ct ρ2) ∧ S (i + 1) ρ2) : ∃ ρ', forL (gN v) vs body ρ (rgD 0 n) = .nx ρ' ∧ S n ρ' := by
  obtain ⟨ρ', e, h'⟩ := forL_inv (tg := gN v) (vs := vs) (body := body) S (ds := rgD 0 n) (j := 0) h fun i d ρ hd hi => by
    obtain ⟨h1, rfl⟩ := rgD_get hd
    rw [Nat.zero_add] at hi
    obtain ⟨ρ2, e2, h2⟩ := st i h1 ρ hi
    rw [Int.zero_add, Nat.zero_add]
    exact ⟨_, ρ2, rfl, e2, h2⟩
  rw [rgD_len, Nat.zero_add] at h'
  exact ⟨ρ', e, h'⟩
theorem compL_enc {α : Type} {enc : α → D} {tg : FG} {tt : FT} {te : FE} {ρ : Ev} (p : α → Bool) (g : α → R) : ∀ {xs : List α}, (∀ x ∈ xs, ∃ ρ2, tg (enc x) ρ = some ρ2 ∧ tt ρ2 = .ok (p x) ∧ (p x = true → te ρ2 = .ok (g x))) → compL tg tt te ρ (xs.map enc) = .ok ((xs.filter p).map g)
  | [], _ => rfl
  | x :: xs, h => by
    obtain ⟨ρ2, e1, e2, e3⟩ := h x List.mem_cons_self
    have ih := compL_enc p g (xs := xs) fun y hy => h y (List.mem_cons_of_mem _ hy)
    rw [List.map_cons]
    unfold compL
    simp only [e1, e2, noX, Res.bind]
    cases hp : p x with
    | false => simp only [Bool.false_eq_true, if_false, List.filter_cons, hp]; exact ih
    | true => simp only [if_true, e3 hp, ih, List.filter_cons, hp, List.map_cons]
theorem disp_ints {c : List Nat} {zs : List Int} (h : zs.length ≤ 1000000) : dispC 0 c (zs.map fun z => ⟨.int z, 0, [], []⟩) = .ok ⟨eI zs, 1, [], []⟩ := by
  have hl : (zs.map fun z => (⟨.int z, 0, [], []⟩ : R)).length ≤ sizeLine := by rw [List.length_map]; exact Nat.le_trans h (by decide)
  have hd : hDep 0 (zs.map fun z => (⟨.int z, 0, [], []⟩ : R)) = 0 := by unfold hDep; split <;> rfl
  have hm : (zs.map fun z => (⟨.int z, 0, [], []⟩ : R)).map (·.d) = zs.map .int := by rw [List.map_map]; rfl
  unfold dispC
  rw [if_pos hl]
  simp only [hd, hm]
  exact if_pos (af_ints (ns := zs))
theorem disp_rows {c : List Nat} {rows : List (List Int)} (h : rows.length ≤ 1000000) : dispC 1 c (rows.map fun z => ⟨eI z, 1, [], []⟩) = .ok ⟨eM rows, 2, [], []⟩ := by
  have hl : (rows.map fun z => (⟨eI z, 1, [], []⟩ : R)).length ≤ sizeLine := by rw [List.length_map]; exact Nat.le_trans h (by decide)
  have hd : hDep 1 (rows.map fun z => (⟨eI z, 1, [], []⟩ : R)) = 1 := by
    unfold hDep
    rw [if_pos]
    simp
  have hm : (rows.map fun z => (⟨eI z, 1, [], []⟩ : R)).map (·.d) = rows.map eI := by rw [List.map_map]; rfl
  unfold dispC
  rw [if_pos hl]
  simp only [hd, hm]
  exact if_pos (af_eM (rows := rows))
theorem disp_af {α : Type} {c : List Nat} {enc : α → D} {xs : List α} (h : xs.length ≤ 1000000) (ha : ∀ x ∈ xs, af 0 (enc x) = true) : dispC 0 c (xs.map fun z => ⟨enc z, 0, [], []⟩) = .ok ⟨.lst (xs.map enc), 1, [], []⟩ := by
  have hl : (xs.map fun z => (⟨enc z, 0, [], []⟩ : R)).length ≤ sizeLine := by rw [List.length_map]; exact Nat.le_trans h (by decide)
  have hd : hDep 0 (xs.map fun z => (⟨enc z, 0, [], []⟩ : R)) = 0 := by unfold hDep; split <;> rfl
  have hm : (xs.map fun z => (⟨enc z, 0, [], []⟩ : R)).map (·.d) = xs.map enc := by rw [List.map_map]; rfl
  unfold dispC
  rw [if_pos hl]
  simp only [hd, hm]
  rw [if_pos (af_lst (k := 0) fun d hd => by obtain ⟨x, hx, rfl⟩ := List.mem_map.mp hd; exact ha x hx)]
/-- [int for x in ..] -/
theorem comp_ints {α : Type} {enc : α → D} {it : FI} {tg : FG} {tt : FT} {te : FE} {vs : List Nat} {ρ : Ev} {e c : List Nat} {xs : List α} (p : α → Bool) (f : α → Int) (hi : it ρ = .ok ⟨xs.map enc, e, c⟩) (hn : xs.length ≤ 1000000)
    (h : ∀ x ∈ xs, ∃ ρ2, tg (enc x) (wipeE (frzL c ρ) vs) = some ρ2 ∧ tt ρ2 = .ok (p x) ∧ (p x = true → te ρ2 = .ok ⟨.int (f x), 0, [], []⟩)) : fComp 0 it tg tt te vs ρ = .ok ⟨eI ((xs.filter p).map f), 1, [], []⟩ := by
  rw [ap_comp, hi]
  simp only [bd_ok]
  rw [compL_enc p (fun x => ⟨.int (f x), 0, [], []⟩) h]
  simp only [bd_ok]
  rw [show (xs.filter p).map (fun x => (⟨.int (f x), 0, [], []⟩ : R)) = ((xs.filter p).map f).map fun z => ⟨.int z, 0, [], []⟩ by rw [List.map_map]; rfl]
  exact disp_ints (by rw [List.length_map]; exact Nat.le_trans (List.length_filter_le _ _) hn)
theorem filter_tt {α : Type} {xs : List α} : xs.filter (fun _ => true) = xs := List.filter_eq_self.mpr fun _ _ => rfl
/-- [thing for x in ..], no lists within -/
theorem comp_af {α β : Type} {enc : α → D} {enc2 : β → D} {it : FI} {tg : FG} {tt : FT} {te : FE} {vs : List Nat} {ρ : Ev} {e c : List Nat} {xs : List α} (p : α → Bool) (f : α → β) (ha : ∀ y, af 0 (enc2 y) = true) (hi : it ρ = .ok ⟨xs.map enc, e, c⟩) (hn : xs.length ≤ 1000000)
    (h : ∀ x ∈ xs, ∃ ρ2, tg (enc x) (wipeE (frzL c ρ) vs) = some ρ2 ∧ tt ρ2 = .ok (p x) ∧ (p x = true → te ρ2 = .ok ⟨enc2 (f x), 0, [], []⟩)) : fComp 0 it tg tt te vs ρ = .ok ⟨.lst (((xs.filter p).map f).map enc2), 1, [], []⟩ := by
  rw [ap_comp, hi]
  simp only [bd_ok]
  rw [compL_enc p (fun x => ⟨enc2 (f x), 0, [], []⟩) h]
  simp only [bd_ok]
  rw [show (xs.filter p).map (fun x => (⟨enc2 (f x), 0, [], []⟩ : R)) = ((xs.filter p).map f).map fun z => ⟨enc2 z, 0, [], []⟩ by rw [List.map_map]; rfl]
  exact disp_af (by rw [List.length_map]; exact Nat.le_trans (List.length_filter_le _ _) hn) fun x _ => ha x
/-- [thing for i in range(n)] -/
theorem comp_afN {β : Type} {enc2 : β → D} {it : FI} {te : FE} {v : Nat} {ρ : Ev} {n : Nat} (f : Nat → β) (ha : ∀ y, af 0 (enc2 y) = true) (hi : it ρ = .ok ⟨rgD 0 n, [], []⟩) (hn : n ≤ 1000000)
    (h : ∀ i < n, te ((wipeE ρ [v]).set v (some (.int (i : Int), 0))) = .ok ⟨enc2 (f i), 0, [], []⟩) : fComp 0 it (gN v) fYes te [v] ρ = .ok ⟨.lst (((List.range n).map f).map enc2), 1, [], []⟩ := by
  rw [rgD_zero] at hi
  have := comp_af (te := te) (tt := fYes) (tg := gN v) (vs := [v]) (fun _ => true) f ha hi (by rw [List.length_range]; exact hn) fun i hi => ⟨_, rfl, rfl, fun _ => h i (List.mem_range.mp hi)⟩
  rw [this, filter_tt]
/-- [int for i in range(n)] -/
theorem comp_vec {it : FI} {te : FE} {v : Nat} {ρ : Ev} {n : Nat} (f : Nat → Int) (hi : it ρ = .ok ⟨rgD 0 n, [], []⟩) (hn : n ≤ 1000000)
    (h : ∀ i < n, te ((wipeE ρ [v]).set v (some (.int (i : Int), 0))) = .ok ⟨.int (f i), 0, [], []⟩) : fComp 0 it (gN v) fYes te [v] ρ = .ok ⟨eI (vec n f), 1, [], []⟩ := by
  rw [rgD_zero] at hi
  have := comp_ints (te := te) (tt := fYes) (tg := gN v) (vs := [v]) (fun _ => true) f hi (by rw [List.length_range]; exact hn) fun i hi => ⟨_, rfl, rfl, fun _ => h i (List.mem_range.mp hi)⟩
  rw [this, filter_tt]
  rfl
/-- [row for i in range(n)] -/
theorem comp_mat {it : FI} {te : FE} {v : Nat} {ρ : Ev} {n : Nat} (f : Nat → List Int) (hi : it ρ = .ok ⟨rgD 0 n, [], []⟩) (hn : n ≤ 1000000)
    (h : ∀ i < n, te ((wipeE ρ [v]).set v (some (.int (i : Int), 0))) = .ok ⟨eI (f i), 1, [], []⟩) : fComp 1 it (gN v) fYes te [v] ρ = .ok ⟨eM ((List.range n).map f), 2, [], []⟩ := by
  rw [rgD_zero] at hi
  rw [ap_comp, hi]
  simp only [bd_ok]
  rw [compL_enc (fun _ => true) (fun x => ⟨eI (f x), 1, [], []⟩) fun i hi => ⟨_, rfl, rfl, fun _ => h i (List.mem_range.mp hi)⟩]
  simp only [bd_ok]
  rw [filter_tt, show (List.range n).map (fun x => (⟨eI (f x), 1, [], []⟩ : R)) = ((List.range n).map f).map fun z => ⟨eI z, 1, [], []⟩ by rw [List.map_map]; rfl]
  exact disp_rows (by rw [List.length_map, List.length_range]; exact hn)
def mat (n : Nat) (g : Nat → Nat → Int) : List (List Int) := (List.range n).map fun i => vec n (g i)
theorem mat_len {n : Nat} {g : Nat → Nat → Int} : (mat n g).length = n := by simp [mat]
theorem mat_at {n : Nat} {g : Nat → Nat → Int} {i : Nat} (h : i < n) : atI ((mat n g).map eI) (i : Int) = some (eI (vec n (g i))) := by
  refine atI_nat ?_
  rw [List.getElem?_map]
  simp [mat, h]
theorem mat_congr {n : Nat} {f g : Nat → Nat → Int} (h : ∀ i < n, ∀ j < n, f i j = g i j) : mat n f = mat n g := by
  unfold mat
  exact List.map_congr_left fun i hi => vec_congr fun j hj => h i (List.mem_range.mp hi) j hj
/-! more of the operators -/
theorem gNe_same {d : D} {k1 k2 : Nat} {e1 c1 e2 c2 : List Nat} (h : pln 60 d = true) : gNe ⟨d, k1, e1, c1⟩ ⟨d, k2, e2, c2⟩ = .ok ⟨.bl false, 0, [], []⟩ := by rw [g_neD h h, deq_refl 60 d h]; rfl
theorem gEq_same {d : D} {k1 k2 : Nat} {e1 c1 e2 c2 : List Nat} (h : pln 60 d = true) : gEq ⟨d, k1, e1, c1⟩ ⟨d, k2, e2, c2⟩ = .ok ⟨.bl true, 0, [], []⟩ := by rw [g_eqD h h, deq_refl 60 d h]
theorem g_list {xs : List D} {k1 : Nat} {e1 c1 : List Nat} : gList [⟨.lst xs, k1, e1, c1⟩] = .ok ⟨.lst xs, 1, c1, c1⟩ := nr rfl
theorem g_listT {xs : List D} {k1 : Nat} {e1 c1 : List Nat} : gList [⟨.tup xs, k1, e1, c1⟩] = .ok ⟨.lst xs, 1, c1, c1⟩ := nr rfl
theorem isi_list {xs : List D} {k1 : Nat} {e1 c1 : List Nat} : gIsi "list" ⟨.lst xs, k1, e1, c1⟩ = .ok ⟨.bl true, 0, [], []⟩ := nr rfl
theorem isi_tuple {xs : List D} {k1 : Nat} {e1 c1 : List Nat} : gIsi "tuple" ⟨.tup xs, k1, e1, c1⟩ = .ok ⟨.bl true, 0, [], []⟩ := nr rfl
theorem isi_bool {b : Bool} {k1 : Nat} {e1 c1 : List Nat} : gIsi "bool" ⟨.bl b, k1, e1, c1⟩ = .ok ⟨.bl true, 0, [], []⟩ := nr rfl
theorem isi_int {x : Int} {k1 : Nat} {e1 c1 : List Nat} : gIsi "int" ⟨.int x, k1, e1, c1⟩ = .ok ⟨.bl true, 0, [], []⟩ := nr rfl
theorem isi_boolI {x : Int} {k1 : Nat} {e1 c1 : List Nat} : gIsi "bool" ⟨.int x, k1, e1, c1⟩ = .ok ⟨.bl false, 0, [], []⟩ := nr rfl
theorem gIn_ok {neg : Bool} {a : D} {xs : List D} {k1 k2 : Nat} {e1 c1 e2 c2 : List Nat} (h1 : pln 60 a = true) (h2 : plnL 60 xs = true) : gIn neg ⟨a, k1, e1, c1⟩ ⟨.lst xs, k2, e2, c2⟩ = .ok ⟨.bl (if neg then !memD xs a else memD xs a), 0, [], []⟩ := by
  show (if pln 60 a && plnL 60 xs then okB (if neg then !memD xs a else memD xs a) else .bad) = _
  rw [h1, h2]; rfl
theorem maxL_le {b : Int} : ∀ {ns : List Int}, (∀ x ∈ ns, x ≤ b) → 0 ≤ b → maxL ns ≤ b
  | [], _, h => h
  | [x], h, _ => h x (by simp)
  | x :: y :: r, h, hb => by
    have := maxL_le (ns := y :: r) (fun z hz => h z (List.mem_cons_of_mem _ hz)) hb
    have := h x (by simp)
    show max x (maxL (y :: r)) ≤ b
    omega
theorem maxL_ge {b : Int} : ∀ {ns : List Int}, (∃ x ∈ ns, b ≤ x) → b ≤ maxL ns
  | [], ⟨_, h, _⟩ => by cases h
  | [x], ⟨y, h, hb⟩ => by rw [List.mem_singleton.mp h] at hb; exact hb
  | x :: y :: r, ⟨z, h, hb⟩ => by
    show b ≤ max x (maxL (y :: r))
    rcases List.mem_cons.mp h with h | h
    · subst h; omega
    · have := maxL_ge (ns := y :: r) ⟨z, h, hb⟩; omega
theorem g_max {ns : List Int} {k1 : Nat} {e1 c1 : List Nat} (h : 0 < ns.length) : gMax [⟨.lst (ns.map .int), k1, e1, c1⟩] = .ok ⟨.int (maxL ns), 0, [], []⟩ := by
  unfold gMax onInts on1
  simp only [ints_map]
  rw [if_pos h]; rfl
theorem g_min {ns : List Int} {k1 : Nat} {e1 c1 : List Nat} (h : 0 < ns.length) : gMin [⟨.lst (ns.map .int), k1, e1, c1⟩] = .ok ⟨.int (minL ns), 0, [], []⟩ := by
  unfold gMin onInts on1
  simp only [ints_map]
  rw [if_pos h]; rfl
/-- rows[z][z2] = r -/
theorem store2_eq {i : Nat} {fi fj f : FE} {ρ : Ev} {ds es : List D} {k : Nat} {r : R} {z z2 : Int} {k1 k2 j l : Nat} {e1 c1 e2 c2 : List Nat} (h0 : ρ[i]? = some (some (.lst ds, k + 2))) (h1 : f ρ = .ok r) (hs : scal r.d = true) (h2 : fi ρ = .ok ⟨.int z, k1, e1, c1⟩) (h3 : ixN ds.length z = some j) (h4 : ds[j]? = some (.lst es))
    (h5 : fj ρ = .ok ⟨.int z2, k2, e2, c2⟩) (h6 : ixN es.length z2 = some l) : sStore2 i fi fj f ρ = .nx (ρ.set i (some (.lst (ds.set j (.lst (es.set l r.d))), k + 2))) := by
  unfold sStore2 own2
  rw [h0]
  simp only
  rw [stE_def h1, stE_def h2]
  unfold rowOk
  rw [h0]
  simp only [h3, h4]
  rw [stE_def h5]
  unfold store2Out
  rw [h0]
  simp only [h3, h4, h6, hs, if_true]
/-- x[z][z2][z3] = r -/
theorem store3_eq {i : Nat} {fi fj fl f : FE} {ρ : Ev} {ds es gs : List D} {k : Nat} {r : R} {z z2 z3 : Int} {k1 k2 k3 j l m : Nat} {e1 c1 e2 c2 e3 c3 : List Nat} (h0 : ρ[i]? = some (some (.lst ds, k + 3))) (h1 : f ρ = .ok r) (hs : scal r.d = true) (h2 : fi ρ = .ok ⟨.int z, k1, e1, c1⟩) (h3 : ixN ds.length z = some j) (h4 : ds[j]? = some (.lst es))
    (h5 : fj ρ = .ok ⟨.int z2, k2, e2, c2⟩) (h6 : ixN es.length z2 = some l) (h7 : es[l]? = some (.lst gs)) (h8 : fl ρ = .ok ⟨.int z3, k3, e3, c3⟩) (h9 : ixN gs.length z3 = some m) : sStore3 i fi fj fl f ρ = .nx (ρ.set i (some (.lst (ds.set j (.lst (es.set l (.lst (gs.set m r.d))))), k + 3))) := by
  unfold sStore3 own3
  rw [h0]
  simp only
  rw [stE_def h1, stE_def h2]
  unfold row3a
  rw [h0]
  simp only [h3, h4]
  rw [stE_def h5]
  unfold row3b
  rw [h0]
  simp only [h3, h4, h6, h7]
  rw [stE_def h8]
  unfold store3Out
  rw [h0]
  simp only [h3, h4, h6, h7, h9, hs, if_true]
theorem g_gcd {x y : Int} {k1 k2 : Nat} {e1 c1 e2 c2 : List Nat} : gGcd [⟨.int x, k1, e1, c1⟩, ⟨.int y, k2, e2, c2⟩] = .ok ⟨.int ((Nat.gcd x.natAbs y.natAbs : Nat) : Int), 0, [], []⟩ := nr rfl
theorem g_lcm {x y : Int} {k1 k2 : Nat} {e1 c1 e2 c2 : List Nat} (h : CLcm x y) : gLcm [⟨.int x, k1, e1, c1⟩, ⟨.int y, k2, e2, c2⟩] = .ok ⟨.int ((Nat.lcm x.natAbs y.natAbs : Nat) : Int), 0, [], []⟩ := by
  unfold gLcm on2
  exact if_pos h
theorem ap_mvT {t : Nat} {is : List Nat} {ρ : Ev} : sMvT t is ρ = mvK is t ρ ρ[t]? := nr rfl
theorem mv_some {t k : Nat} {is : List Nat} {ρ ρ' : Ev} {ds : List D} (h : setTs is ds (k - 1) (wipeE ρ [t]) = some ρ') : mvK is t ρ (some (some (.tup ds, k))) = .nx ρ' := by
  unfold mvK
  simp only [h]
theorem ap_while {n : Nat} {t : FT} {b : FS} {ρ : Ev} : sWhile n t b ρ = whileL t b n ρ := nr rfl
theorem rng3_ok {i j c : Int} {k1 k2 k3 m : Nat} {e1 c1 e2 c2 e3 c3 : List Nat} (h : RgC i j c m) : on3I rng3 [⟨.int i, k1, e1, c1⟩, ⟨.int j, k2, e2, c2⟩, ⟨.int c, k3, e3, c3⟩] = .ok ⟨rcD i c m, [], []⟩ := by
  have hm : (Builtin.Range.rangeSize i j c).toNat = m := by rw [h.2.2.2]; exact Int.toNat_natCast m
  unfold on3I rng3
  show (if RgC i j c (Builtin.Range.rangeSize i j c).toNat then (.ok ⟨rcD i c (Builtin.Range.rangeSize i j c).toNat, [], []⟩ : Res IR) else .bad) = _
  rw [hm]
  exact if_pos h
theorem ap_rng3 {A : FA} {ρ : Ev} : fRng3 A ρ = (A ρ).bind (on3I rng3) := nr rfl
theorem isiS (s : Str) {k1 : Nat} {e1 c1 : List Nat} : gIsi "str" ⟨.str s, k1, e1, c1⟩ = .ok ⟨.bl true, 0, [], []⟩ := nr rfl
/-- [row for x in ..] -/
theorem comp_rows {α : Type} {enc : α → D} {it : FI} {tg : FG} {tt : FT} {te : FE} {vs : List Nat} {ρ : Ev} {e c : List Nat} {xs : List α} (p : α → Bool) (f : α → List Int) (hi : it ρ = .ok ⟨xs.map enc, e, c⟩) (hn : xs.length ≤ 1000000)
    (h : ∀ x ∈ xs, ∃ ρ2, tg (enc x) (wipeE (frzL c ρ) vs) = some ρ2 ∧ tt ρ2 = .ok (p x) ∧ (p x = true → te ρ2 = .ok ⟨eI (f x), 1, [], []⟩)) : fComp 1 it tg tt te vs ρ = .ok ⟨eM ((xs.filter p).map f), 2, [], []⟩ := by
  rw [ap_comp, hi]
  simp only [bd_ok]
  rw [compL_enc p (fun x => ⟨eI (f x), 1, [], []⟩) h]
  simp only [bd_ok]
  rw [show (xs.filter p).map (fun x => (⟨eI (f x), 1, [], []⟩ : R)) = ((xs.filter p).map f).map fun z => ⟨eI z, 1, [], []⟩ by rw [List.map_map]; rfl]
  exact disp_rows (by rw [List.length_map]; exact Nat.le_trans (List.length_filter_le _ _) hn)
theorem n_isN_l {neg : Bool} {xs : List D} {k1 : Nat} {e1 c1 : List Nat} : gIsN neg ⟨.lst xs, k1, e1, c1⟩ = .ok ⟨.bl neg, 0, [], []⟩ := nr rfl
theorem n_isN_t {neg : Bool} {xs : List D} {k1 : Nat} {e1 c1 : List Nat} : gIsN neg ⟨.tup xs, k1, e1, c1⟩ = .ok ⟨.bl neg, 0, [], []⟩ := nr rfl
theorem n_isN_i {neg : Bool} {x : Int} {k1 : Nat} {e1 c1 : List Nat} : gIsN neg ⟨.int x, k1, e1, c1⟩ = .ok ⟨.bl neg, 0, [], []⟩ := nr rfl
theorem n_isN_n {neg : Bool} {k1 : Nat} {e1 c1 : List Nat} : gIsN neg ⟨.non, k1, e1, c1⟩ = .ok ⟨.bl (!neg), 0, [], []⟩ := nr rfl
theorem dl_l2l2 {xs ys : List D} {e c e' c' : List Nat} : dispL [⟨.lst xs, 2, e, c⟩, ⟨.lst ys, 2, e', c'⟩] = .ok ⟨.lst [.lst xs, .lst ys], 3, e ++ (e' ++ []), e ++ (e' ++ [])⟩ := by
  refine Eq.trans (dl_g ?_) ?_
  · exact szn 2 (by decide)
  · rfl
theorem fmodNat {a b : Nat} : ((a : Int)).fmod (b : Int) = ((a % b : Nat) : Int) := by
  rw [Int.fmod_eq_emod_of_nonneg _ (by omega)]; rfl
theorem bdec (p : Prop) [Decidable p] : decide p = true ∨ decide p = false := by cases decide p <;> simp
theorem ixN_nat {n j : Nat} (h : j < n) : ixN n (j : Int) = some j := by
  unfold ixN
  rw [if_pos (by omega), if_pos (by omega)]; simp
end PyL

namespace PyL
open PySem PySem.Spec L2
set_option autoImplicit false

/-! ### typed values and their data -/
class Enc (α : Type) where
  enc : α → D
open Enc (enc)
/-- scalars -/
class EncS (α : Type) [Enc α] : Prop where
  sc : ∀ a : α, scal (enc a) = true
/-- how deep lists lie within -/
class EncF (α : Type) [Enc α] where
  dp : Nat
  ok : ∀ a : α, af dp (enc a) = true
/-- plain data -/
class EncP (α : Type) [Enc α] where
  pd : Nat
  ok : ∀ a : α, pln pd (enc a) = true
/-- equality is that of the data -/
class EncQ (α : Type) [Enc α] [DecidableEq α] : Prop where
  ok : ∀ a b : α, deq (enc a) (enc b) = decide (a = b)
structure T2 (α β : Type) where
  a : α
  b : β
deriving DecidableEq
structure T3 (α β γ : Type) where
  a : α
  b : β
  c : γ
deriving DecidableEq
structure T4 (α β γ δ : Type) where
  a : α
  b : β
  c : γ
  d : δ
deriving DecidableEq
instance : Enc Int := ⟨.int⟩
instance : Enc Bool := ⟨.bl⟩
instance : Enc Unit := ⟨fun _ => .non⟩
instance : Enc Str := ⟨.str⟩
instance : Enc D := ⟨id⟩
section
variable {α β γ δ : Type} [Enc α] [Enc β] [Enc γ] [Enc δ]
instance : Enc (List α) := ⟨fun xs => .lst (xs.map enc)⟩
instance : Enc (T2 α β) := ⟨fun t => .tup [enc t.a, enc t.b]⟩
instance : Enc (T3 α β γ) := ⟨fun t => .tup [enc t.a, enc t.b, enc t.c]⟩
instance : Enc (T4 α β γ δ) := ⟨fun t => .tup [enc t.a, enc t.b, enc t.c, enc t.d]⟩
instance : Enc (Option α) := ⟨fun o => match o with
  | none => .non
  | some a => enc a⟩
end
instance : EncS Int := ⟨fun _ => rfl⟩
instance : EncS Bool := ⟨fun _ => rfl⟩
instance : EncS Unit := ⟨fun _ => rfl⟩
instance : EncS Str := ⟨fun _ => rfl⟩
theorem af_exc {n : Nat} {a : Addr} {dd : Option Addr} {c : Str} {ns : List Str} {ds : List D} : af n (.exc a dd c ns ds) = false := by cases n <;> rfl
theorem pln_exc {n : Nat} {a : Addr} {dd : Option Addr} {c : Str} {ns : List Str} {ds : List D} : pln n (.exc a dd c ns ds) = false := by cases n <;> rfl
mutual
theorem af_up : ∀ (d : D) {n m : Nat}, af n d = true → n ≤ m → af m d = true
  | .lst ds, 0, _, h, _ => by simp [af] at h
  | .lst ds, n + 1, 0, _, h => by omega
  | .lst ds, n + 1, m + 1, h, hn => by simp only [af] at h ⊢; exact afL_up ds h (by omega)
  | .tup ds, 0, 0, h, _ => h
  | .tup ds, 0, m + 1, h, _ => by simp only [af] at h ⊢; exact afL_up ds h (by omega)
  | .tup ds, n + 1, 0, _, h => by omega
  | .tup ds, n + 1, m + 1, h, hn => by simp only [af] at h ⊢; exact afL_up ds h (by omega)
  | .dK _, 0, _, h, _ => by simp [af] at h
  | .dK _, n + 1, 0, _, h => by omega
  | .dK _, n + 1, m + 1, _, _ => rfl
  | .dT _, 0, _, h, _ => by simp [af] at h
  | .dT _, n + 1, 0, _, h => by omega
  | .dT _, n + 1, m + 1, _, _ => rfl
  | .non, _, m, _, _ => by cases m <;> rfl
  | .bl _, _, m, _, _ => by cases m <;> rfl
  | .int _, _, m, _, _ => by cases m <;> rfl
  | .str _, _, m, _, _ => by cases m <;> rfl
  | .scr _ _, _, m, _, _ => by cases m <;> rfl
  | .exc _ _ _ _ _, _, _, h, _ => Bool.noConfusion (af_exc.symm.trans h)
theorem afL_up : ∀ (ds : List D) {n m : Nat}, afL n ds = true → n ≤ m → afL m ds = true
  | [], _, _, _, _ => rfl
  | d :: ds, n, m, h, hn => by
    simp only [afL, Bool.and_eq_true] at h ⊢
    exact ⟨af_up d h.1 hn, afL_up ds h.2 hn⟩
end
mutual
theorem pln_up : ∀ (d : D) {n m : Nat}, pln n d = true → n ≤ m → pln m d = true
  | .lst ds, 0, _, h, _ => by simp [pln] at h
  | .lst ds, n + 1, 0, _, h => by omega
  | .lst ds, n + 1, m + 1, h, hn => by simp only [pln] at h ⊢; exact plnL_up ds h (by omega)
  | .tup ds, 0, _, h, _ => by simp [pln] at h
  | .tup ds, n + 1, 0, _, h => by omega
  | .tup ds, n + 1, m + 1, h, hn => by simp only [pln] at h ⊢; exact plnL_up ds h (by omega)
  | .dK _, _, _, h, _ => by simp [pln] at h
  | .dT _, _, _, h, _ => by simp [pln] at h
  | .non, _, m, _, _ => by cases m <;> rfl
  | .bl _, _, m, _, _ => by cases m <;> rfl
  | .int _, _, m, _, _ => by cases m <;> rfl
  | .str _, _, m, _, _ => by cases m <;> rfl
  | .scr _ _, _, _, h, _ => by simp [pln] at h
  | .exc _ _ _ _ _, _, _, h, _ => Bool.noConfusion (pln_exc.symm.trans h)
theorem plnL_up : ∀ (ds : List D) {n m : Nat}, plnL n ds = true → n ≤ m → plnL m ds = true
  | [], _, _, _, _ => rfl
  | d :: ds, n, m, h, hn => by
    simp only [plnL, Bool.and_eq_true] at h ⊢
    exact ⟨pln_up d h.1 hn, plnL_up ds h.2 hn⟩
end
instance : EncF Int := ⟨0, fun _ => rfl⟩
instance : EncF Bool := ⟨0, fun _ => rfl⟩
instance : EncF Unit := ⟨0, fun _ => rfl⟩
instance : EncF Str := ⟨0, fun _ => rfl⟩
instance : EncP Int := ⟨0, fun _ => rfl⟩
instance : EncP Bool := ⟨0, fun _ => rfl⟩
instance : EncP Unit := ⟨0, fun _ => rfl⟩
instance : EncP Str := ⟨0, fun _ => rfl⟩
section
variable {α β γ δ : Type} [Enc α] [Enc β] [Enc γ] [Enc δ]
instance [EncF α] : EncF (List α) := ⟨EncF.dp α + 1, fun xs => af_lst fun d hd => by
  obtain ⟨x, _, rfl⟩ := List.mem_map.mp hd
  exact EncF.ok x⟩
theorem af_tupn {n : Nat} {ds : List D} (h : ∀ d ∈ ds, af n d = true) : af (n + 1) (.tup ds) = true ∧ (n = 0 → af 0 (.tup ds) = true) := by
  have : afL n ds = true := by
    induction ds with
    | nil => rfl
    | cons d ds ih => simp only [afL, Bool.and_eq_true]; exact ⟨h d List.mem_cons_self, ih fun d hd => h d (List.mem_cons_of_mem _ hd)⟩
  exact ⟨this, fun z => by subst z; exact this⟩
theorem af_tupK {n : Nat} {ds : List D} (h : ∀ d ∈ ds, af n d = true) : af (if n = 0 then 0 else n + 1) (.tup ds) = true := by
  by_cases z : n = 0
  · rw [if_pos z]; exact (af_tupn h).2 z
  · rw [if_neg z]; exact (af_tupn h).1
instance [EncF α] [EncF β] : EncF (T2 α β) := ⟨if max (EncF.dp α) (EncF.dp β) = 0 then 0 else max (EncF.dp α) (EncF.dp β) + 1, fun t => af_tupK fun d hd => by
  simp only [List.mem_cons, List.not_mem_nil, or_false] at hd
  rcases hd with rfl | rfl
  · exact af_up _ (EncF.ok t.a) (by omega)
  · exact af_up _ (EncF.ok t.b) (by omega)⟩
instance [EncF α] [EncF β] [EncF γ] : EncF (T3 α β γ) := ⟨if max (EncF.dp α) (max (EncF.dp β) (EncF.dp γ)) = 0 then 0 else max (EncF.dp α) (max (EncF.dp β) (EncF.dp γ)) + 1, fun t => af_tupK fun d hd => by
  simp only [List.mem_cons, List.not_mem_nil, or_false] at hd
  rcases hd with rfl | rfl | rfl
  · exact af_up _ (EncF.ok t.a) (by omega)
  · exact af_up _ (EncF.ok t.b) (by omega)
  · exact af_up _ (EncF.ok t.c) (by omega)⟩
instance [EncF α] [EncF β] [EncF γ] [EncF δ] : EncF (T4 α β γ δ) := ⟨if max (max (EncF.dp α) (EncF.dp β)) (max (EncF.dp γ) (EncF.dp δ)) = 0 then 0 else max (max (EncF.dp α) (EncF.dp β)) (max (EncF.dp γ) (EncF.dp δ)) + 1, fun t => af_tupK fun d hd => by
  simp only [List.mem_cons, List.not_mem_nil, or_false] at hd
  rcases hd with rfl | rfl | rfl | rfl
  · exact af_up _ (EncF.ok t.a) (by omega)
  · exact af_up _ (EncF.ok t.b) (by omega)
  · exact af_up _ (EncF.ok t.c) (by omega)
  · exact af_up _ (EncF.ok t.d) (by omega)⟩
instance [EncF α] : EncF (Option α) := ⟨EncF.dp α, fun o => match o with
  | none => af_non
  | some a => EncF.ok a⟩
instance [EncP α] : EncP (List α) := ⟨EncP.pd α + 1, fun xs => pln_lst fun d hd => by
  obtain ⟨x, _, rfl⟩ := List.mem_map.mp hd
  exact EncP.ok x⟩
instance [EncP α] [EncP β] : EncP (T2 α β) := ⟨max (EncP.pd α) (EncP.pd β) + 1, fun t => pln_tup fun d hd => by
  simp only [List.mem_cons, List.not_mem_nil, or_false] at hd
  rcases hd with rfl | rfl
  · exact pln_up _ (EncP.ok t.a) (by omega)
  · exact pln_up _ (EncP.ok t.b) (by omega)⟩
instance [EncP α] [EncP β] [EncP γ] : EncP (T3 α β γ) := ⟨max (EncP.pd α) (max (EncP.pd β) (EncP.pd γ)) + 1, fun t => pln_tup fun d hd => by
  simp only [List.mem_cons, List.not_mem_nil, or_false] at hd
  rcases hd with rfl | rfl | rfl
  · exact pln_up _ (EncP.ok t.a) (by omega)
  · exact pln_up _ (EncP.ok t.b) (by omega)
  · exact pln_up _ (EncP.ok t.c) (by omega)⟩
instance [EncP α] [EncP β] [EncP γ] [EncP δ] : EncP (T4 α β γ δ) := ⟨max (max (EncP.pd α) (EncP.pd β)) (max (EncP.pd γ) (EncP.pd δ)) + 1, fun t => pln_tup fun d hd => by
  simp only [List.mem_cons, List.not_mem_nil, or_false] at hd
  rcases hd with rfl | rfl | rfl | rfl
  · exact pln_up _ (EncP.ok t.a) (by omega)
  · exact pln_up _ (EncP.ok t.b) (by omega)
  · exact pln_up _ (EncP.ok t.c) (by omega)
  · exact pln_up _ (EncP.ok t.d) (by omega)⟩
instance [EncP α] : EncP (Option α) := ⟨EncP.pd α, fun o => match o with
  | none => by show pln _ D.non = true; cases EncP.pd α <;> rfl
  | some a => EncP.ok a⟩
variable [DecidableEq α] [DecidableEq β] [DecidableEq γ] [DecidableEq δ]
theorem deqL_enc [EncQ α] : ∀ xs ys : List α, deqL (xs.map enc) (ys.map enc) = decide (xs = ys)
  | [], [] => rfl
  | [], _ :: _ => rfl
  | _ :: _, [] => rfl
  | x :: xs, y :: ys => by
    show (deq (enc x) (enc y) && deqL (xs.map enc) (ys.map enc)) = _
    rw [EncQ.ok, deqL_enc xs ys]
    by_cases h1 : x = y <;> by_cases h2 : xs = ys <;> simp [h1, h2]
end
instance : EncQ Int := ⟨fun a b => deq_ii⟩
instance : EncQ Bool := ⟨fun a b => by cases a <;> cases b <;> rfl⟩
instance : EncQ Unit := ⟨fun a b => rfl⟩
section
variable {α β γ δ : Type} [Enc α] [Enc β] [Enc γ] [Enc δ] [DecidableEq α] [DecidableEq β] [DecidableEq γ] [DecidableEq δ]
instance [EncQ α] : EncQ (List α) := ⟨fun a b => deqL_enc a b⟩
instance [EncQ α] [EncQ β] : EncQ (T2 α β) := ⟨fun ⟨a, b⟩ ⟨a', b'⟩ => by
  show (deq (enc a) (enc a') && (deq (enc b) (enc b') && true)) = _
  rw [EncQ.ok, EncQ.ok]
  by_cases h1 : a = a' <;> by_cases h2 : b = b' <;> simp [h1, h2]⟩
instance [EncQ α] [EncQ β] [EncQ γ] : EncQ (T3 α β γ) := ⟨fun ⟨a, b, c⟩ ⟨a', b', c'⟩ => by
  show (deq (enc a) (enc a') && (deq (enc b) (enc b') && (deq (enc c) (enc c') && true))) = _
  rw [EncQ.ok, EncQ.ok, EncQ.ok]
  by_cases h1 : a = a' <;> by_cases h2 : b = b' <;> by_cases h3 : c = c' <;> simp [h1, h2, h3]⟩
instance [EncQ α] [EncQ β] [EncQ γ] [EncQ δ] : EncQ (T4 α β γ δ) := ⟨fun ⟨a, b, c, d⟩ ⟨a', b', c', d'⟩ => by
  show (deq (enc a) (enc a') && (deq (enc b) (enc b') && (deq (enc c) (enc c') && (deq (enc d) (enc d') && true)))) = _
  rw [EncQ.ok, EncQ.ok, EncQ.ok, EncQ.ok]
  by_cases h1 : a = a' <;> by_cases h2 : b = b' <;> by_cases h3 : c = c' <;> by_cases h4 : d = d' <;> simp [h1, h2, h3, h4]⟩
end

/-! ### what is known of the slots -/
abbrev SS := Option (D × Option Nat)
abbrev Spec := List SS
def Fit (s : Option Slot) (x : D × Option Nat) : Prop := ∃ k, s = some (some (x.1, k)) ∧ ∀ m, x.2 = some m → k = m
def Env (ρ : Ev) (S : Spec) : Prop := ρ.length = S.length ∧ ∀ (i : Nat) x, S[i]? = some (some x) → Fit ρ[i]? x
inductive Sub : Spec → Spec → Prop
  | nil : Sub [] []
  | e {s : SS} {S T : Spec} (h : Sub S T) : Sub (s :: S) (s :: T)
  | a {s : SS} {S T : Spec} (h : Sub S T) : Sub (s :: S) (none :: T)
  | w {d : D} {k : Option Nat} {S T : Spec} (h : Sub S T) : Sub (some (d, k) :: S) (some (d, none) :: T)
theorem Sub.get : ∀ {S T : Spec}, Sub S T → S.length = T.length ∧ ∀ (i : Nat) x, T[i]? = some (some x) → ∃ y, S[i]? = some (some y) ∧ y.1 = x.1 ∧ ∀ m, x.2 = some m → y.2 = some m
  | _, _, .nil => ⟨rfl, fun i x h => by simp at h⟩
  | _, _, .e h => by
    obtain ⟨l, g⟩ := h.get
    refine ⟨by simp [l], fun i x hx => ?_⟩
    cases i with
    | zero => exact ⟨x, by simpa using hx, rfl, fun _ q => q⟩
    | succ i => simpa using g i x (by simpa using hx)
  | _, _, .a h => by
    obtain ⟨l, g⟩ := h.get
    refine ⟨by simp [l], fun i x hx => ?_⟩
    cases i with
    | zero => simp at hx
    | succ i => simpa using g i x (by simpa using hx)
  | _, _, .w (d := d) (k := k) h => by
    obtain ⟨l, g⟩ := h.get
    refine ⟨by simp [l], fun i x hx => ?_⟩
    cases i with
    | zero =>
      have : (d, none) = x := by simpa using hx
      subst this
      exact ⟨(d, k), rfl, rfl, fun _ q => by cases q⟩
    | succ i => simpa using g i x (by simpa using hx)
theorem Sub.env {S T : Spec} {ρ : Ev} (h : Sub S T) (E : Env ρ S) : Env ρ T := by
  obtain ⟨l, g⟩ := h.get
  refine ⟨E.1.trans l, fun i x hx => ?_⟩
  obtain ⟨y, hy, e1, e2⟩ := g i x hx
  obtain ⟨k, hk, e3⟩ := E.2 i y hy
  exact ⟨k, by rw [hk, e1], fun m hm => e3 m (e2 m hm)⟩
def frzG (E : List Nat) : Nat → Spec → Spec
  | _, [] => []
  | n, none :: S => none :: frzG E (n + 1) S
  | n, some (d, k) :: S => (if E.elem n then some (d, none) else some (d, k)) :: frzG E (n + 1) S
abbrev frzS (E : List Nat) (S : Spec) : Spec := frzG E 0 S
theorem frzG_len {E : List Nat} : ∀ {n : Nat} {S : Spec}, (frzG E n S).length = S.length
  | _, [] => rfl
  | n, none :: S => by unfold frzG; simp [frzG_len (S := S)]
  | n, some (d, k) :: S => by unfold frzG; simp [frzG_len (S := S)]
theorem frzG_get {E : List Nat} : ∀ {n : Nat} {S : Spec} {i : Nat} {x : D × Option Nat}, (frzG E n S)[i]? = some (some x) → ∃ k, S[i]? = some (some (x.1, k)) ∧ ((n + i) ∉ E → x.2 = k) ∧ ((n + i) ∈ E → x.2 = none)
  | _, [], i, x, h => by simp [frzG] at h
  | n, none :: S, i, x, h => by
    unfold frzG at h
    cases i with
    | zero => simp at h
    | succ i =>
      obtain ⟨k, a, b, c⟩ := frzG_get (n := n + 1) (S := S) (i := i) (x := x) (by simpa using h)
      exact ⟨k, by simpa using a, by rw [show n + (i + 1) = n + 1 + i by omega]; exact b, by rw [show n + (i + 1) = n + 1 + i by omega]; exact c⟩
  | n, some (d, k) :: S, i, x, h => by
    unfold frzG at h
    cases i with
    | zero =>
      simp only [List.getElem?_cons_zero, Option.some.injEq] at h
      refine ⟨k, ?_, fun z => ?_, fun z => ?_⟩
      · split at h <;> · cases h; rfl
      · rw [if_neg (by simpa using z)] at h; cases h; rfl
      · rw [if_pos (by simpa using z)] at h; cases h; rfl
    | succ i =>
      obtain ⟨k, a, b, c⟩ := frzG_get (n := n + 1) (S := S) (i := i) (x := x) (by simpa using h)
      exact ⟨k, by simpa using a, by rw [show n + (i + 1) = n + 1 + i by omega]; exact b, by rw [show n + (i + 1) = n + 1 + i by omega]; exact c⟩
theorem frzL_get {ρ : Ev} : ∀ {e : List Nat} {i : Nat} {d : D} {k : Nat}, ρ[i]? = some (some (d, k)) → (i ∉ e → (frzL e ρ)[i]? = some (some (d, k))) ∧ ∃ k', (frzL e ρ)[i]? = some (some (d, k')) := by
  intro e
  induction e generalizing ρ with
  | nil => intro i d k h; exact ⟨fun _ => h, k, h⟩
  | cons j e ih =>
    intro i d k h
    unfold frzL
    have key : ∃ k1, (frz1 j ρ)[i]? = some (some (d, k1)) ∧ (i ≠ j → k1 = k) := by
      unfold frz1
      by_cases hij : i = j
      · subst hij
        rw [h]
        exact ⟨0, by simp only; rw [List.getElem?_set_self (List.getElem?_eq_some_iff.mp h).1], fun z => absurd rfl z⟩
      · refine ⟨k, ?_, fun _ => rfl⟩
        split
        · rw [List.getElem?_set_ne (Ne.symm hij)]; exact h
        · exact h
    obtain ⟨k1, h1, h2⟩ := key
    obtain ⟨a, b⟩ := ih h1
    refine ⟨fun z => ?_, b⟩
    have z' : i ≠ j ∧ i ∉ e := by simpa using z
    rw [← h2 z'.1]
    exact a z'.2
theorem Env.frz {ρ : Ev} {S : Spec} {e E : List Nat} (h : Env ρ S) (he : ∀ i ∈ e, i ∈ E) : Env (frzL e ρ) (frzS E S) := by
  refine ⟨by rw [frzL_len, frzG_len]; exact h.1, fun i x hx => ?_⟩
  obtain ⟨k, a, b, c⟩ := frzG_get hx
  rw [Nat.zero_add] at b c
  obtain ⟨k', hk, ek⟩ := h.2 i _ a
  obtain ⟨q1, k'', q2⟩ := frzL_get (e := e) hk
  by_cases hi : i ∈ E
  · exact ⟨k'', q2, fun m hm => by rw [c hi] at hm; cases hm⟩
  · exact ⟨k', q1 (fun z => hi (he i z)), fun m hm => ek m (by rw [← b hi]; exact hm)⟩
theorem Env.set {ρ : Ev} {S : Spec} (h : Env ρ S) (i : Nat) {d : D} {k : Nat} {kk : Option Nat} (hk : ∀ m, kk = some m → k = m) : Env (ρ.set i (some (d, k))) (S.set i (some (d, kk))) := by
  refine ⟨by rw [List.length_set, List.length_set]; exact h.1, fun j x hx => ?_⟩
  by_cases hij : i = j
  · subst hij
    have hl : i < S.length := by
      have := (List.getElem?_eq_some_iff.mp hx).1
      rwa [List.length_set] at this
    rw [List.getElem?_set_self hl] at hx
    cases hx
    exact ⟨k, by rw [List.getElem?_set_self (by rw [h.1]; exact hl)], hk⟩
  · rw [List.getElem?_set_ne hij] at hx ⊢
    exact h.2 j x hx
theorem Env.none {ρ : Ev} {S : Spec} (h : Env ρ S) (i : Nat) : Env (ρ.set i none) (S.set i none) := by
  refine ⟨by rw [List.length_set, List.length_set]; exact h.1, fun j x hx => ?_⟩
  by_cases hij : i = j
  · subst hij
    have hl : i < S.length := by
      have := (List.getElem?_eq_some_iff.mp hx).1
      rwa [List.length_set] at this
    rw [List.getElem?_set_self hl] at hx
    cases hx
  · rw [List.getElem?_set_ne hij] at hx ⊢
    exact h.2 j x hx
def wipeS (S : Spec) : List Nat → Spec
  | [] => S
  | v :: vs => (wipeS S vs).set v none
theorem Env.wipe {ρ : Ev} {S : Spec} (h : Env ρ S) : ∀ vs : List Nat, Env (wipeE ρ vs) (wipeS S vs)
  | [] => h
  | v :: vs => (h.wipe vs).none v

/-! ### values -/
def Gv (r : R) (d : D) (kk : Option Nat) (E C : List Nat) : Prop := r.d = d ∧ (∀ m, kk = some m → r.k = m) ∧ (∀ i ∈ r.e, i ∈ E) ∧ ∀ i ∈ r.c, i ∈ C
def RE {α : Type} [Enc α] (S : Spec) (f : FE) (v : α) (kk : Option Nat) (E C : List Nat) : Prop := ∀ ρ, Env ρ S → ∃ r, f ρ = .ok r ∧ Gv r (enc v) kk E C
def RT (S : Spec) (t : FT) (b : Bool) : Prop := ∀ ρ, Env ρ S → t ρ = .ok b
theorem bnd {α β : Type} {o : Option α} {f : α → Option β} {r : β} (h : o.bind f = some r) : ∃ v, o = some v ∧ f v = some r := by
  cases o with
  | none => cases h
  | some v => exact ⟨v, rfl, h⟩
theorem tif {α : Type} {b : Bool} {x y : Option α} {r : α} (h : (if b = true then x else y) = some r) : (b = true ∧ x = some r) ∨ (b = false ∧ y = some r) := by
  cases b
  · exact .inr ⟨rfl, h⟩
  · exact .inl ⟨rfl, h⟩
section
variable {S : Spec} {f g fa fb fc : FE} {i : Nat} {α β γ δ : Type} [Enc α] [Enc β] [Enc γ] [Enc δ] {ka kb kc kk : Option Nat} {Ea Ca Eb Cb E C : List Nat}
theorem re_to {x y : α} (h : RE S f x kk E C) (e : some x = some y) : RE S f y kk E C := by cases e; exact h
theorem re_weak {x : α} {E' C' : List Nat} (h : RE S f x kk E C) (he : ∀ i ∈ E, i ∈ E') (hc : ∀ i ∈ C, i ∈ C') : RE S f x kk E' C' := fun ρ q => by
  obtain ⟨r, e, a, b, c, d⟩ := h ρ q
  exact ⟨r, e, a, b, fun i z => he i (c i z), fun i z => hc i (d i z)⟩
theorem re_anyk {x : α} (h : RE S f x kk E C) : RE S f x none E C := fun ρ q => by
  obtain ⟨r, e, a, b, c, d⟩ := h ρ q
  exact ⟨r, e, a, fun m z => (by cases z), c, d⟩
theorem re_varS {x : α} [EncS α] (h : S[i]? = some (some (enc x, kk))) : RE S (fVar i) x (some 0) [] [] := fun ρ q => by
  obtain ⟨k, e, _⟩ := q.2 i _ h
  refine ⟨al1 i (enc x) k, by rw [ap_var, e]; rfl, rfl, fun m z => by cases z; rfl, fun j hj => ?_, fun j hj => ?_⟩
  · simp [al1, EncS.sc x] at hj
  · simp [al1, EncS.sc x] at hj
theorem re_var0 {x : α} (h : S[i]? = some (some (enc x, some 0))) : RE S (fVar i) x (some 0) [] [] := fun ρ q => by
  obtain ⟨k, e, hk⟩ := q.2 i _ h
  have hk : k = 0 := hk 0 rfl
  subst hk
  exact ⟨al1 i (enc x) 0, by rw [ap_var, e]; rfl, rfl, fun m z => by cases z; rfl, fun j hj => by simp [al1] at hj, fun j hj => by simp [al1] at hj⟩
theorem re_var1 {x : α} (h : S[i]? = some (some (enc x, some 1))) : RE S (fVar i) x (some 0) [i] [] := fun ρ q => by
  obtain ⟨k, e, hk⟩ := q.2 i _ h
  have hk : k = 1 := hk 1 rfl
  subst hk
  refine ⟨al1 i (enc x) 1, by rw [ap_var, e]; rfl, rfl, fun m z => by cases z; rfl, fun j hj => ?_, fun j hj => by simp [al1] at hj⟩
  unfold al1 at hj
  simp only at hj
  split at hj
  · cases hj
  · exact hj
theorem re_varN {x : α} (h : S[i]? = some (some (enc x, kk))) : RE S (fVar i) x (some 0) [i] [i] := fun ρ q => by
  obtain ⟨k, e, hk⟩ := q.2 i _ h
  refine ⟨al1 i (enc x) k, by rw [ap_var, e]; rfl, rfl, fun m z => by cases z; rfl, fun j hj => ?_, fun j hj => ?_⟩
  · unfold al1 at hj
    simp only at hj
    split at hj
    · cases hj
    · exact hj
  · unfold al1 at hj
    simp only at hj
    split at hj
    · cases hj
    · exact hj
theorem re_c {d : D} {x : α} (h : enc x = d) : RE S (fC d) x (some 0) [] [] := fun ρ _ => ⟨_, rfl, h.symm, fun m z => by cases z; rfl, fun j hj => (by cases hj), fun j hj => (by cases hj)⟩
theorem gv0 {d : D} : Gv ⟨d, 0, [], []⟩ d (some 0) [] [] := ⟨rfl, fun m z => by cases z; rfl, fun j hj => (by cases hj), fun j hj => (by cases hj)⟩
theorem re_bin {q : G2} {a : α} {b : β} {v : γ} (ha : RE S fa a ka Ea Ca) (hb : RE S fb b kb Eb Cb) (h : ∀ ra rb, Gv ra (enc a) ka Ea Ca → Gv rb (enc b) kb Eb Cb → ∃ r, q ra rb = .ok r ∧ Gv r (enc v) kk E C) : RE S (fBin q fa fb) v kk E C := fun ρ z => by
  obtain ⟨ra, e1, g1⟩ := ha ρ z
  obtain ⟨rb, e2, g2⟩ := hb ρ z
  obtain ⟨r, e, g⟩ := h ra rb g1 g2
  exact ⟨r, by rw [ap_bin, e1, bd_ok, e2, bd_ok, e], g⟩
theorem re_un {q : R → Res R} {a : α} {v : γ} (ha : RE S fa a ka Ea Ca) (h : ∀ ra, Gv ra (enc a) ka Ea Ca → ∃ r, q ra = .ok r ∧ Gv r (enc v) kk E C) : RE S (fun ρ => (fa ρ).bind q) v kk E C := fun ρ z => by
  obtain ⟨ra, e1, g1⟩ := ha ρ z
  obtain ⟨r, e, g⟩ := h ra g1
  exact ⟨r, by show (fa ρ).bind q = _; rw [e1, bd_ok, e], g⟩
theorem rd1 {r : R} {d : D} {kk : Option Nat} {E C : List Nat} (h : Gv r d kk E C) : ∃ k e c, r = ⟨d, k, e, c⟩ ∧ (∀ m, kk = some m → k = m) ∧ (∀ i ∈ e, i ∈ E) ∧ (∀ i ∈ c, i ∈ C) := by
  obtain ⟨d', k, e, c⟩ := r
  obtain ⟨rfl, a, b, c'⟩ := h
  exact ⟨k, e, c, rfl, a, b, c'⟩
end
section
variable {S : Spec} {f g fa fb fc : FE} {i : Nat} {ka kb kc kk : Option Nat} {Ea Ca Eb Cb E C : List Nat}
/-- operators on two whole numbers -/
theorem re_II {γ : Type} [Enc γ] {q : G2} {a b : Int} {v : γ} (h : ∀ k1 e1 c1 k2 e2 c2, q ⟨.int a, k1, e1, c1⟩ ⟨.int b, k2, e2, c2⟩ = .ok ⟨enc v, 0, [], []⟩) (ha : RE S fa a ka Ea Ca) (hb : RE S fb b kb Eb Cb) : RE S (fBin q fa fb) v (some 0) [] [] :=
  re_bin ha hb fun ra rb g1 g2 => by
    obtain ⟨k1, e1, c1, rfl, _⟩ := rd1 g1
    obtain ⟨k2, e2, c2, rfl, _⟩ := rd1 g2
    exact ⟨_, h k1 e1 c1 k2 e2 c2, gv0⟩
variable {a b : Int}
theorem re_add (ha : RE S fa a ka Ea Ca) (hb : RE S fb b kb Eb Cb) : RE S (fBin gAdd fa fb) (a + b) (some 0) [] [] := re_II (fun _ _ _ _ _ _ => rfl) ha hb
theorem re_sub (ha : RE S fa a ka Ea Ca) (hb : RE S fb b kb Eb Cb) : RE S (fBin gSub fa fb) (a - b) (some 0) [] [] := re_II (fun _ _ _ _ _ _ => rfl) ha hb
def zMul (a b : Int) : Option Int := if CMulL a b then some (a * b) else none
theorem re_mul {v : Int} (ha : RE S fa a ka Ea Ca) (hb : RE S fb b kb Eb Cb) (h : zMul a b = some v) : RE S (fBin gMul fa fb) v (some 0) [] [] := by
  unfold zMul at h
  split at h
  · rename_i hc
    cases h
    exact re_II (fun _ _ _ _ _ _ => by rw [g_mulI, if_pos hc]; rfl) ha hb
  · cases h
def zDiv (a b : Int) : Option Int := if CDivL a b then some (a.fdiv b) else none
theorem re_div {v : Int} (ha : RE S fa a ka Ea Ca) (hb : RE S fb b kb Eb Cb) (h : zDiv a b = some v) : RE S (fBin gDiv fa fb) v (some 0) [] [] := by
  unfold zDiv at h
  split at h
  · rename_i hc
    cases h
    exact re_II (fun _ _ _ _ _ _ => by rw [g_divI, if_pos hc]; rfl) ha hb
  · cases h
def zMod (a b : Int) : Option Int := if b = 0 then none else some (a.fmod b)
theorem re_mod {v : Int} (ha : RE S fa a ka Ea Ca) (hb : RE S fb b kb Eb Cb) (h : zMod a b = some v) : RE S (fBin gMod fa fb) v (some 0) [] [] := by
  unfold zMod at h
  split at h
  · cases h
  · rename_i hc
    cases h
    exact re_II (fun _ _ _ _ _ _ => by rw [g_modI, if_pos hc]; rfl) ha hb
def zPow (a b : Int) : Option Int := if CPow a b then some (a ^ b.toNat) else none
theorem re_pow {v : Int} (ha : RE S fa a ka Ea Ca) (hb : RE S fb b kb Eb Cb) (h : zPow a b = some v) : RE S (fBin gPow fa fb) v (some 0) [] [] := by
  unfold zPow at h
  split at h
  · rename_i hc
    cases h
    exact re_II (fun _ _ _ _ _ _ => by rw [g_powI, if_pos hc]; rfl) ha hb
  · cases h
theorem re_lt (ha : RE S fa a ka Ea Ca) (hb : RE S fb b kb Eb Cb) : RE S (fBin gLt fa fb) (decide (a < b)) (some 0) [] [] := re_II (fun _ _ _ _ _ _ => rfl) ha hb
theorem re_le (ha : RE S fa a ka Ea Ca) (hb : RE S fb b kb Eb Cb) : RE S (fBin gLe fa fb) (decide (a ≤ b)) (some 0) [] [] := re_II (fun _ _ _ _ _ _ => rfl) ha hb
theorem re_gt (ha : RE S fa a ka Ea Ca) (hb : RE S fb b kb Eb Cb) : RE S (fBin gGt fa fb) (decide (b < a)) (some 0) [] [] := re_II (fun _ _ _ _ _ _ => rfl) ha hb
theorem re_ge (ha : RE S fa a ka Ea Ca) (hb : RE S fb b kb Eb Cb) : RE S (fBin gGe fa fb) (decide (b ≤ a)) (some 0) [] [] := re_II (fun _ _ _ _ _ _ => rfl) ha hb
theorem re_neg (ha : RE S fa a ka Ea Ca) : RE S (fUn gNeg fa) (-a) (some 0) [] [] := re_un ha fun ra g1 => by
  obtain ⟨k1, e1, c1, rfl, _⟩ := rd1 g1
  exact ⟨_, rfl, gv0⟩
variable {α β γ δ : Type} [Enc α] [Enc β] [Enc γ] [Enc δ]
theorem re_eq [DecidableEq α] [EncQ α] [EncP α] {a b : α} (hp : EncP.pd α ≤ 60) (ha : RE S fa a ka Ea Ca) (hb : RE S fb b kb Eb Cb) : RE S (fBin gEq fa fb) (decide (a = b)) (some 0) [] [] :=
  re_bin ha hb fun ra rb g1 g2 => by
    obtain ⟨k1, e1, c1, rfl, _⟩ := rd1 g1
    obtain ⟨k2, e2, c2, rfl, _⟩ := rd1 g2
    exact ⟨_, by rw [g_eqD (pln_up _ (EncP.ok a) hp) (pln_up _ (EncP.ok b) hp), EncQ.ok]; rfl, gv0⟩
theorem re_ne [DecidableEq α] [EncQ α] [EncP α] {a b : α} (hp : EncP.pd α ≤ 60) (ha : RE S fa a ka Ea Ca) (hb : RE S fb b kb Eb Cb) : RE S (fBin gNe fa fb) (!decide (a = b)) (some 0) [] [] :=
  re_bin ha hb fun ra rb g1 g2 => by
    obtain ⟨k1, e1, c1, rfl, _⟩ := rd1 g1
    obtain ⟨k2, e2, c2, rfl, _⟩ := rd1 g2
    exact ⟨_, by rw [g_neD (pln_up _ (EncP.ok a) hp) (pln_up _ (EncP.ok b) hp), EncQ.ok]; rfl, gv0⟩
/-- x in xs -/
theorem memD_enc [DecidableEq α] [EncQ α] {x : α} : ∀ {xs : List α}, memD (xs.map enc) (enc x) = decide (x ∈ xs)
  | [] => rfl
  | y :: ys => by
    have ih := memD_enc (x := x) (xs := ys)
    show (deq (enc y) (enc x) || memD (ys.map enc) (enc x)) = _
    rw [ih, EncQ.ok]
    by_cases h : y = x
    · simp [h]
    · simp [h, Ne.symm h]
theorem re_in [DecidableEq α] [EncQ α] [EncP α] {x : α} {xs : List α} (hp : EncP.pd α ≤ 60) (ha : RE S fa x ka Ea Ca) (hb : RE S fb xs kb Eb Cb) : RE S (fBin (gIn false) fa fb) (decide (x ∈ xs)) (some 0) [] [] :=
  re_bin ha hb fun ra rb g1 g2 => by
    obtain ⟨k1, e1, c1, rfl, _⟩ := rd1 g1
    obtain ⟨k2, e2, c2, rfl, _⟩ := rd1 g2
    have := gIn_ok (neg := false) (a := enc x) (xs := xs.map enc) (k1 := k1) (k2 := k2) (e1 := e1) (e2 := e2) (c1 := c1) (c2 := c2) (pln_up _ (EncP.ok x) hp) (plnL_of fun d hd => by obtain ⟨y, _, rfl⟩ := List.mem_map.mp hd; exact pln_up _ (EncP.ok y) hp)
    exact ⟨_, this, by rw [memD_enc]; exact gv0⟩
theorem re_nin [DecidableEq α] [EncQ α] [EncP α] {x : α} {xs : List α} (hp : EncP.pd α ≤ 60) (ha : RE S fa x ka Ea Ca) (hb : RE S fb xs kb Eb Cb) : RE S (fBin (gIn true) fa fb) (!decide (x ∈ xs)) (some 0) [] [] :=
  re_bin ha hb fun ra rb g1 g2 => by
    obtain ⟨k1, e1, c1, rfl, _⟩ := rd1 g1
    obtain ⟨k2, e2, c2, rfl, _⟩ := rd1 g2
    have := gIn_ok (neg := true) (a := enc x) (xs := xs.map enc) (k1 := k1) (k2 := k2) (e1 := e1) (e2 := e2) (c1 := c1) (c2 := c2) (pln_up _ (EncP.ok x) hp) (plnL_of fun d hd => by obtain ⟨y, _, rfl⟩ := List.mem_map.mp hd; exact pln_up _ (EncP.ok y) hp)
    exact ⟨_, this, by rw [memD_enc]; exact gv0⟩
theorem atI_map {xs : List α} {i : Int} : atI (xs.map enc) i = (atI xs i).map enc := by
  unfold atI
  rw [List.length_map]
  cases ixN xs.length i with
  | none => rfl
  | some j => simp
/-- x[i], the items scalars or tuples of them -/
theorem re_ixF [EncF α] {xs : List α} {i : Int} {v : α} (h0 : EncF.dp α = 0) (ha : RE S fa xs ka Ea Ca) (hb : RE S fb i kb Eb Cb) (h : atI xs i = some v) : RE S (fBin gIx fa fb) v (some 0) [] [] :=
  re_bin ha hb fun ra rb g1 g2 => by
    obtain ⟨k1, e1, c1, rfl, _⟩ := rd1 g1
    obtain ⟨k2, e2, c2, rfl, _⟩ := rd1 g2
    refine ⟨_, ?_, gv0⟩
    show gIx ⟨.lst (xs.map enc), k1, e1, c1⟩ ⟨.int i, k2, e2, c2⟩ = _
    rw [g_ixL, atI_map, h]
    show Res.ok (itemR _ (enc v)) = _
    unfold itemR
    rw [if_pos (by have := EncF.ok v; rwa [h0] at this)]; rfl
theorem re_ixE {xs : List α} {i : Int} {v : α} (ha : RE S fa xs ka Ea Ca) (hb : RE S fb i kb Eb Cb) (h : atI xs i = some v) : RE S (fBin gIx fa fb) v (some 0) Ca Ca :=
  re_bin ha hb fun ra rb g1 g2 => by
    obtain ⟨k1, e1, c1, rfl, _, _, hc⟩ := rd1 g1
    obtain ⟨k2, e2, c2, rfl, _⟩ := rd1 g2
    have e : gIx ⟨.lst (xs.map enc), k1, e1, c1⟩ ⟨.int i, k2, e2, c2⟩ = .ok (itemR ⟨.non, 0, [], c1⟩ (enc v)) := by
      rw [g_ixL, atI_map, h]; rfl
    refine ⟨_, e, ?_⟩
    unfold itemR
    split
    · exact ⟨rfl, fun m z => by cases z; rfl, fun j hj => (by cases hj), fun j hj => (by cases hj)⟩
    · exact ⟨rfl, fun m z => by cases z; rfl, hc, hc⟩
/-- t[j] of a tuple -/
theorem re_tixF [EncF β] {t : α} {ds : List D} {i : Int} {v : β} (ht : enc t = .tup ds) (h0 : EncF.dp β = 0) (h : atI ds i = some (enc v)) (ha : RE S fa t ka Ea Ca) : RE S (fBin gIx fa (fC (.int i))) v (some 0) [] [] :=
  re_bin ha (re_c (x := i) rfl) fun ra rb g1 g2 => by
    obtain ⟨k1, e1, c1, rfl, _⟩ := rd1 g1
    obtain ⟨k2, e2, c2, rfl, _⟩ := rd1 g2
    refine ⟨_, ?_, gv0⟩
    rw [ht]
    show gIx ⟨.tup ds, k1, e1, c1⟩ ⟨.int i, k2, e2, c2⟩ = _
    rw [g_ixT, h]
    show Res.ok (itemR _ (enc v)) = _
    unfold itemR
    rw [if_pos (by have := EncF.ok v; rwa [h0] at this)]; rfl
theorem re_tixE {t : α} {ds : List D} {i : Int} {v : β} (ht : enc t = .tup ds) (h : atI ds i = some (enc v)) (ha : RE S fa t ka Ea Ca) : RE S (fBin gIx fa (fC (.int i))) v (some 0) Ca Ca :=
  re_bin ha (re_c (x := i) rfl) fun ra rb g1 g2 => by
    obtain ⟨k1, e1, c1, rfl, _, _, hc⟩ := rd1 g1
    obtain ⟨k2, e2, c2, rfl, _⟩ := rd1 g2
    rw [ht]
    have e : gIx ⟨.tup ds, k1, e1, c1⟩ ⟨.int i, k2, e2, c2⟩ = .ok (itemR ⟨.non, 0, [], c1⟩ (enc v)) := by
      rw [g_ixT, h]; rfl
    refine ⟨_, e, ?_⟩
    unfold itemR
    split
    · exact ⟨rfl, fun m z => by cases z; rfl, fun j hj => (by cases hj), fun j hj => (by cases hj)⟩
    · exact ⟨rfl, fun m z => by cases z; rfl, hc, hc⟩
def zLst {α : Type} (xs : List α) : Option (List α) := if xs.length ≤ sizeLine then some xs else none
theorem re_cat {xs ys zs : List α} (ha : RE S fa xs ka Ea Ca) (hb : RE S fb ys kb Eb Cb) (h : zLst (xs ++ ys) = some zs) : RE S (fBin gAdd fa fb) zs (some 1) (Ca ++ Cb) (Ca ++ Cb) :=
  re_bin ha hb fun ra rb g1 g2 => by
    obtain ⟨k1, e1, c1, rfl, _, _, h1⟩ := rd1 g1
    obtain ⟨k2, e2, c2, rfl, _, _, h2⟩ := rd1 g2
    unfold zLst at h
    split at h
    · rename_i hz
      cases h
      have hz : (xs.map enc).length + (ys.map enc).length ≤ sizeLine := by rw [List.length_map, List.length_map]; rwa [List.length_append] at hz
      have e : gAdd ⟨enc xs, k1, e1, c1⟩ ⟨enc ys, k2, e2, c2⟩ = .ok ⟨.lst (xs.map enc ++ ys.map enc), 1, c1 ++ c2, c1 ++ c2⟩ := by
        show gAdd ⟨.lst _, _, _, _⟩ ⟨.lst _, _, _, _⟩ = _
        rw [g_addL, if_pos hz]
      have hsub : ∀ i ∈ c1 ++ c2, i ∈ Ca ++ Cb := fun i hi => by
        rcases List.mem_append.mp hi with hi | hi
        · exact List.mem_append_left _ (h1 i hi)
        · exact List.mem_append_right _ (h2 i hi)
      exact ⟨_, e, by show D.lst _ = D.lst _; rw [List.map_append], fun m z => by cases z; rfl, hsub, hsub⟩
    · cases h
def zRep {α : Type} (xs : List α) (k : Int) : Option (List α) := if -(2 ^ 63) ≤ k ∧ k < 2 ^ 63 ∧ xs.length * k.toNat ≤ sizeLine then some (List.replicate k.toNat xs).flatten else none
theorem re_rep {xs ys : List α} {k : Int} (ha : RE S fa xs ka Ea Ca) (hb : RE S fb k kb Eb Cb) (h : zRep xs k = some ys) : RE S (fBin gMul fa fb) ys (some 1) Ca Ca :=
  re_bin ha hb fun ra rb g1 g2 => by
    obtain ⟨k1, e1, c1, rfl, _, _, h1⟩ := rd1 g1
    obtain ⟨k2, e2, c2, rfl, _, _, h2⟩ := rd1 g2
    unfold zRep at h
    split at h
    · rename_i hz
      cases h
      refine ⟨_, show gMul ⟨.lst (xs.map enc), k1, e1, c1⟩ ⟨.int k, k2, e2, c2⟩ = .ok ⟨.lst (repL (xs.map enc) k), 1, c1, c1⟩ by
        unfold gMul
        exact if_pos (by rw [List.length_map]; exact hz), ?_, fun m z => by cases z; rfl, h1, h1⟩
      show D.lst _ = D.lst _
      unfold repL
      rw [List.map_flatten, List.map_replicate]
    · cases h
end
end PyL

namespace PyL
open PySem PySem.Spec L2
open Enc (enc)
set_option autoImplicit false
section
variable {S : Spec} {f g fa fb fc : FE} {i : Nat} {ka kb kc kk : Option Nat} {Ea Ca Eb Cb Ec Cc E C : List Nat} {α β γ δ : Type} [Enc α] [Enc β] [Enc γ] [Enc δ]
/-! ### one and two arguments -/
theorem re_b1 {q : List R → Res R} {a : α} {v : γ} (ha : RE S fa a ka Ea Ca) (h : ∀ ra, Gv ra (enc a) ka Ea Ca → ∃ r, q [ra] = .ok r ∧ Gv r (enc v) kk E C) : RE S (fB q (fCons fa fNil)) v kk E C := fun ρ z => by
  obtain ⟨ra, e1, g1⟩ := ha ρ z
  obtain ⟨r, e, g⟩ := h ra g1
  exact ⟨r, by rw [ap_B, ap_cons, e1, bd_ok, ap_nil, bd_ok, bd_ok, e], g⟩
theorem re_b2 {q : List R → Res R} {a : α} {b : β} {v : γ} (ha : RE S fa a ka Ea Ca) (hb : RE S fb b kb Eb Cb) (h : ∀ ra rb, Gv ra (enc a) ka Ea Ca → Gv rb (enc b) kb Eb Cb → ∃ r, q [ra, rb] = .ok r ∧ Gv r (enc v) kk E C) : RE S (fB q (fCons fa (fCons fb fNil))) v kk E C := fun ρ z => by
  obtain ⟨ra, e1, g1⟩ := ha ρ z
  obtain ⟨rb, e2, g2⟩ := hb ρ z
  obtain ⟨r, e, g⟩ := h ra rb g1 g2
  exact ⟨r, by rw [ap_B, ap_cons, e1, bd_ok, ap_cons, e2, bd_ok, ap_nil, bd_ok, bd_ok, bd_ok, e], g⟩
theorem re_lenL {xs : List α} (ha : RE S fa xs ka Ea Ca) : RE S (fB gLen (fCons fa fNil)) (xs.length : Int) (some 0) [] [] := re_b1 ha fun ra g1 => by
  obtain ⟨k1, e1, c1, rfl, _⟩ := rd1 g1
  exact ⟨_, rfl, by show Gv ⟨.int ((xs.map enc).length : Int), 0, [], []⟩ _ _ _ _; rw [List.length_map]; exact gv0⟩
theorem re_lenT {t : α} {ds : List D} {n : Int} (ht : enc t = .tup ds) (hn : (ds.length : Int) = n) (ha : RE S fa t ka Ea Ca) : RE S (fB gLen (fCons fa fNil)) n (some 0) [] [] := re_b1 ha fun ra g1 => by
  obtain ⟨k1, e1, c1, rfl, _⟩ := rd1 g1
  exact ⟨_, by rw [ht]; rfl, by rw [← hn]; exact gv0⟩
variable {a b : Int}
theorem re_abs (ha : RE S fa a ka Ea Ca) : RE S (fB gAbs (fCons fa fNil)) (if a < 0 then -a else a) (some 0) [] [] := re_b1 ha fun ra g1 => by
  obtain ⟨k1, e1, c1, rfl, _⟩ := rd1 g1
  exact ⟨_, rfl, gv0⟩
theorem re_intI (ha : RE S fa a ka Ea Ca) : RE S (fB gInt (fCons fa fNil)) a (some 0) [] [] := re_b1 ha fun ra g1 => by
  obtain ⟨k1, e1, c1, rfl, _⟩ := rd1 g1
  exact ⟨_, rfl, gv0⟩
def zB2i (b : Bool) : Int := if b then 1 else 0
theorem re_intB {p : Bool} (ha : RE S fa p ka Ea Ca) : RE S (fB gInt (fCons fa fNil)) (zB2i p) (some 0) [] [] := re_b1 ha fun ra g1 => by
  obtain ⟨k1, e1, c1, rfl, _⟩ := rd1 g1
  exact ⟨_, rfl, gv0⟩
theorem re_max2 (ha : RE S fa a ka Ea Ca) (hb : RE S fb b kb Eb Cb) : RE S (fB gMax2 (fCons fa (fCons fb fNil))) (if b > a then b else a) (some 0) [] [] := re_b2 ha hb fun ra rb g1 g2 => by
  obtain ⟨k1, e1, c1, rfl, _⟩ := rd1 g1
  obtain ⟨k2, e2, c2, rfl, _⟩ := rd1 g2
  exact ⟨_, rfl, gv0⟩
theorem re_min2 (ha : RE S fa a ka Ea Ca) (hb : RE S fb b kb Eb Cb) : RE S (fB gMin2 (fCons fa (fCons fb fNil))) (if b < a then b else a) (some 0) [] [] := re_b2 ha hb fun ra rb g1 g2 => by
  obtain ⟨k1, e1, c1, rfl, _⟩ := rd1 g1
  obtain ⟨k2, e2, c2, rfl, _⟩ := rd1 g2
  exact ⟨_, rfl, gv0⟩
theorem re_gcd (ha : RE S fa a ka Ea Ca) (hb : RE S fb b kb Eb Cb) : RE S (fB gGcd (fCons fa (fCons fb fNil))) ((Nat.gcd a.natAbs b.natAbs : Nat) : Int) (some 0) [] [] := re_b2 ha hb fun ra rb g1 g2 => by
  obtain ⟨k1, e1, c1, rfl, _⟩ := rd1 g1
  obtain ⟨k2, e2, c2, rfl, _⟩ := rd1 g2
  exact ⟨_, rfl, gv0⟩
def zLcm (a b : Int) : Option Int := if CLcm a b then some ((Nat.lcm a.natAbs b.natAbs : Nat) : Int) else none
instance (a b : Int) : Decidable (CLcm a b) := inferInstanceAs (Decidable (_ ∧ _))
theorem re_lcm {v : Int} (ha : RE S fa a ka Ea Ca) (hb : RE S fb b kb Eb Cb) (h : zLcm a b = some v) : RE S (fB gLcm (fCons fa (fCons fb fNil))) v (some 0) [] [] := re_b2 ha hb fun ra rb g1 g2 => by
  obtain ⟨k1, e1, c1, rfl, _⟩ := rd1 g1
  obtain ⟨k2, e2, c2, rfl, _⟩ := rd1 g2
  unfold zLcm at h
  split at h
  · rename_i hc
    cases h
    exact ⟨_, g_lcm hc, gv0⟩
  · cases h
def zFac (a : Int) : Option Int := if CFac a then some ((Builtin.Math.factorialNat a.toNat : Nat) : Int) else none
theorem re_fac {v : Int} (ha : RE S fa a ka Ea Ca) (h : zFac a = some v) : RE S (fB gFac (fCons fa fNil)) v (some 0) [] [] := re_b1 ha fun ra g1 => by
  obtain ⟨k1, e1, c1, rfl, _⟩ := rd1 g1
  unfold zFac at h
  split at h
  · rename_i hc
    cases h
    exact ⟨_, by show gFac [⟨.int a, k1, e1, c1⟩] = _; unfold gFac on1; exact if_pos hc, gv0⟩
  · cases h
theorem enc_ints {ns : List Int} : enc ns = .lst (ns.map .int) := rfl
theorem re_sum {ns : List Int} (ha : RE S fa ns ka Ea Ca) : RE S (fB gSum (fCons fa fNil)) ns.sum (some 0) [] [] := re_b1 ha fun ra g1 => by
  obtain ⟨k1, e1, c1, rfl, _⟩ := rd1 g1
  exact ⟨_, g_sum (ns := ns), gv0⟩
def zMin (ns : List Int) : Option Int := if 0 < ns.length then some (minL ns) else none
def zMax (ns : List Int) : Option Int := if 0 < ns.length then some (maxL ns) else none
theorem re_min {ns : List Int} {v : Int} (ha : RE S fa ns ka Ea Ca) (h : zMin ns = some v) : RE S (fB gMin (fCons fa fNil)) v (some 0) [] [] := re_b1 ha fun ra g1 => by
  obtain ⟨k1, e1, c1, rfl, _⟩ := rd1 g1
  unfold zMin at h
  split at h
  · rename_i hc
    cases h
    exact ⟨_, g_min hc, gv0⟩
  · cases h
theorem re_max {ns : List Int} {v : Int} (ha : RE S fa ns ka Ea Ca) (h : zMax ns = some v) : RE S (fB gMax (fCons fa fNil)) v (some 0) [] [] := re_b1 ha fun ra g1 => by
  obtain ⟨k1, e1, c1, rfl, _⟩ := rd1 g1
  unfold zMax at h
  split at h
  · rename_i hc
    cases h
    exact ⟨_, g_max hc, gv0⟩
  · cases h
theorem re_sorted {ns : List Int} (ha : RE S fa ns ka Ea Ca) : RE S (fB gSorted (fCons fa fNil)) (isort ns) (some 1) [] [] := re_b1 ha fun ra g1 => by
  obtain ⟨k1, e1, c1, rfl, _⟩ := rd1 g1
  refine ⟨⟨.lst ((isort ns).map .int), 1, [], []⟩, ?_, rfl, fun m z => by cases z; rfl, fun j hj => (by cases hj), fun j hj => (by cases hj)⟩
  show gSorted [⟨.lst (ns.map .int), k1, e1, c1⟩] = _
  unfold gSorted onInts on1; simp only [ints_map]
theorem re_list {xs : List α} (ha : RE S fa xs ka Ea Ca) : RE S (fB gList (fCons fa fNil)) xs (some 1) Ca Ca := re_b1 ha fun ra g1 => by
  obtain ⟨k1, e1, c1, rfl, _, _, h⟩ := rd1 g1
  exact ⟨_, rfl, rfl, fun m z => by cases z; rfl, h, h⟩
theorem re_rev {xs : List α} (ha : RE S fa xs ka Ea Ca) : RE S (fRevL fa) xs.reverse (some 1) Ca Ca := re_un ha fun ra g1 => by
  obtain ⟨k1, e1, c1, rfl, _, _, h⟩ := rd1 g1
  exact ⟨_, rfl, by show D.lst _ = D.lst _; rw [List.map_reverse], fun m z => by cases z; rfl, h, h⟩
def rgI (n : Nat) : List Int := (List.range n).map fun i : Nat => (i : Int)
theorem rgI_enc {n : Nat} : rgD 0 n = (rgI n).map enc := by rw [rgD_zero]; unfold rgI; rw [List.map_map]; rfl
instance (x : Int) : Decidable (InR x) := inferInstanceAs (Decidable (_ ∧ _))
def zLR (n : Int) : Option (List Int) := if InR n ∧ n.toNat ≤ 2 ^ 24 then some (rgI n.toNat) else none
theorem re_lr1 {xs : List Int} (ha : RE S fa a ka Ea Ca) (h : zLR a = some xs) : RE S (fLR1 fa) xs (some 1) [] [] := re_un ha fun ra g1 => by
  obtain ⟨k1, e1, c1, rfl, _⟩ := rd1 g1
  unfold zLR at h
  split at h
  · rename_i hc
    cases h
    exact ⟨_, lr1_ok hc.1 hc.2, by show D.lst _ = D.lst _; rw [rgI_enc], fun m z => by cases z; rfl, fun j hj => (by cases hj), fun j hj => (by cases hj)⟩
  · cases h
def rgI2 (lo : Int) (n : Nat) : List Int := (List.range n).map fun i : Nat => lo + (i : Int)
theorem rgI2_enc {lo : Int} {n : Nat} : rgD lo n = (rgI2 lo n).map enc := by unfold rgD rgI2; rw [List.map_map]; rfl
def zLR2 (lo hi : Int) : Option (List Int) := if InR lo ∧ InR hi ∧ (hi - lo).toNat ≤ 2 ^ 24 then some (rgI2 lo (hi - lo).toNat) else none
theorem re_lr2 {xs : List Int} (ha : RE S fa a ka Ea Ca) (hb : RE S fb b kb Eb Cb) (h : zLR2 a b = some xs) : RE S (fLR2 fa fb) xs (some 1) [] [] := fun ρ z => by
  obtain ⟨ra, ea, g1⟩ := ha ρ z
  obtain ⟨rb, eb, g2⟩ := hb ρ z
  obtain ⟨k1, e1, c1, rfl, _⟩ := rd1 g1
  obtain ⟨k2, e2, c2, rfl, _⟩ := rd1 g2
  unfold zLR2 at h
  split at h
  · rename_i hc
    cases h
    refine ⟨⟨.lst (rgD a (b - a).toNat), 1, [], []⟩, ?_, by show D.lst _ = D.lst _; rw [rgI2_enc], fun m z => by cases z; rfl, fun j hj => (by cases hj), fun j hj => (by cases hj)⟩
    rw [ap_lr2, ea, bd_ok, eb, bd_ok]
    show lrg a b = _
    unfold lrg
    exact if_pos ⟨hc.1.1, hc.1.2, hc.2.1.1, hc.2.1.2, hc.2.2⟩
  · cases h
/-! slices -/
def zCut {α : Type} (xs : List α) (lo hi : Option Int) : List α := (xs.drop (HT.sIx xs.length 0 lo)).take (HT.sIx xs.length xs.length hi - HT.sIx xs.length 0 lo)
theorem cut_enc {xs : List α} {lo hi : Option Int} : cutD (xs.map enc) lo hi = (zCut xs lo hi).map enc := by
  unfold cutD zCut
  rw [List.length_map, List.map_take, List.map_drop]
def RO (S : Spec) (f : FO) (o : Option Int) : Prop := ∀ ρ, Env ρ S → f ρ = .ok o
theorem ro_none : RO S fNoP none := fun _ _ => rfl
theorem ro_some (ha : RE S fa a ka Ea Ca) : RO S (fPart fa) (some a) := fun ρ z => by
  obtain ⟨ra, ea, g1⟩ := ha ρ z
  obtain ⟨k1, e1, c1, rfl, _⟩ := rd1 g1
  rw [ap_part, ea, bd_ok]; rfl
theorem re_sl {xs : List α} {fl fh : FO} {lo hi : Option Int} (ha : RE S fa xs ka Ea Ca) (hl : RO S fl lo) (hh : RO S fh hi) : RE S (fSl fa fl fh) (zCut xs lo hi) (some 1) Ca Ca := fun ρ z => by
  obtain ⟨ra, ea, g1⟩ := ha ρ z
  obtain ⟨k1, e1, c1, rfl, _, _, h⟩ := rd1 g1
  exact ⟨⟨.lst (cutD (xs.map enc) lo hi), 1, c1, c1⟩, by rw [ap_sl, ea, bd_ok, hl ρ z, bd_ok, hh ρ z, bd_ok]; rfl, by show D.lst _ = D.lst _; rw [cut_enc], fun m z => by cases z; rfl, h, h⟩
/-! None, isinstance -/
class EncN (α : Type) [Enc α] : Prop where
  nn : ∀ a : α, enc a = .non → False
instance : EncN Int := ⟨fun _ h => by cases h⟩
instance : EncN Bool := ⟨fun _ h => by cases h⟩
instance : EncN Str := ⟨fun _ h => by cases h⟩
instance : EncN (List α) := ⟨fun _ h => by cases h⟩
instance : EncN (T2 α β) := ⟨fun _ h => by cases h⟩
instance : EncN (T3 α β γ) := ⟨fun _ h => by cases h⟩
instance : EncN (T4 α β γ δ) := ⟨fun _ h => by cases h⟩
class EncI (α : Type) [Enc α] where
  is : String → Bool
  ok : ∀ (a : α) (T : String), isScr (enc a) = false ∧ isTy T (enc a) = is T
instance : EncI Int := ⟨fun T => "int" == T, fun a T => ⟨rfl, rfl⟩⟩
instance : EncI Bool := ⟨fun T => T == "bool" || T == "int", fun a T => ⟨rfl, rfl⟩⟩
instance : EncI Str := ⟨fun T => "str" == T, fun a T => ⟨rfl, rfl⟩⟩
instance : EncI Unit := ⟨fun T => "NoneType" == T, fun a T => ⟨rfl, rfl⟩⟩
instance : EncI (List α) := ⟨fun T => "list" == T, fun a T => ⟨rfl, rfl⟩⟩
instance : EncI (T2 α β) := ⟨fun T => "tuple" == T, fun a T => ⟨rfl, rfl⟩⟩
instance : EncI (T3 α β γ) := ⟨fun T => "tuple" == T, fun a T => ⟨rfl, rfl⟩⟩
instance : EncI (T4 α β γ δ) := ⟨fun T => "tuple" == T, fun a T => ⟨rfl, rfl⟩⟩
theorem re_isi [EncI α] {x : α} {T : String} {p : Bool} (hp : EncI.is α T = p) (ha : RE S fa x ka Ea Ca) : RE S (fIsi T fa) p (some 0) [] [] := re_un ha fun ra g1 => by
  obtain ⟨k1, e1, c1, rfl, _⟩ := rd1 g1
  obtain ⟨h1, h2⟩ := EncI.ok x T
  exact ⟨_, g_isi h1, by rw [h2, hp]; exact gv0⟩
theorem gIsN_not {neg : Bool} {d : D} {k1 : Nat} {e1 c1 : List Nat} (h : d = .non → False) (hs : isScr d = false) : gIsN neg ⟨d, k1, e1, c1⟩ = .ok ⟨.bl neg, 0, [], []⟩ := by
  cases d <;> first | rfl | exact (h rfl).elim | (simp [isScr] at hs) | (cases neg <;> rfl)
theorem re_isNt [EncN α] [EncI α] {x : α} {neg : Bool} (ha : RE S fa x ka Ea Ca) : RE S (fIsN neg fa) neg (some 0) [] [] := re_un ha fun ra g1 => by
  obtain ⟨k1, e1, c1, rfl, _⟩ := rd1 g1
  exact ⟨_, gIsN_not (EncN.nn x) (EncI.ok x "").1, gv0⟩
theorem re_isNo [EncN α] [EncI α] {x : Option α} (ha : RE S fa x ka Ea Ca) : RE S (fIsN false fa) x.isNone (some 0) [] [] := re_un ha fun ra g1 => by
  obtain ⟨k1, e1, c1, rfl, _⟩ := rd1 g1
  cases x with
  | none => exact ⟨_, rfl, gv0⟩
  | some y => exact ⟨_, gIsN_not (EncN.nn y) (EncI.ok y "").1, gv0⟩
theorem re_isNn [EncN α] [EncI α] {x : Option α} (ha : RE S fa x ka Ea Ca) : RE S (fIsN true fa) x.isSome (some 0) [] [] := re_un ha fun ra g1 => by
  obtain ⟨k1, e1, c1, rfl, _⟩ := rd1 g1
  cases x with
  | none => exact ⟨_, rfl, gv0⟩
  | some y => exact ⟨_, gIsN_not (EncN.nn y) (EncI.ok y "").1, gv0⟩
theorem re_get {x : Option α} {y : α} (h : x = some y) (ha : RE S fa x ka Ea Ca) : RE S fa y ka Ea Ca := by subst h; exact ha
theorem re_opt {y : α} (ha : RE S fa y ka Ea Ca) : RE S fa (some y) ka Ea Ca := ha
theorem re_optN (ha : RE S fa () ka Ea Ca) : RE S fa (none : Option α) ka Ea Ca := ha
theorem re_any {y : α} (ha : RE S fa y ka Ea Ca) : RE S fa (enc y) ka Ea Ca := ha
theorem re_isB {p q : Bool} (ha : RE S fa p ka Ea Ca) (hb : RE S fb q kb Eb Cb) : RE S (fBin (gIsB false) fa fb) (decide (p = q)) (some 0) [] [] := re_bin ha hb fun ra rb g1 g2 => by
  obtain ⟨k1, e1, c1, rfl, _⟩ := rd1 g1
  obtain ⟨k2, e2, c2, rfl, _⟩ := rd1 g2
  exact ⟨_, rfl, gv0⟩
theorem re_isnB {p q : Bool} (ha : RE S fa p ka Ea Ca) (hb : RE S fb q kb Eb Cb) : RE S (fBin (gIsB true) fa fb) (!decide (p = q)) (some 0) [] [] := re_bin ha hb fun ra rb g1 g2 => by
  obtain ⟨k1, e1, c1, rfl, _⟩ := rd1 g1
  obtain ⟨k2, e2, c2, rfl, _⟩ := rd1 g2
  exact ⟨_, rfl, gv0⟩
/-! and, or, not; tests -/
variable {p q r : Bool} {t u : FT}
theorem rt_test (ha : RE S fa p ka Ea Ca) : RT S (fTest fa) p := fun ρ z => by
  obtain ⟨ra, ea, g1⟩ := ha ρ z
  obtain ⟨k1, e1, c1, rfl, _⟩ := rd1 g1
  rw [ap_test, ea, bd_ok]; rfl
theorem rt_not (h : RT S t p) : RT S (fNotT t) (!p) := fun ρ z => by rw [ap_notT, h ρ z]; rfl
theorem rt_and (h : RT S t p) (h' : RT S u q) : RT S (fAndT t u) (p && q) := fun ρ z => by
  rw [ap_andT, h ρ z, bd_ok]
  cases p
  · rfl
  · exact h' ρ z
theorem rt_or (h : RT S t p) (h' : RT S u q) : RT S (fOrT t u) (p || q) := fun ρ z => by
  rw [ap_orT, h ρ z, bd_ok]
  cases p
  · exact h' ρ z
  · rfl
def zAnd (p : Bool) (o : Option Bool) : Option Bool := if p = true then o else some false
def zOr (p : Bool) (o : Option Bool) : Option Bool := if p = true then some true else o
theorem rt_andM {o : Option Bool} (h : RT S t p) (h' : ∀ q, o = some q → RT S u q) (e : zAnd p o = some r) : RT S (fAndT t u) r := fun ρ z => by
  rw [ap_andT, h ρ z, bd_ok]
  cases p
  · cases e; rfl
  · exact h' r e ρ z
theorem rt_orM {o : Option Bool} (h : RT S t p) (h' : ∀ q, o = some q → RT S u q) (e : zOr p o = some r) : RT S (fOrT t u) r := fun ρ z => by
  rw [ap_orT, h ρ z, bd_ok]
  cases p
  · exact h' r e ρ z
  · cases e; rfl
theorem re_and (ha : RE S fa p ka Ea Ca) (hb : RE S fb q kb Eb Cb) : RE S (fAndV fa fb) (p && q) none Eb Cb := fun ρ z => by
  obtain ⟨ra, ea, g1⟩ := ha ρ z
  obtain ⟨k1, e1, c1, rfl, _⟩ := rd1 g1
  rw [ap_andV, ea, bd_ok]
  cases p with
  | false => exact ⟨⟨.bl false, 0, [], []⟩, rfl, rfl, fun m z => (by cases z), fun j hj => (by cases hj), fun j hj => (by cases hj)⟩
  | true => exact re_anyk hb ρ z
theorem re_or (ha : RE S fa p ka Ea Ca) (hb : RE S fb q kb Eb Cb) : RE S (fOrV fa fb) (p || q) none Eb Cb := fun ρ z => by
  obtain ⟨ra, ea, g1⟩ := ha ρ z
  obtain ⟨k1, e1, c1, rfl, _⟩ := rd1 g1
  rw [ap_orV, ea, bd_ok]
  cases p with
  | true => exact ⟨⟨.bl true, 0, [], []⟩, rfl, rfl, fun m z => (by cases z), fun j hj => (by cases hj), fun j hj => (by cases hj)⟩
  | false => exact re_anyk hb ρ z
theorem re_andM {o : Option Bool} (ha : RE S fa p ka Ea Ca) (hb : ∀ q, o = some q → RE S fb q kb Eb Cb) (e : zAnd p o = some r) : RE S (fAndV fa fb) r none Eb Cb := by
  cases p with
  | false =>
    cases e
    intro ρ z
    obtain ⟨ra, ea, g1⟩ := ha ρ z
    obtain ⟨k1, e1, c1, rfl, _⟩ := rd1 g1
    rw [ap_andV, ea, bd_ok]
    exact ⟨⟨.bl false, 0, [], []⟩, rfl, rfl, fun m z => (by cases z), fun j hj => (by cases hj), fun j hj => (by cases hj)⟩
  | true => exact re_and ha (hb r e)
theorem re_orM {o : Option Bool} (ha : RE S fa p ka Ea Ca) (hb : ∀ q, o = some q → RE S fb q kb Eb Cb) (e : zOr p o = some r) : RE S (fOrV fa fb) r none Eb Cb := by
  cases p with
  | true =>
    cases e
    intro ρ z
    obtain ⟨ra, ea, g1⟩ := ha ρ z
    obtain ⟨k1, e1, c1, rfl, _⟩ := rd1 g1
    rw [ap_orV, ea, bd_ok]
    exact ⟨⟨.bl true, 0, [], []⟩, rfl, rfl, fun m z => (by cases z), fun j hj => (by cases hj), fun j hj => (by cases hj)⟩
  | false => exact re_or ha (hb r e)
theorem re_notV (ha : RE S fa p ka Ea Ca) : RE S (fNotV fa) (!p) (some 0) [] [] := fun ρ z => by
  obtain ⟨ra, ea, g1⟩ := ha ρ z
  obtain ⟨k1, e1, c1, rfl, _⟩ := rd1 g1
  exact ⟨_, by rw [ap_notV, ea, bd_ok]; rfl, gv0⟩
/-- a if t else b -/
theorem re_iteM {x y : Option α} {v : α} (ht : RT S t p) (ha : ∀ w, x = some w → RE S fa w kk E C) (hb : ∀ w, y = some w → RE S fb w kk E C) (e : (if p = true then x else y) = some v) : RE S (fIte t fa fb) v kk E C := fun ρ z => by
  rw [ap_ite, ht ρ z, bd_ok]
  cases p with
  | true => exact ha v e ρ z
  | false => exact hb v e ρ z
/-- a < b < c -/
theorem re_chain {h1 : Int → Int → Bool} {g' : G2} {a b c : Int} (ha : RE S fa a ka Ea Ca) (hb : RE S fb b kb Eb Cb) (hc : RE S fc c kc Ec Cc) (hg : ∀ k1 e1 c1 k2 e2 c2, g' ⟨.int b, k1, e1, c1⟩ ⟨.int c, k2, e2, c2⟩ = .ok ⟨.bl q, 0, [], []⟩) : RE S (fChain (gCmp h1) g' fa fb fc) (h1 a b && q) (some 0) [] [] := fun ρ z => by
  obtain ⟨ra, ea, g1⟩ := ha ρ z
  obtain ⟨rb, eb, g2⟩ := hb ρ z
  obtain ⟨rc, ec, g3⟩ := hc ρ z
  obtain ⟨k1, e1, c1, rfl, _⟩ := rd1 g1
  obtain ⟨k2, e2, c2, rfl, _⟩ := rd1 g2
  obtain ⟨k3, e3, c3, rfl, _⟩ := rd1 g3
  rw [ap_chain, ea, bd_ok, eb, bd_ok]
  show ∃ r, (Res.bind (okB (h1 a b)) fun r => (toB r).bind fun k => if k then (fc ρ).bind fun rc => g' _ rc else okB false) = _ ∧ _
  cases h1 a b with
  | false => exact ⟨_, rfl, gv0⟩
  | true =>
    rw [ec]
    exact ⟨_, hg k2 e2 c2 k3 e3 c3, gv0⟩
/-! argument lists, tuples, lists, calls -/
def RA (S : Spec) (f : FA) (ds : List D) (m : Option Nat) (E : List Nat) : Prop := ∀ ρ, Env ρ S → ∃ rs, f ρ = .ok rs ∧ rs.map (·.d) = ds ∧ (∀ k, m = some k → ∀ r ∈ rs, scal r.d = true ∨ r.k = k) ∧ ∀ i ∈ esL rs, i ∈ E
variable {A : FA} {ds : List D} {m : Option Nat}
theorem ra_nil : RA S fNil [] m [] := fun ρ z => ⟨[], rfl, rfl, fun _ _ r hr => (by cases hr), fun i hi => (by cases hi)⟩
theorem ra_gen {v : α} {E' : List Nat} (h : RE S f v kk Ea Ca) (t : RA S A ds m E) (hm : ∀ k, m = some k → scal (enc v) = true ∨ kk = some k) (he : Ea ++ E = E') : RA S (fCons f A) (enc v :: ds) m E' := fun ρ z => by
  obtain ⟨r, e, a, b, c, d⟩ := h ρ z
  obtain ⟨rs, e', a', b', c'⟩ := t ρ z
  refine ⟨r :: rs, by rw [ap_cons, e, bd_ok, e', bd_ok], by rw [List.map_cons, a, a'], fun k hk q hq => ?_, fun i hi => ?_⟩
  · rcases List.mem_cons.mp hq with rfl | hq
    · rcases hm k hk with hs | hs
      · exact .inl (a ▸ hs)
      · exact .inr (b k hs)
    · exact b' k hk q hq
  · rw [← he]
    rw [es_c] at hi
    rcases List.mem_append.mp hi with hi | hi
    · exact List.mem_append_left _ (c i hi)
    · exact List.mem_append_right _ (c' i hi)
theorem ra_n {v : α} (h : RE S f v kk Ea Ca) (t : RA S A ds none E) : RA S (fCons f A) (enc v :: ds) none (Ea ++ E) := ra_gen h t (fun _ z => by cases z) rfl
theorem ra_s [EncS α] {v : α} (h : RE S f v kk Ea Ca) (t : RA S A ds m E) : RA S (fCons f A) (enc v :: ds) m (Ea ++ E) := ra_gen h t (fun _ _ => .inl (EncS.sc v)) rfl
theorem ra_k {v : α} (h : RE S f v m Ea Ca) (t : RA S A ds m E) : RA S (fCons f A) (enc v :: ds) m (Ea ++ E) := ra_gen h t (fun _ z => .inr z) rfl
theorem cd_eq {rs : List R} {k : Nat} (h : ∀ r ∈ rs, scal r.d = true ∨ r.k = k) (hx : k = 0 ∨ ∃ r ∈ rs, scal r.d = false) : cDepth rs = k := by
  unfold cDepth
  split
  · rename_i q
    rcases hx with hx | ⟨r, hr, hs⟩
    · exact hx.symm
    · have : r ∈ rs.filter fun r => !scal r.d := List.mem_filter.mpr ⟨hr, by simp [hs]⟩
      rw [q] at this; cases this
  · rename_i r t q
    have key : ∀ x ∈ r :: t, x.k = k := fun x hx => by
      rw [← q] at hx
      obtain ⟨h1, h2⟩ := List.mem_filter.mp hx
      rcases h x h1 with h3 | h3
      · rw [h3] at h2; cases h2
      · exact h3
    have hr := key r List.mem_cons_self
    split
    · exact hr
    · rename_i hn
      refine (hn ?_).elim
      refine List.all_eq_true.mpr fun x hx => ?_
      rw [hr, key x (List.mem_cons_of_mem _ hx)]; simp
theorem re_tup0 {v : α} (hv : enc v = .tup ds) (hl : ds.length ≤ 1000) (h : RA S A ds (some 0) E) : RE S (fTup A) v (some 0) E E := fun ρ z => by
  obtain ⟨rs, e, a, b, c⟩ := h ρ z
  have hl' : rs.length ≤ 1000 := by have := congrArg List.length a; rw [List.length_map] at this; omega
  refine ⟨⟨.tup ds, 0, esL rs, esL rs⟩, ?_, hv.symm, fun m z => by cases z; rfl, c, c⟩
  rw [ap_tup, e, bd_ok, dt_g (szn _ hl'), cd_eq (b 0 rfl) (.inl rfl), a]; rfl
theorem re_tupK {v : α} {k : Nat} (hv : enc v = .tup ds) (hl : ds.length ≤ 1000) (h : RA S A ds (some (k + 1)) E) (hx : ∃ d ∈ ds, scal d = false) : RE S (fTup A) v (some (k + 2)) E E := fun ρ z => by
  obtain ⟨rs, e, a, b, c⟩ := h ρ z
  have hl' : rs.length ≤ 1000 := by have := congrArg List.length a; rw [List.length_map] at this; omega
  refine ⟨⟨.tup ds, k + 2, esL rs, esL rs⟩, ?_, hv.symm, fun m z => by cases z; rfl, c, c⟩
  rw [ap_tup, e, bd_ok, dt_g (szn _ hl'), cd_eq (b (k + 1) rfl) (.inr (by
    obtain ⟨d, hd, hs⟩ := hx
    rw [← a] at hd
    obtain ⟨r, hr, rfl⟩ := List.mem_map.mp hd
    exact ⟨r, hr, hs⟩)), a]; rfl
theorem re_tupN {v : α} (hv : enc v = .tup ds) (hl : ds.length ≤ 1000) (h : RA S A ds m E) : RE S (fTup A) v none E E := fun ρ z => by
  obtain ⟨rs, e, a, b, c⟩ := h ρ z
  have hl' : rs.length ≤ 1000 := by have := congrArg List.length a; rw [List.length_map] at this; omega
  refine ⟨⟨.tup ds, if cDepth rs = 0 then 0 else cDepth rs + 1, esL rs, esL rs⟩, ?_, hv.symm, fun m z => (by cases z), c, c⟩
  rw [ap_tup, e, bd_ok, dt_g (szn _ hl'), a]
theorem re_lst0 {v : α} (hv : enc v = .lst ds) (hl : ds.length ≤ 1000) (h : RA S A ds (some 0) E) : RE S (fLst A) v (some 1) E E := fun ρ z => by
  obtain ⟨rs, e, a, b, c⟩ := h ρ z
  have hl' : rs.length ≤ 1000 := by have := congrArg List.length a; rw [List.length_map] at this; omega
  refine ⟨⟨.lst ds, 1, esL rs, esL rs⟩, ?_, hv.symm, fun m z => by cases z; rfl, c, c⟩
  rw [ap_lst, e, bd_ok, dl_g (szn _ hl'), cd_eq (b 0 rfl) (.inl rfl), a]
theorem re_lstK {v : α} {k : Nat} (hv : enc v = .lst ds) (hl : ds.length ≤ 1000) (h : RA S A ds (some (k + 1)) E) (hx : ∃ d ∈ ds, scal d = false) : RE S (fLst A) v (some (k + 2)) E E := fun ρ z => by
  obtain ⟨rs, e, a, b, c⟩ := h ρ z
  have hl' : rs.length ≤ 1000 := by have := congrArg List.length a; rw [List.length_map] at this; omega
  refine ⟨⟨.lst ds, k + 2, esL rs, esL rs⟩, ?_, hv.symm, fun m z => by cases z; rfl, c, c⟩
  rw [ap_lst, e, bd_ok, dl_g (szn _ hl'), cd_eq (b (k + 1) rfl) (.inr (by
    obtain ⟨d, hd, hs⟩ := hx
    rw [← a] at hd
    obtain ⟨r, hr, rfl⟩ := List.mem_map.mp hd
    exact ⟨r, hr, hs⟩)), a]
theorem re_lstN {v : α} (hv : enc v = .lst ds) (hl : ds.length ≤ 1000) (h : RA S A ds m E) : RE S (fLst A) v none E E := fun ρ z => by
  obtain ⟨rs, e, a, b, c⟩ := h ρ z
  have hl' : rs.length ≤ 1000 := by have := congrArg List.length a; rw [List.length_map] at this; omega
  refine ⟨⟨.lst ds, cDepth rs + 1, esL rs, esL rs⟩, ?_, hv.symm, fun m z => (by cases z), c, c⟩
  rw [ap_lst, e, bd_ok, dl_g (szn _ hl'), a]
theorem re_nil {dep : Nat} : RE S (fLstE dep) ([] : List α) (some (dep + 1)) [] [] := fun ρ z => ⟨_, rfl, rfl, fun m z => by cases z; rfl, fun j hj => (by cases hj), fun j hj => (by cases hj)⟩
/-- what a def answers -/
def DR (o : Res (D × Nat)) (d : D) (kk : Option Nat) : Prop := ∃ k, o = .ok (d, k) ∧ ∀ m, kk = some m → k = m
theorem callE_sub {rs : List R} {d : D} {k : Nat} (h : ∀ i ∈ esL rs, i ∈ E) : ∀ i ∈ callE rs d k, i ∈ E := fun i hi => by
  unfold callE at hi
  split at hi
  · cases hi
  · exact h i hi
theorem re_callS [EncS α] {n : Nat} {sem : DS} {v : α} (h : DR (sem ds) (enc v) kk) (hn : ds.length = n) (t : RA S A ds m E) : RE S (fCall n sem A) v none [] [] := fun ρ z => by
  obtain ⟨rs, e, a, b, c⟩ := t ρ z
  obtain ⟨k, e2, hk⟩ := h
  have hl : rs.length = n := by rw [← hn, ← a, List.length_map]
  refine ⟨⟨enc v, k, [], []⟩, ?_, rfl, fun m z => (by cases z), fun j hj => (by cases hj), fun j hj => (by cases hj)⟩
  rw [ap_call, e, bd_ok, cl_ok hl (by rw [a]; exact e2), cv_af]
  have := EncS.sc v
  generalize enc v = d at this
  cases d <;> first | (simp [scal] at this; done) | (cases k <;> rfl)
theorem re_callF [EncF α] {n k : Nat} {sem : DS} {v : α} (hd : EncF.dp α ≤ k) (h : DR (sem ds) (enc v) (some k)) (hn : ds.length = n) (t : RA S A ds m E) : RE S (fCall n sem A) v (some k) [] [] := fun ρ z => by
  obtain ⟨rs, e, a, b, c⟩ := t ρ z
  obtain ⟨k', e2, hk⟩ := h
  have hk : k' = k := hk k rfl
  subst hk
  have hl : rs.length = n := by rw [← hn, ← a, List.length_map]
  refine ⟨⟨enc v, k', [], []⟩, ?_, rfl, fun m z => by cases z; rfl, fun j hj => (by cases hj), fun j hj => (by cases hj)⟩
  rw [ap_call, e, bd_ok, cl_ok hl (by rw [a]; exact e2), cv_af (af_up _ (EncF.ok v) hd)]
theorem re_callE {n : Nat} {sem : DS} {v : α} (h : DR (sem ds) (enc v) kk) (hn : ds.length = n) (t : RA S A ds m E) : RE S (fCall n sem A) v kk E E := fun ρ z => by
  obtain ⟨rs, e, a, b, c⟩ := t ρ z
  obtain ⟨k, e2, hk⟩ := h
  have hl : rs.length = n := by rw [← hn, ← a, List.length_map]
  exact ⟨⟨enc v, k, callE rs (enc v) k, callE rs (enc v) k⟩, by rw [ap_call, e, bd_ok, cl_any hl (by rw [a]; exact e2)], rfl, hk, callE_sub c, callE_sub c⟩
theorem re_yes : RT S fYes true := fun _ _ => rfl
end
end PyL

namespace PyL
open PySem PySem.Spec L2
open Enc (enc)
set_option autoImplicit false
section
variable {S S2 S3 : Spec} {f g fa fb fc : FE} {i : Nat} {ka kb kc kk : Option Nat} {Ea Ca Eb Cb Ec Cc E C : List Nat} {α β γ δ : Type} [Enc α] [Enc β] [Enc γ] [Enc δ] {a b : Int}
/-! ### what is walked over -/
def RI (S : Spec) (it : FI) (xs : List α) (E C : List Nat) : Prop := ∀ ρ, Env ρ S → ∃ s, it ρ = .ok s ∧ s.ds = xs.map enc ∧ (∀ i ∈ s.e, i ∈ E) ∧ ∀ i ∈ s.c, i ∈ C
theorem ri_seq {xs : List α} (ha : RE S fa xs ka E C) : RI S (fSeqI fa) xs E C := fun ρ z => by
  obtain ⟨ra, ea, g1⟩ := ha ρ z
  obtain ⟨k1, e1, c1, rfl, _, h1, h2⟩ := rd1 g1
  exact ⟨_, by rw [ap_seqI, ea, bd_ok]; rfl, rfl, h1, h2⟩
def zRng (n : Int) : Option (List Int) := if InR n then some (rgI n.toNat) else none
theorem ri_rng1 {xs : List Int} (ha : RE S fa a ka Ea Ca) (h : zRng a = some xs) : RI S (fRng1 (fCons fa fNil)) xs [] [] := fun ρ z => by
  obtain ⟨ra, ea, g1⟩ := ha ρ z
  obtain ⟨k1, e1, c1, rfl, _⟩ := rd1 g1
  unfold zRng at h
  split at h
  · rename_i hc
    cases h
    refine ⟨⟨rgD 0 a.toNat, [], []⟩, ?_, rgI_enc, fun j hj => (by cases hj), fun j hj => (by cases hj)⟩
    rw [ap_rng1, ap_cons, ea, bd_ok, ap_nil, bd_ok, bd_ok]
    exact r1_ok hc
  · cases h
def zRng2 (lo hi : Int) : Option (List Int) := if InR lo ∧ InR hi then some (rgI2 lo (hi - lo).toNat) else none
theorem ri_rng2 {xs : List Int} (ha : RE S fa a ka Ea Ca) (hb : RE S fb b kb Eb Cb) (h : zRng2 a b = some xs) : RI S (fRng2 (fCons fa (fCons fb fNil))) xs [] [] := fun ρ z => by
  obtain ⟨ra, ea, g1⟩ := ha ρ z
  obtain ⟨rb, eb, g2⟩ := hb ρ z
  obtain ⟨k1, e1, c1, rfl, _⟩ := rd1 g1
  obtain ⟨k2, e2, c2, rfl, _⟩ := rd1 g2
  unfold zRng2 at h
  split at h
  · rename_i hc
    cases h
    refine ⟨⟨rgD a (b - a).toNat, [], []⟩, ?_, rgI2_enc, fun j hj => (by cases hj), fun j hj => (by cases hj)⟩
    rw [ap_rng2, ap_cons, ea, bd_ok, ap_cons, eb, bd_ok, ap_nil, bd_ok, bd_ok, bd_ok]
    exact r2_ok hc.1 hc.2
  · cases h
def rgI3 (lo c : Int) (n : Nat) : List Int := (List.range n).map fun i : Nat => lo + (i : Int) * c
def zRng3 (lo hi c : Int) : Option (List Int) := if RgC lo hi c (Builtin.Range.rangeSize lo hi c).toNat then some (rgI3 lo c (Builtin.Range.rangeSize lo hi c).toNat) else none
theorem ri_rng3 {c : Int} {xs : List Int} (ha : RE S fa a ka Ea Ca) (hb : RE S fb b kb Eb Cb) (hc : RE S fc c kc Ec Cc) (h : zRng3 a b c = some xs) : RI S (fRng3 (fCons fa (fCons fb (fCons fc fNil)))) xs [] [] := fun ρ z => by
  obtain ⟨ra, ea, g1⟩ := ha ρ z
  obtain ⟨rb, eb, g2⟩ := hb ρ z
  obtain ⟨rc, ec, g3⟩ := hc ρ z
  obtain ⟨k1, e1, c1, rfl, _⟩ := rd1 g1
  obtain ⟨k2, e2, c2, rfl, _⟩ := rd1 g2
  obtain ⟨k3, e3, c3, rfl, _⟩ := rd1 g3
  unfold zRng3 at h
  split at h
  · rename_i hc
    cases h
    refine ⟨⟨rcD a c (Builtin.Range.rangeSize a b c).toNat, [], []⟩, ?_, by unfold rcD rgI3; rw [List.map_map]; rfl, fun j hj => (by cases hj), fun j hj => (by cases hj)⟩
    rw [ap_rng3, ap_cons, ea, bd_ok, ap_cons, eb, bd_ok, ap_cons, ec, bd_ok, ap_nil, bd_ok, bd_ok, bd_ok, bd_ok]
    exact rng3_ok hc
  · cases h
theorem ri_rev {xs : List α} (ha : RE S fa xs ka E C) : RI S (fRevI (fCons fa fNil)) xs.reverse E C := fun ρ z => by
  obtain ⟨ra, ea, g1⟩ := ha ρ z
  obtain ⟨k1, e1, c1, rfl, _, h1, h2⟩ := rd1 g1
  refine ⟨⟨(xs.map enc).reverse, e1, c1⟩, ?_, by rw [List.map_reverse], h1, h2⟩
  rw [ap_revI, ap_cons, ea, bd_ok, ap_nil, bd_ok, bd_ok]; rfl
/-! targets -/
def BG (tg : FG) (vs : List Nat) (x : α) (S S2 : Spec) : Prop := ∀ ρ, Env ρ S → ∃ ρ2, tg (enc x) (wipeE ρ vs) = some ρ2 ∧ Env ρ2 S2
theorem bg_n {vs : List Nat} {x : α} (hS : (wipeS S vs).set i (some (enc x, some 0)) = S2) : BG (gN i) vs x S S2 := fun ρ z => ⟨_, rfl, hS ▸ (z.wipe vs).set i (fun m q => by cases q; rfl)⟩
def setG : List Nat → List D → Spec → Spec
  | i :: is, d :: ds, S => setG is ds (S.set i (some (d, some 0)))
  | _, _, S => S
theorem gTs_env : ∀ {is : List Nat} {ds : List D} {ρ : Ev} {S : Spec}, is.length = ds.length → Env ρ S → ∃ ρ2, gTs is ds ρ = some ρ2 ∧ Env ρ2 (setG is ds S)
  | [], [], ρ, S, _, z => ⟨ρ, rfl, z⟩
  | i :: is, d :: ds, ρ, S, h, z => gTs_env (is := is) (ds := ds) (by simpa using h) (z.set i (kk := some 0) (fun m q => by cases q; rfl))
  | [], _ :: _, _, _, h, _ => by simp at h
  | _ :: _, [], _, _, h, _ => by simp at h
theorem bg_t {vs is : List Nat} {x : α} {ds : List D} (hx : enc x = .tup ds) (hl : is.length = ds.length) (hS : setG is ds (wipeS S vs) = S2) : BG (gT is) vs x S S2 := fun ρ z => by
  obtain ⟨ρ2, e, z2⟩ := gTs_env (is := is) (ds := ds) hl (z.wipe vs)
  exact ⟨ρ2, by rw [hx]; exact e, hS ▸ z2⟩
/-! comprehensions -/
def zFilM {α β : Type} (f : α → Option (Option β)) : List α → Option (List β)
  | [] => some []
  | x :: xs => (f x).bind fun o => (zFilM f xs).bind fun ys => some (match o with
    | none => ys
    | some y => y :: ys)
def zMapM {α β : Type} (f : α → Option β) : List α → Option (List β)
  | [] => some []
  | x :: xs => (f x).bind fun y => (zMapM f xs).bind fun ys => some (y :: ys)
theorem zFilM_pure {α β : Type} {p : α → Bool} {h : α → β} : ∀ {xs : List α}, zFilM (fun x => some (if p x = true then some (h x) else none)) xs = some ((xs.filter p).map h)
  | [] => rfl
  | x :: xs => by
    unfold zFilM
    rw [zFilM_pure]
    cases hp : p x <;> simp [hp]
theorem zFilM_map {α β : Type} {h : α → Option β} : ∀ {xs : List α}, zFilM (fun x => (h x).bind fun y => some (some y)) xs = zMapM h xs
  | [] => rfl
  | x :: xs => by
    unfold zFilM zMapM
    rw [zFilM_map]
    cases h x <;> rfl
def GvL (kk : Option Nat) (E C : List Nat) : List R → List D → Prop
  | [], [] => True
  | r :: rs, d :: ds => Gv r d kk E C ∧ GvL kk E C rs ds
  | _, _ => False
theorem GvL.all {kk : Option Nat} {E C : List Nat} : ∀ {rs : List R} {ds : List D}, GvL kk E C rs ds → rs.map (·.d) = ds ∧ (∀ r ∈ rs, ∃ d ∈ ds, Gv r d kk E C) ∧ ∀ i ∈ esL rs, i ∈ E
  | [], [], _ => ⟨rfl, fun r h => (by cases h), fun i h => (by cases h)⟩
  | r :: rs, d :: ds, h => by
    obtain ⟨a, b, c⟩ := h.2.all
    refine ⟨by rw [List.map_cons, a, h.1.1], fun q hq => ?_, fun i hi => ?_⟩
    · rcases List.mem_cons.mp hq with rfl | hq
      · exact ⟨d, List.mem_cons_self, h.1⟩
      · obtain ⟨d', h1, h2⟩ := b q hq
        exact ⟨d', List.mem_cons_of_mem _ h1, h2⟩
    · rw [es_c] at hi
      rcases List.mem_append.mp hi with hi | hi
      · exact h.1.2.2.1 i hi
      · exact c i hi
  | [], _ :: _, h => h.elim
  | _ :: _, [], h => h.elim
theorem compL_t {tg : FG} {tt : FT} {te : FE} {ρ : Ev} {fm : α → Option (Option β)} : ∀ {xs : List α} {ys : List β}, (∀ x ∈ xs, ∀ o, fm x = some o → ∃ ρ2, tg (enc x) ρ = some ρ2 ∧ tt ρ2 = .ok o.isSome ∧ ∀ y, o = some y → ∃ r, te ρ2 = .ok r ∧ Gv r (enc y) kk E C) → zFilM fm xs = some ys →
    ∃ rs, compL tg tt te ρ (xs.map enc) = .ok rs ∧ GvL kk E C rs (ys.map enc)
  | [], ys, _, h => by cases h; exact ⟨[], rfl, trivial⟩
  | x :: xs, ys, hb, h => by
    unfold zFilM at h
    obtain ⟨o, ho, h⟩ := bnd h
    obtain ⟨zs, hz, h⟩ := bnd h
    obtain ⟨ρ2, e1, e2, e3⟩ := hb x List.mem_cons_self o ho
    obtain ⟨rs, e4, g4⟩ := compL_t (fun y hy => hb y (List.mem_cons_of_mem _ hy)) hz
    rw [List.map_cons]
    unfold compL
    rw [e1]
    simp only [e2, noX, bd_ok]
    cases o with
    | none =>
      cases h
      exact ⟨rs, by simpa using e4, g4⟩
    | some y =>
      cases h
      obtain ⟨r, e5, g5⟩ := e3 y rfl
      refine ⟨r :: rs, ?_, g5, g4⟩
      simp only [Option.isSome_some, if_true, e5, e4, bd_ok]
theorem comp_gen {dep : Nat} {it : FI} {tg : FG} {tt : FT} {te : FE} {vs : List Nat} {xs : List α} {ys zs : List β} {Ei Ci : List Nat} {fm : α → Option (Option β)} (hi : RI S it xs Ei Ci)
    (hb : ∀ x o, x ∈ xs → fm x = some o → ∃ S2, BG tg vs x (frzS Ci S) S2 ∧ RT S2 tt o.isSome ∧ ∀ y, o = some y → RE S2 te y kk E C) (h1 : zFilM fm xs = some ys) (h2 : zLst ys = some zs) :
    zs = ys ∧ ys.length ≤ sizeLine ∧ ∀ ρ, Env ρ S → ∃ rs c, GvL kk E C rs (ys.map enc) ∧ (∀ i ∈ c, i ∈ Ci) ∧ fComp dep it tg tt te vs ρ = dispC dep c rs := by
  unfold zLst at h2
  split at h2
  · rename_i hl
    cases h2
    refine ⟨rfl, hl, fun ρ z => ?_⟩
    obtain ⟨s, e1, e2, e3, e4⟩ := hi ρ z
    obtain ⟨rs, e5, g5⟩ := compL_t (tg := tg) (tt := tt) (te := te) (ρ := wipeE (frzL s.c ρ) vs) (kk := kk) (E := E) (C := C) (fm := fm) (xs := xs) (ys := ys) (fun x hx o ho => by
      obtain ⟨S2, b1, b2, b3⟩ := hb x o hx ho
      obtain ⟨ρ2, q1, q2⟩ := b1 _ (z.frz e4)
      exact ⟨ρ2, q1, b2 ρ2 q2, fun y hy => b3 y hy ρ2 q2⟩) h1
    exact ⟨rs, s.c, g5, e4, by rw [ap_comp, e1, bd_ok, e2, e5, bd_ok]⟩
  · cases h2
theorem hdep_of {dep : Nat} {rs : List R} (h : ∀ r ∈ rs, scal r.d = true ∨ r.k = dep) : hDep dep rs = dep := by
  unfold hDep
  rw [if_pos]
  exact List.all_eq_true.mpr fun r hr => by rcases h r hr with q | q <;> simp [q]
/-- .. wholly new -/
theorem re_cF [EncF β] {dep : Nat} {it : FI} {tg : FG} {tt : FT} {te : FE} {vs : List Nat} {xs : List α} {ys zs : List β} {Ei Ci : List Nat} {fm : α → Option (Option β)} (hd : EncF.dp β ≤ dep) (hk : (∀ y : β, scal (enc y) = true) ∨ kk = some dep) (hi : RI S it xs Ei Ci)
    (hb : ∀ x o, x ∈ xs → fm x = some o → ∃ S2, BG tg vs x (frzS Ci S) S2 ∧ RT S2 tt o.isSome ∧ ∀ y, o = some y → RE S2 te y kk E C) (h1 : zFilM fm xs = some ys) (h2 : zLst ys = some zs) : RE S (fComp dep it tg tt te vs) zs (some (dep + 1)) [] [] := by
  obtain ⟨rfl, hl, key⟩ := comp_gen (dep := dep) hi hb h1 h2
  intro ρ z
  obtain ⟨rs, c, gl, _, e⟩ := key ρ z
  obtain ⟨a1, a2, a3⟩ := gl.all
  refine ⟨⟨enc zs, dep + 1, [], []⟩, ?_, rfl, fun m z => by cases z; rfl, fun j hj => (by cases hj), fun j hj => (by cases hj)⟩
  rw [e]
  have hl' : rs.length ≤ sizeLine := by have := congrArg List.length a1; rw [List.length_map, List.length_map] at this; omega
  have hh : hDep dep rs = dep := hdep_of fun r hr => by
    obtain ⟨d, hd, g⟩ := a2 r hr
    rcases hk with hk | hk
    · obtain ⟨y, _, rfl⟩ := List.mem_map.mp hd
      exact .inl (by rw [g.1]; exact hk y)
    · exact .inr (g.2.1 dep hk)
  unfold dispC
  rw [if_pos hl']
  simp only [hh, a1]
  exact if_pos (af_lst fun d hd' => by
    obtain ⟨y, _, rfl⟩ := List.mem_map.mp hd'
    exact af_up _ (EncF.ok y) hd)
/-- .. sharing -/
theorem re_cE {it : FI} {tg : FG} {tt : FT} {te : FE} {vs : List Nat} {xs : List α} {ys zs : List β} {Ei Ci : List Nat} {fm : α → Option (Option β)} (hi : RI S it xs Ei Ci)
    (hb : ∀ x o, x ∈ xs → fm x = some o → ∃ S2, BG tg vs x (frzS Ci S) S2 ∧ RT S2 tt o.isSome ∧ ∀ y, o = some y → RE S2 te y kk E C) (h1 : zFilM fm xs = some ys) (h2 : zLst ys = some zs) : RE S (fComp 0 it tg tt te vs) zs (some 1) (Ci ++ E) (Ci ++ E) := by
  obtain ⟨rfl, hl, key⟩ := comp_gen (dep := 0) hi hb h1 h2
  intro ρ z
  obtain ⟨rs, c, gl, hc, e⟩ := key ρ z
  obtain ⟨a1, a2, a3⟩ := gl.all
  have hl' : rs.length ≤ sizeLine := by have := congrArg List.length a1; rw [List.length_map, List.length_map] at this; omega
  have hh : hDep 0 rs = 0 := by unfold hDep; split <;> rfl
  have e2 : dispC 0 c rs = if af 1 (.lst (zs.map enc)) = true then .ok ⟨.lst (zs.map enc), 1, [], []⟩ else .ok ⟨.lst (zs.map enc), 1, c ++ esL rs, c ++ esL rs⟩ := by
    unfold dispC
    rw [if_pos hl']
    simp only [hh, a1]
  rw [e, e2]
  by_cases q : af 1 (.lst (zs.map enc)) = true
  · rw [if_pos q]
    exact ⟨_, rfl, rfl, fun m z => by cases z; rfl, fun j hj => (by cases hj), fun j hj => (by cases hj)⟩
  · rw [if_neg q]
    have sub : ∀ i ∈ c ++ esL rs, i ∈ Ci ++ E := fun i hi => by
      rcases List.mem_append.mp hi with hi | hi
      · exact List.mem_append_left _ (hc i hi)
      · exact List.mem_append_right _ (a3 i hi)
    exact ⟨_, rfl, rfl, fun m z => by cases z; rfl, sub, sub⟩
/-- the shapes of what is written -/
theorem hb_p {it : FI} {tg : FG} {tt : FT} {te : FE} {vs : List Nat} {xs : List α} {Ci : List Nat} {p : α → Bool} {h : α → β} {Sx : α → Spec} (h1 : ∀ x, BG tg vs x (frzS Ci S) (Sx x)) (h2 : ∀ x, RT (Sx x) tt (p x)) (h3 : ∀ x, RE (Sx x) te (h x) kk E C) :
    ∀ x o, x ∈ xs → some (if p x = true then some (h x) else none) = some o → ∃ S2, BG tg vs x (frzS Ci S) S2 ∧ RT S2 tt o.isSome ∧ ∀ y, o = some y → RE S2 te y kk E C := fun x o _ e => by
  cases e
  refine ⟨Sx x, h1 x, ?_, fun y hy => ?_⟩
  · have := h2 x
    cases q : p x <;> rw [q] at this <;> exact this
  · cases q : p x with
    | false => rw [q] at hy; cases hy
    | true => rw [q] at hy; cases hy; exact h3 x
theorem hb_m {tg : FG} {tt : FT} {te : FE} {vs : List Nat} {xs : List α} {Ci : List Nat} {h : α → Option β} {Sx : α → Spec} (h1 : ∀ x, BG tg vs x (frzS Ci S) (Sx x)) (h2 : ∀ x, RT (Sx x) tt true) (h3 : ∀ x y, h x = some y → RE (Sx x) te y kk E C) :
    ∀ x o, x ∈ xs → ((h x).bind fun y => some (some y)) = some o → ∃ S2, BG tg vs x (frzS Ci S) S2 ∧ RT S2 tt o.isSome ∧ ∀ y, o = some y → RE S2 te y kk E C := fun x o _ e => by
  obtain ⟨y, hy, e⟩ := bnd e
  cases e
  exact ⟨Sx x, h1 x, h2 x, fun z hz => by cases hz; exact h3 x y hy⟩
/-- a test that may fail, or an item that may -/
def zSel {β : Type} (t : Option Bool) (o : Option β) : Option (Option β) := t.bind fun b => if b = true then o.bind fun y => some (some y) else some none
theorem hb_f {tg : FG} {tt : FT} {te : FE} {vs : List Nat} {xs : List α} {Ci : List Nat} {t : α → Option Bool} {h : α → Option β} {Sx : α → Spec} (h1 : ∀ x, BG tg vs x (frzS Ci S) (Sx x)) (h2 : ∀ x b, t x = some b → RT (Sx x) tt b) (h3 : ∀ x y, h x = some y → RE (Sx x) te y kk E C) :
    ∀ x o, x ∈ xs → zSel (t x) (h x) = some o → ∃ S2, BG tg vs x (frzS Ci S) S2 ∧ RT S2 tt o.isSome ∧ ∀ y, o = some y → RE S2 te y kk E C := fun x o _ e => by
  obtain ⟨b, hb, e⟩ := bnd e
  rcases tif e with ⟨rfl, e⟩ | ⟨rfl, e⟩
  · obtain ⟨y, hy, e⟩ := bnd e
    cases e
    exact ⟨Sx x, h1 x, h2 x _ hb, fun z hz => by cases hz; exact h3 x y hy⟩
  · cases e
    exact ⟨Sx x, h1 x, h2 x _ hb, fun z hz => (by cases hz)⟩
theorem filter_tt' {xs : List α} {h : α → β} : (xs.filter fun _ => true).map h = xs.map h := by rw [filter_tt]
end
end PyL

namespace PyL
open PySem PySem.Spec L2
open Enc (enc)
set_option autoImplicit false
/-! ### statements -/
def SpS (S : Spec) (f : FS) (P : Out → Prop) : Prop := ∀ ρ, Env ρ S → P (f ρ)
def Pnx (S' : Spec) : Out → Prop := fun o => ∃ ρ', o = .nx ρ' ∧ Env ρ' S'
def Pgo (S' : Spec) : Out → Prop := fun o => ∃ ρ', (o = .nx ρ' ∨ o = .ct ρ') ∧ Env ρ' S'
def Prt {τ : Type} [Enc τ] (r : τ) (kk : Option Nat) : Out → Prop := fun o => ∃ k, o = .rt (enc r) k ∧ ∀ m, kk = some m → k = m
inductive Ctl (σ τ : Type) where
  | go (s : σ) | stop (s : σ) | ret (r : τ)
def Plp {σ τ : Type} [Enc τ] (Sf : σ → Spec) (kk : Option Nat) : Ctl σ τ → Out → Prop
  | .go s => Pgo (Sf s)
  | .stop s => fun o => ∃ ρ', o = .bk ρ' ∧ Env ρ' (Sf s)
  | .ret r => Prt r kk
section
variable {S S' S2 S3 : Spec} {f g r : FS} {P Q : Out → Prop} {t : FT} {b : Bool}
theorem sp_seq (h : SpS S f (Pnx S')) (k : SpS S' g P) : SpS S (sSeq f g) P := fun ρ z => by
  obtain ⟨ρ', e, z'⟩ := h ρ z
  rw [ap_seq, e]
  exact k ρ' z'
theorem sp_assoc {a c d : FS} (h : SpS S (sSeq a (sSeq c d)) P) : SpS S (sSeq (sSeq a c) d) P := fun ρ z => by
  have := h ρ z
  rw [ap_seq] at this ⊢
  rw [ap_seq]
  cases q : a ρ <;> rw [q] at this <;> simp only [Out.then] at this ⊢ <;> first | exact this | (rw [ap_seq] at this; exact this)
theorem sp_nil (h : SpS S g P) : SpS S (sSeq sNil g) P := fun ρ z => h ρ z
theorem sp_nilN : SpS S sNil (Pnx S) := fun ρ z => ⟨ρ, rfl, z⟩
theorem sp_end (h : SpS S f (Pnx S')) (hp : ∀ ρ', Env ρ' S' → P (.nx ρ')) : SpS S f P := fun ρ z => by
  obtain ⟨ρ', e, z'⟩ := h ρ z
  rw [e]
  exact hp ρ' z'
theorem pnx_c (h : Sub S S') : ∀ ρ', Env ρ' S → Pnx S' (.nx ρ') := fun ρ' z => ⟨ρ', rfl, h.env z⟩
theorem pgo_c (h : Sub S S') : ∀ ρ', Env ρ' S → Pgo S' (.nx ρ') := fun ρ' z => ⟨ρ', .inl rfl, h.env z⟩
theorem sp_cnt (h : Sub S S') : SpS S sCnt (Pgo S') := fun ρ z => ⟨ρ, .inr rfl, h.env z⟩
theorem sp_cntS (h : Sub S S') : SpS S (sSeq sCnt g) (Pgo S') := fun ρ z => ⟨ρ, .inr rfl, h.env z⟩
theorem sp_brk {σ τ : Type} [Enc τ] {Sf : σ → Spec} {kk : Option Nat} {s : σ} (h : Sub S (Sf s)) : SpS S sBrk (Plp (τ := τ) Sf kk (.stop s)) := fun ρ z => ⟨ρ, rfl, h.env z⟩
theorem sp_brkS {σ τ : Type} [Enc τ] {Sf : σ → Spec} {kk : Option Nat} {s : σ} (h : Sub S (Sf s)) : SpS S (sSeq sBrk g) (Plp (τ := τ) Sf kk (.stop s)) := fun ρ z => ⟨ρ, rfl, h.env z⟩
theorem sp_ret {τ : Type} [Enc τ] {v : τ} {fe : FE} {kk : Option Nat} {E C : List Nat} (h : RE S fe v kk E C) : SpS S (sRet fe) (Prt v kk) := fun ρ z => by
  obtain ⟨r, e, a, b, _⟩ := h ρ z
  rw [ap_ret, e, st_ok, a]
  exact ⟨_, rfl, b⟩
theorem sp_retV {τ : Type} [Enc τ] {v : τ} {i : Nat} {kk : Option Nat} (h : S[i]? = some (some (enc v, kk))) : SpS S (sRetV i) (Prt v kk) := fun ρ z => by
  obtain ⟨k, e, hk⟩ := z.2 i _ h
  rw [ap_retV, e]
  exact ⟨k, rfl, hk⟩
theorem sp_retN : SpS S sRetN (Prt () (some 0)) := fun ρ z => ⟨0, rfl, fun m q => by cases q; rfl⟩
theorem prt_w {τ : Type} [Enc τ] {v : τ} {kk : Option Nat} (h : SpS S f (Prt v kk)) : SpS S f (Prt v none) := fun ρ z => by
  obtain ⟨k, e, _⟩ := h ρ z
  exact ⟨k, e, fun m q => by cases q⟩
theorem prt_opt {τ : Type} [Enc τ] {v : τ} {kk : Option Nat} (h : SpS S f (Prt v kk)) : SpS S f (Prt (some v) kk) := h
theorem prt_optN {τ : Type} [Enc τ] {kk : Option Nat} (h : SpS S f (Prt () kk)) : SpS S f (Prt (none : Option τ) kk) := h
theorem prt_any {τ : Type} [Enc τ] {v : τ} {kk : Option Nat} (h : SpS S f (Prt v kk)) : SpS S f (Prt (enc v) kk) := h
theorem sp_seqR {τ : Type} [Enc τ] {v : τ} {kk : Option Nat} (h : SpS S f (Prt v kk)) : SpS S (sSeq f g) (Prt v kk) := fun ρ z => by
  obtain ⟨k, e, hk⟩ := h ρ z
  rw [ap_seq, e]
  exact ⟨k, rfl, hk⟩
theorem sp_if (ht : RT S t b) (h1 : b = true → SpS S f P) (h2 : b = false → SpS S g P) : SpS S (sIf t f g) P := fun ρ z => by
  rw [ap_if, ht ρ z, st_ok]
  cases b with
  | true => exact h1 rfl ρ z
  | false => exact h2 rfl ρ z
theorem sp_if_t (ht : RT S t b) (hb : b = true) (h : SpS S f P) : SpS S (sIf t f g) P := sp_if ht (fun _ => h) fun q => by rw [hb] at q; cases q
theorem sp_if_f (ht : RT S t b) (hb : b = false) (h : SpS S g P) : SpS S (sIf t f g) P := sp_if ht (fun q => by rw [hb] at q; cases q) fun _ => h
theorem sp_ifs_t (ht : RT S t b) (hb : b = true) (h : SpS S (sSeq f r) P) : SpS S (sSeq (sIf t f g) r) P := fun ρ z => by
  have := h ρ z
  rw [ap_seq] at this ⊢
  rw [ap_if, ht ρ z, st_ok, hb]
  exact this
theorem sp_ifs_f (ht : RT S t b) (hb : b = false) (h : SpS S (sSeq g r) P) : SpS S (sSeq (sIf t f g) r) P := fun ρ z => by
  have := h ρ z
  rw [ap_seq] at this ⊢
  rw [ap_if, ht ρ z, st_ok, hb]
  exact this
variable {α β γ : Type} [Enc α] [Enc β] [Enc γ] {fe fi fj fl : FE} {i j : Nat} {kk kk' k1 k2 k3 : Option Nat} {E C E1 C1 E2 C2 E3 C3 : List Nat}
theorem sp_set {v : α} (h : RE S fe v kk E C) (hS : (frzS E S).set i (some (enc v, kk)) = S') : SpS S (sSet i fe) (Pnx S') := fun ρ z => by
  obtain ⟨r, e, a, b, c, _⟩ := h ρ z
  refine ⟨_, by rw [ap_set, e, st_ok], ?_⟩
  rw [← hS, a]
  exact (z.frz c).set i b
theorem sp_expr {v : α} (h : RE S fe v kk E C) : SpS S (sExpr fe) (Pnx S) := fun ρ z => by
  obtain ⟨r, e, _⟩ := h ρ z
  exact ⟨ρ, by rw [ap_expr, e, st_ok], z⟩
def setK : List Nat → List D → Option Nat → Spec → Spec
  | i :: is, d :: ds, k, S => setK is ds k (S.set i (some (d, k)))
  | _, _, _, S => S
theorem setTs_env : ∀ {is : List Nat} {ds : List D} {ρ : Ev} {S : Spec} {k : Nat} {kk : Option Nat}, is.length = ds.length → (∀ m, kk = some m → k = m) → Env ρ S → ∃ ρ2, setTs is ds k ρ = some ρ2 ∧ Env ρ2 (setK is ds kk S)
  | [], [], ρ, S, _, _, _, _, z => ⟨ρ, rfl, z⟩
  | i :: is, d :: ds, ρ, S, k, kk, h, hk, z => setTs_env (is := is) (ds := ds) (by simpa using h) hk (z.set i hk)
  | [], _ :: _, _, _, _, _, h, _, _ => by simp at h
  | _ :: _, [], _, _, _, _, h, _, _ => by simp at h
theorem sp_setT {is : List Nat} {ds : List D} {v : α} (hv : enc v = .tup ds) (hl : is.length = ds.length) (h : RE S fe v kk E C) (hS : setK is ds (kk.map (· - 1)) (frzS E S) = S') : SpS S (sSetT is fe) (Pnx S') := fun ρ z => by
  obtain ⟨r, e, g⟩ := h ρ z
  obtain ⟨k, e1, c1, rfl, a, b, _⟩ := rd1 g
  obtain ⟨ρ2, q1, q2⟩ := setTs_env (is := is) (ds := ds) (k := k - 1) (kk := kk.map (· - 1)) hl (fun m q => by
    cases kk with
    | none => cases q
    | some m' => cases q; rw [a m' rfl]) (z.frz b)
  refine ⟨ρ2, ?_, hS ▸ q2⟩
  rw [ap_setT, e, st_ok]
  simp only [hv, q1]; rfl
theorem sp_mvT {is : List Nat} {ds : List D} {v : α} {tv : Nat} (h : S[tv]? = some (some (enc v, kk))) (hv : enc v = .tup ds) (hl : is.length = ds.length) (hS : setK is ds (kk.map (· - 1)) (S.set tv none) = S') : SpS S (sMvT tv is) (Pnx S') := fun ρ z => by
  obtain ⟨k, e, hk⟩ := z.2 tv _ h
  obtain ⟨ρ2, q1, q2⟩ := setTs_env (is := is) (ds := ds) (k := k - 1) (kk := kk.map (· - 1)) hl (fun m q => by
    cases kk with
    | none => cases q
    | some m' => cases q; rw [hk m' rfl]) (z.wipe [tv])
  refine ⟨ρ2, ?_, hS ▸ q2⟩
  rw [ap_mvT, e]
  simp only [hv]
  exact mv_some q1
theorem sp_par {v : α} {w : β} {fa fb : FE} (h : RE S fa v k1 E1 C1) (h' : RE S fb w k2 E2 C2) (hS : (((frzS (E1 ++ E2) S).set i (some (enc v, some 0))).set j (some (enc w, some 0))) = S') : SpS S (sPar i j (fCons fa (fCons fb fNil))) (Pnx S') := fun ρ z => by
  obtain ⟨r, e, a, b, c, _⟩ := h ρ z
  obtain ⟨q, e', a', b', c', _⟩ := h' ρ z
  refine ⟨_, by rw [ap_par, ap_cons, e, bd_ok, ap_cons, e', bd_ok, ap_nil, bd_ok, bd_ok, st_ok, par_eq], ?_⟩
  rw [← hS, a, a']
  refine ((z.frz fun n hn => ?_).set i fun m q => by cases q; rfl).set j fun m q => by cases q; rfl
  rw [es_c, es_c, es_0, List.append_nil] at hn
  rcases List.mem_append.mp hn with hn | hn
  · exact List.mem_append_left _ (c n hn)
  · exact List.mem_append_right _ (c' n hn)
/-! lists at slots -/
def zApp {α : Type} (xs : List α) (v : α) : Option (List α) := if xs.length < sizeLine then some (xs ++ [v]) else none
theorem sp_app {xs ys : List α} {v : α} {k k' : Nat} (hx : S[i]? = some (some (enc xs, some (k + 1)))) (h : RE S fe v kk E C) (hi : i ∉ E) (hk : (k = 0 ∧ k' = 1) ∨ (k ≠ 0 ∧ (scal (enc v) = true ∨ kk = some k) ∧ k' = k + 1) ∨ (scal (enc v) = false ∧ (∃ m, kk = some m ∧ m ≠ k) ∧ k' = 1)) (ht : zApp xs v = some ys) (hS : (frzS E S).set i (some (enc ys, some k')) = S') : SpS S (sApp i fe) (Pnx S') := fun ρ z => by
  obtain ⟨k0, e0, hk0⟩ := z.2 i _ hx
  have hk0 : k0 = k + 1 := hk0 _ rfl
  subst hk0
  obtain ⟨r, e, a, b, c, _⟩ := h ρ z
  unfold zApp at ht
  split at ht
  · rename_i hz
    cases ht
    have e0 : ρ[i]? = some (some (.lst (xs.map enc), k + 1)) := e0
    have hkk : (if keepK k r then k + 1 else 1) = k' := by
      unfold keepK
      rw [a]
      rcases hk with ⟨rfl, rfl⟩ | ⟨hk, q, rfl⟩ | ⟨q, ⟨m, q1, q2⟩, rfl⟩
      · rfl
      · have : (scal (enc v) || r.k == k) = true := by
          rcases q with q | q
          · simp [q]
          · simp [b k q]
        rw [this, decide_eq_true (by omega : 1 ≤ k)]; rfl
      · rw [q, b m q1]
        have : (m == k) = false := by simp [q2]
        rw [this]; simp
    refine ⟨(frzL r.e ρ).set i (some (.lst (xs.map enc ++ [r.d]), k')), ?_, ?_⟩
    · rw [ap_app, e, st_ok, e0]
      show ownK (appK i ρ r (some (some (.lst (xs.map enc), k + 1)))) _ = _
      rw [own_some]
      show (if i ∈ r.e then Out.bad else if (xs.map enc).length < sizeLine then Out.nx ((frzL r.e ρ).set i (some (.lst (xs.map enc ++ [r.d]), if keepK k r then k + 1 else 1))) else Out.bad) = _
      rw [if_neg fun q => hi (c i q), if_pos (by rw [List.length_map]; exact hz), hkk]
    · rw [← hS, a]
      have : D.lst (xs.map enc ++ [enc v]) = enc (xs ++ [v]) := by show _ = D.lst _; rw [List.map_append]; rfl
      rw [this]
      exact (z.frz c).set i fun m q => by cases q; rfl
  · cases ht
def zStore {α : Type} (xs : List α) (z : Int) (v : α) : Option (List α) := (ixN xs.length z).bind fun j => some (xs.set j v)
theorem map_set' {xs : List α} {j : Nat} {v : α} : (xs.map enc).set j (enc v) = (xs.set j v).map enc := by rw [List.map_set]
theorem sp_store {xs ys : List α} {v : α} {n : Int} {k k' : Nat} (hx : S[i]? = some (some (enc xs, some (k + 1)))) (h : RE S fe v kk E C) (hn : RE S fi n k1 E1 C1) (hi : i ∉ E) (hk : (k = 0 ∧ k' = 1) ∨ (k ≠ 0 ∧ scal (enc v) = true ∧ k' = k + 1) ∨ (scal (enc v) = false ∧ k' = 1)) (ht : zStore xs n v = some ys) (hS : (frzS E S).set i (some (enc ys, some k')) = S') : SpS S (sStore i fi fe) (Pnx S') := fun ρ z => by
  obtain ⟨k0, e0, hk0⟩ := z.2 i _ hx
  have hk0 : k0 = k + 1 := hk0 _ rfl
  subst hk0
  obtain ⟨r, e, a, b, c, _⟩ := h ρ z
  obtain ⟨q, e', g⟩ := hn ρ z
  obtain ⟨kq, eq, cq, rfl, _⟩ := rd1 g
  obtain ⟨j, hj, ht⟩ := bnd ht
  cases ht
  have e0 : ρ[i]? = some (some (.lst (xs.map enc), k + 1)) := e0
  have hj' : ixN (xs.map enc).length n = some j := by rw [List.length_map]; exact hj
  have fin : sStore i fi fe ρ = .nx ((frzL r.e ρ).set i (some (.lst ((xs.map enc).set j r.d), k'))) := by
    rw [ap_store, e, st_ok, e', st_ok, e0, own_some]
    unfold storeK
    show (match ixN (xs.map enc).length n with | some j => _ | none => _) = _
    rw [hj']
    simp only
    rw [if_neg fun q => hi (c i q)]
    rcases hk with ⟨rfl, rfl⟩ | ⟨hk, q, rfl⟩ | ⟨q, rfl⟩
    · have : keepK 0 r = false := rfl
      rw [this]; rfl
    · have : (keepK k r && scal r.d) = true := by
        unfold keepK
        rw [a, q, decide_eq_true (by omega : 1 ≤ k)]; rfl
      rw [this]; rfl
    · rw [a, q, Bool.and_false]; rfl
  refine ⟨_, fin, ?_⟩
  rw [← hS, a, map_set']
  exact (z.frz c).set i fun m q => by cases q; rfl
def zStore2 {α : Type} (rows : List (List α)) (z z2 : Int) (v : α) : Option (List (List α)) := (ixN rows.length z).bind fun j => (rows[j]?).bind fun es => (ixN es.length z2).bind fun l => some (rows.set j (es.set l v))
theorem sp_store2 {rows rows' : List (List α)} {v : α} {n n2 : Int} {k : Nat} (hx : S[i]? = some (some (enc rows, some (k + 2)))) (h : RE S fe v kk E C) (hs : scal (enc v) = true) (hn : RE S fi n k1 E1 C1) (hn2 : RE S fj n2 k2 E2 C2) (ht : zStore2 rows n n2 v = some rows') (hS : S.set i (some (enc rows', some (k + 2))) = S') : SpS S (sStore2 i fi fj fe) (Pnx S') := fun ρ z => by
  obtain ⟨k0, e0, hk0⟩ := z.2 i _ hx
  have hk0 : k0 = k + 2 := hk0 _ rfl
  subst hk0
  obtain ⟨r, e, a, b, c, _⟩ := h ρ z
  obtain ⟨q, e', g⟩ := hn ρ z
  obtain ⟨kq, eq, cq, rfl, _⟩ := rd1 g
  obtain ⟨q2, e2', g2⟩ := hn2 ρ z
  obtain ⟨kq2, eq2, cq2, rfl, _⟩ := rd1 g2
  obtain ⟨j, hj, ht⟩ := bnd ht
  obtain ⟨es, hes, ht⟩ := bnd ht
  obtain ⟨l, hl, ht⟩ := bnd ht
  cases ht
  have e0 : ρ[i]? = some (some (.lst (rows.map enc), k + 2)) := e0
  have := store2_eq (i := i) (fi := fi) (fj := fj) (f := fe) (ρ := ρ) (ds := rows.map enc) (es := es.map enc) (k := k) (r := r) (z := n) (z2 := n2) (j := j) (l := l) e0 e (by rw [a]; exact hs) e' (by rw [List.length_map]; exact hj) (by rw [List.getElem?_map, hes]; rfl) e2' (by rw [List.length_map]; exact hl)
  refine ⟨_, this, ?_⟩
  rw [← hS, a]
  have q : D.lst ((rows.map enc).set j (.lst ((es.map enc).set l (enc v)))) = enc (rows.set j (es.set l v)) := by
    show _ = D.lst _
    rw [List.map_set]
    show _ = D.lst ((rows.map enc).set j (.lst ((es.set l v).map enc)))
    rw [List.map_set]
  rw [q]
  exact z.set i fun m q => by cases q; rfl
def zPop {α : Type} (xs : List α) : Option α := xs.getLast?
theorem sp_pop {tg : FG} {vs : List Nat} {xs : List α} {v : α} {k : Nat} (hx : S[i]? = some (some (enc xs, some (k + 1)))) (hi : i ∉ vs) (ht : zPop xs = some v) (hg : BG tg vs v (S.set i (some (enc xs.dropLast, some 1))) S') : SpS S (sPop i tg vs) (Pnx S') := fun ρ z => by
  obtain ⟨k0, e0, hk0⟩ := z.2 i _ hx
  have hk0 : k0 = k + 1 := hk0 _ rfl
  subst hk0
  have e0 : ρ[i]? = some (some (.lst (xs.map enc), k + 1)) := e0
  obtain ⟨ρ2, g1, g2⟩ := hg _ (z.set i (d := enc xs.dropLast) (k := 1) fun m q => by cases q; rfl)
  refine ⟨ρ2, ?_, g2⟩
  unfold zPop at ht
  have hl : (xs.map enc).getLast? = some (enc v) := by rw [List.getLast?_map, ht]; rfl
  have hd : D.lst (xs.map enc).dropLast = enc xs.dropLast := by show _ = D.lst _; rw [List.map_dropLast]
  unfold sPop popOut
  simp only [e0, hl, hd, if_neg hi, g1]
theorem sp_rev {xs : List α} {k : Nat} (hx : S[i]? = some (some (enc xs, some (k + 1)))) (hS : S.set i (some (enc xs.reverse, some 1)) = S') : SpS S (sRev i) (Pnx S') := fun ρ z => by
  obtain ⟨k0, e0, hk0⟩ := z.2 i _ hx
  have hk0 : k0 = k + 1 := hk0 _ rfl
  subst hk0
  have e0 : ρ[i]? = some (some (.lst (xs.map enc), k + 1)) := e0
  refine ⟨_, by rw [ap_rev, e0, rev_1], ?_⟩
  rw [← hS]
  have : D.lst (xs.map enc).reverse = enc xs.reverse := by show _ = D.lst _; rw [List.map_reverse]
  rw [this]
  exact z.set i fun m q => by cases q; rfl
def zRem (xs : List Int) (v : Int) : Option (List Int) := if v ∈ xs then some (xs.erase v) else none
theorem sp_rem {xs ys : List Int} {v : Int} {k : Nat} (hx : S[i]? = some (some (enc xs, some (k + 1)))) (h : RE S fe v kk E C) (ht : zRem xs v = some ys) (hS : S.set i (some (enc ys, some 1)) = S') : SpS S (sRem i fe) (Pnx S') := fun ρ z => by
  obtain ⟨k0, e0, hk0⟩ := z.2 i _ hx
  have hk0 : k0 = k + 1 := hk0 _ rfl
  subst hk0
  have e0 : ρ[i]? = some (some (.lst (xs.map D.int), k + 1)) := e0
  obtain ⟨r, e, g⟩ := h ρ z
  obtain ⟨kq, eq, cq, rfl, _⟩ := rd1 g
  unfold zRem at ht
  split at ht
  · rename_i hm
    cases ht
    refine ⟨ρ.set i (some (.lst ((xs.erase v).map D.int), 1)), ?_, by rw [← hS]; exact z.set i fun m q => by cases q; rfl⟩
    unfold sRem ownL
    rw [e0]
    show stE fe (remOut i) ρ = _
    rw [stE_def e]
    show remOut i ⟨.int v, kq, eq, cq⟩ ρ = _
    unfold remOut
    simp only [e0, ints_map, if_pos hm]
  · cases ht
/-! loops -/
def zFor {α σ : Type} (f : α → σ → Option σ) : List α → σ → Option σ
  | [], s => some s
  | x :: xs, s => (f x s).bind fun s' => zFor f xs s'
def zForC {α σ τ : Type} (f : α → σ → Option (Ctl σ τ)) : List α → σ → Option (σ ⊕ τ)
  | [], s => some (.inl s)
  | x :: xs, s => (f x s).bind fun c => match c with
    | .go s' => zForC f xs s'
    | .stop s' => some (.inl s')
    | .ret r => some (.inr r)
variable {σ τ : Type} [Enc τ]
theorem forL_t {tg : FG} {vs : List Nat} {body : FS} {fm : α → σ → Option σ} {Sf : σ → Spec} : ∀ {xs : List α} {s s1 : σ} {ρ : Ev}, (∀ x s s', x ∈ xs → fm x s = some s' → ∃ S2, BG tg vs x (Sf s) S2 ∧ SpS S2 body (Pgo (Sf s'))) → Env ρ (Sf s) → zFor fm xs s = some s1 →
    ∃ ρ', forL tg vs body ρ (xs.map enc) = .nx ρ' ∧ Env ρ' (Sf s1)
  | [], s, s1, ρ, _, z, h => by cases h; exact ⟨ρ, rfl, z⟩
  | x :: xs, s, s1, ρ, hb, z, h => by
    unfold zFor at h
    obtain ⟨s', h1, h⟩ := bnd h
    obtain ⟨S2, b1, b2⟩ := hb x s s' List.mem_cons_self h1
    obtain ⟨ρ2, e2, z2⟩ := b1 ρ z
    obtain ⟨ρ3, e3, z3⟩ := b2 ρ2 z2
    obtain ⟨ρ', e4, z4⟩ := forL_t (xs := xs) (fun y u u' hy => hb y u u' (List.mem_cons_of_mem _ hy)) z3 h
    refine ⟨ρ', ?_, z4⟩
    rw [List.map_cons]
    unfold forL
    simp only [e2]
    rcases e3 with e3 | e3 <;> simp only [e3] <;> exact e4
theorem sp_for {it : FI} {tg : FG} {vs : List Nat} {body : FS} {xs : List α} {fm : α → σ → Option σ} {Sf : σ → Spec} {s0 s1 : σ} (hi : RI S it xs E C) (h0 : Sub (frzS (E ++ C) S) (Sf s0)) (hb : ∀ x s s', x ∈ xs → fm x s = some s' → ∃ S2, BG tg vs x (Sf s) S2 ∧ SpS S2 body (Pgo (Sf s'))) (h : zFor fm xs s0 = some s1) : SpS S (sFor it tg vs body) (Pnx (Sf s1)) := fun ρ z => by
  obtain ⟨w, e1, e2, e3, e4⟩ := hi ρ z
  obtain ⟨ρ', e5, z5⟩ := forL_t (tg := tg) (vs := vs) (body := body) (ρ := frzL (w.e ++ w.c) ρ) hb (h0.env (z.frz fun i hi => by
    rcases List.mem_append.mp hi with hi | hi
    · exact List.mem_append_left _ (e3 i hi)
    · exact List.mem_append_right _ (e4 i hi))) h
  exact ⟨ρ', by rw [ap_for, e1, st_ok, e2, e5], z5⟩
theorem forL_c {tg : FG} {vs : List Nat} {body : FS} {fm : α → σ → Option (Ctl σ τ)} {Sf : σ → Spec} : ∀ {xs : List α} {s : σ} {o : σ ⊕ τ} {ρ : Ev}, (∀ x s c, x ∈ xs → fm x s = some c → ∃ S2, BG tg vs x (Sf s) S2 ∧ SpS S2 body (Plp Sf kk c)) → Env ρ (Sf s) → zForC fm xs s = some o →
    match o with
    | .inl s1 => ∃ ρ', forL tg vs body ρ (xs.map enc) = .nx ρ' ∧ Env ρ' (Sf s1)
    | .inr r => Prt r kk (forL tg vs body ρ (xs.map enc))
  | [], s, o, ρ, _, z, h => by cases h; exact ⟨ρ, rfl, z⟩
  | x :: xs, s, o, ρ, hb, z, h => by
    unfold zForC at h
    obtain ⟨c, h1, h⟩ := bnd h
    obtain ⟨S2, b1, b2⟩ := hb x s c List.mem_cons_self h1
    obtain ⟨ρ2, e2, z2⟩ := b1 ρ z
    have b3 := b2 ρ2 z2
    rw [List.map_cons]
    unfold forL
    simp only [e2]
    cases c with
    | go s' =>
      obtain ⟨ρ3, e3, z3⟩ := b3
      have := forL_c (xs := xs) (fun y u u' hy => hb y u u' (List.mem_cons_of_mem _ hy)) z3 h
      rcases e3 with e3 | e3 <;> simp only [e3] <;> exact this
    | stop s' =>
      cases h
      obtain ⟨ρ3, e3, z3⟩ := b3
      simp only [e3]
      exact ⟨ρ3, rfl, z3⟩
    | ret r =>
      cases h
      obtain ⟨k, e3, hk⟩ := b3
      simp only [e3]
      exact ⟨k, rfl, hk⟩
theorem for_c {it : FI} {tg : FG} {vs : List Nat} {body : FS} {xs : List α} {fm : α → σ → Option (Ctl σ τ)} {Sf : σ → Spec} {s0 : σ} {o : σ ⊕ τ} (hi : RI S it xs E C) (h0 : Sub (frzS (E ++ C) S) (Sf s0)) (hb : ∀ x s c, x ∈ xs → fm x s = some c → ∃ S2, BG tg vs x (Sf s) S2 ∧ SpS S2 body (Plp Sf kk c)) (h : zForC fm xs s0 = some o) : SpS S (sFor it tg vs body) (match o with
    | .inl s1 => Pnx (Sf s1)
    | .inr r => Prt r kk) := fun ρ z => by
  obtain ⟨w, e1, e2, e3, e4⟩ := hi ρ z
  have key := forL_c (tg := tg) (vs := vs) (body := body) (kk := kk) (ρ := frzL (w.e ++ w.c) ρ) hb (h0.env (z.frz fun i hi => by
    rcases List.mem_append.mp hi with hi | hi
    · exact List.mem_append_left _ (e3 i hi)
    · exact List.mem_append_right _ (e4 i hi))) h
  rw [ap_for, e1, st_ok, e2]
  cases o with
  | inl s1 => exact key
  | inr r => exact key
def zWhile {σ : Type} (t : σ → Option Bool) (f : σ → Option σ) : Nat → σ → Option σ
  | 0, _ => none
  | n + 1, s => (t s).bind fun b => if b = true then (f s).bind fun s' => zWhile t f n s' else some s
def zWhileC {σ τ : Type} (t : σ → Option Bool) (f : σ → Option (Ctl σ τ)) : Nat → σ → Option (σ ⊕ τ)
  | 0, _ => none
  | n + 1, s => (t s).bind fun b => if b = true then (f s).bind fun c => match c with
    | .go s' => zWhileC t f n s'
    | .stop s' => some (.inl s')
    | .ret r => some (.inr r)
    else some (.inl s)
theorem whileL_t {body : FS} {tm : σ → Option Bool} {fm : σ → Option σ} {Sf : σ → Spec} (ht : ∀ s b, tm s = some b → RT (Sf s) t b) (hb : ∀ s s', tm s = some true → fm s = some s' → SpS (Sf s) body (Pgo (Sf s'))) : ∀ {n : Nat} {s s1 : σ} {ρ : Ev}, Env ρ (Sf s) → zWhile tm fm n s = some s1 →
    ∃ ρ', whileL t body n ρ = .nx ρ' ∧ Env ρ' (Sf s1)
  | 0, _, _, _, _, h => by cases h
  | n + 1, s, s1, ρ, z, h => by
    unfold zWhile at h
    obtain ⟨b, h1, h⟩ := bnd h
    have q := ht s b h1 ρ z
    unfold whileL
    rw [q]
    rcases tif h with ⟨rfl, h⟩ | ⟨rfl, h⟩
    · obtain ⟨s', h2, h⟩ := bnd h
      obtain ⟨ρ2, e2, z2⟩ := hb s s' h1 h2 ρ z
      obtain ⟨ρ', e3, z3⟩ := whileL_t ht hb z2 h
      refine ⟨ρ', ?_, z3⟩
      simp only [if_true]
      rcases e2 with e2 | e2 <;> simp only [e2] <;> exact e3
    · cases h
      exact ⟨ρ, rfl, z⟩
theorem sp_while {n : Nat} {body : FS} {tm : σ → Option Bool} {fm : σ → Option σ} {Sf : σ → Spec} {s0 s1 : σ} (h0 : Sub S (Sf s0)) (ht : ∀ s b, tm s = some b → RT (Sf s) t b) (hb : ∀ s s', tm s = some true → fm s = some s' → SpS (Sf s) body (Pgo (Sf s'))) (h : zWhile tm fm n s0 = some s1) : SpS S (sWhile n t body) (Pnx (Sf s1)) := fun ρ z => whileL_t ht hb (h0.env z) h
theorem whileL_c {body : FS} {tm : σ → Option Bool} {fm : σ → Option (Ctl σ τ)} {Sf : σ → Spec} (ht : ∀ s b, tm s = some b → RT (Sf s) t b) (hb : ∀ s c, tm s = some true → fm s = some c → SpS (Sf s) body (Plp Sf kk c)) : ∀ {n : Nat} {s : σ} {o : σ ⊕ τ} {ρ : Ev}, Env ρ (Sf s) → zWhileC tm fm n s = some o →
    match o with
    | .inl s1 => ∃ ρ', whileL t body n ρ = .nx ρ' ∧ Env ρ' (Sf s1)
    | .inr r => Prt r kk (whileL t body n ρ)
  | 0, _, _, _, _, h => by cases h
  | n + 1, s, o, ρ, z, h => by
    unfold zWhileC at h
    obtain ⟨b, h1, h⟩ := bnd h
    have q := ht s b h1 ρ z
    unfold whileL
    rw [q]
    rcases tif h with ⟨rfl, h⟩ | ⟨rfl, h⟩
    · obtain ⟨c, h2, h⟩ := bnd h
      have b3 := hb s c h1 h2 ρ z
      simp only [if_true]
      cases c with
      | go s' =>
        obtain ⟨ρ2, e2, z2⟩ := b3
        have := whileL_c ht hb z2 h
        rcases e2 with e2 | e2 <;> simp only [e2] <;> exact this
      | stop s' =>
        cases h
        obtain ⟨ρ3, e3, z3⟩ := b3
        simp only [e3]
        exact ⟨ρ3, rfl, z3⟩
      | ret r =>
        cases h
        obtain ⟨k, e3, hk⟩ := b3
        simp only [e3]
        exact ⟨k, rfl, hk⟩
    · cases h
      exact ⟨ρ, rfl, z⟩
theorem while_c {n : Nat} {body : FS} {tm : σ → Option Bool} {fm : σ → Option (Ctl σ τ)} {Sf : σ → Spec} {s0 : σ} {o : σ ⊕ τ} (h0 : Sub S (Sf s0)) (ht : ∀ s b, tm s = some b → RT (Sf s) t b) (hb : ∀ s c, tm s = some true → fm s = some c → SpS (Sf s) body (Plp Sf kk c)) (h : zWhileC tm fm n s0 = some o) : SpS S (sWhile n t body) (match o with
    | .inl s1 => Pnx (Sf s1)
    | .inr r => Prt r kk) := fun ρ z => by
  have := whileL_c ht hb (n := n) (kk := kk) (h0.env z) h
  cases o with
  | inl s1 => exact this
  | inr r => exact this
theorem sp_inl {s1 : σ} {Sf : σ → Spec} (h : SpS S f (match (Sum.inl s1 : σ ⊕ τ) with
    | .inl s1 => Pnx (Sf s1)
    | .inr r => Prt r kk)) : SpS S f (Pnx (Sf s1)) := h
theorem sp_inr {r : τ} {Sf : σ → Spec} (h : SpS S f (match (Sum.inr r : σ ⊕ τ) with
    | .inl s1 => Pnx (Sf s1)
    | .inr r => Prt r kk)) : SpS S f (Prt r kk) := h
/-! a def -/
theorem env_fn {ds : List D} {n : Nat} : Env (ds.map (fun d => some (d, 0)) ++ List.replicate n none) (ds.map (fun d => some (d, some 0)) ++ List.replicate n none) := by
  induction ds with
  | nil =>
    refine ⟨by simp, fun i x h => ?_⟩
    rw [List.map_nil, List.nil_append, List.getElem?_replicate] at h
    split at h <;> cases h
  | cons d ds ih =>
    refine ⟨by simp, fun i x h => ?_⟩
    cases i with
    | zero =>
      have : (d, some 0) = x := by simpa using h
      subst this
      exact ⟨0, rfl, fun m q => by cases q; rfl⟩
    | succ i =>
      have := ih.2 i x (by simpa using h)
      simpa using this
theorem dr_fn {N n : Nat} {body : FS} {ds : List D} {S0 : Spec} {v : τ} (hl : ds.length = n) (hS : ds.map (fun d => some (d, some 0)) ++ List.replicate (N - n) none = S0) (h : SpS S0 body (Prt v kk)) : DR (dsem N n body ds) (enc v) kk := by
  rw [ds_eq hl]
  obtain ⟨k, e, hk⟩ := h _ (hS ▸ env_fn)
  exact ⟨k, by rw [e]; rfl, hk⟩
theorem dr_fnN {N n : Nat} {body : FS} {ds : List D} {S0 : Spec} {v : τ} (hl : ds.length = n) (hS : ds.map (fun d => some (d, some 0)) ++ List.replicate (N - n) none = S0) (h : SpS S0 (sSeq body sRetN) (Prt v kk)) : DR (dsem N n body ds) (enc v) kk := by
  rw [ds_eq hl]
  obtain ⟨k, e, hk⟩ := h _ (hS ▸ env_fn)
  rw [ap_seq] at e
  refine ⟨k, ?_, hk⟩
  revert e
  generalize body _ = o
  intro e
  cases o with
  | nx ρ => rw [th_nx, ap_retN] at e; rw [dk_nx]; injection e with e1 e2; rw [e1, e2]
  | rt d k => rw [th_rt] at e; rw [e, dk_rt]
  | bk ρ => rw [th_bk] at e; cases e
  | ct ρ => rw [th_ct] at e; cases e
  | ex x ρ => exact nomatch e
  | bad => exact nomatch e
theorem dr_any {o : Res (D × Nat)} {d : D} (h : DR o d kk) : DR o d none := by
  obtain ⟨k, e, _⟩ := h
  exact ⟨k, e, fun m q => by cases q⟩
/-- a tuple of own lists moves out -/
theorem sp_retT {m : Nat} {is : List Nat} {v : τ} {ds : List D} (hv : enc v = .tup ds) (hn : is.Nodup) (hl : is.length ≤ 1000) (h : ∀ ρ, Env ρ S → ∃ ps, getS ρ is = some ps ∧ ps.map (·.1) = ds ∧ ps.length = is.length ∧ ∀ p ∈ ps, scal p.1 = true ∨ p.2 = m + 1) : SpS S (sRetT m is) (Prt v (some (m + 2))) := fun ρ z => by
  obtain ⟨ps, e, a, l, b⟩ := h ρ z
  refine ⟨m + 2, ?_, fun q hq => by cases hq; rfl⟩
  unfold sRetT
  rw [e]
  unfold retTK
  rw [hv, ← a]
  refine if_pos ⟨hn, by rw [l]; exact szn _ hl, List.all_eq_true.mpr fun p hp => ?_⟩
  rcases b p hp with q | q <;> simp [q]
theorem gs_nil {ρ : Ev} {m : Nat} : ∃ ps, getS ρ [] = some ps ∧ ps.map (·.1) = [] ∧ ps.length = ([] : List Nat).length ∧ ∀ p ∈ ps, scal p.1 = true ∨ p.2 = m + 1 := ⟨[], rfl, rfl, rfl, fun p h => by cases h⟩
theorem gs_s {ρ : Ev} {m : Nat} [EncS α] {v : α} {is : List Nat} {ds : List D} (z : Env ρ S) (h : S[i]? = some (some (enc v, kk))) (t : ∃ ps, getS ρ is = some ps ∧ ps.map (·.1) = ds ∧ ps.length = is.length ∧ ∀ p ∈ ps, scal p.1 = true ∨ p.2 = m + 1) : ∃ ps, getS ρ (i :: is) = some ps ∧ ps.map (·.1) = enc v :: ds ∧ ps.length = (i :: is).length ∧ ∀ p ∈ ps, scal p.1 = true ∨ p.2 = m + 1 := by
  obtain ⟨ps, e, a, l, b⟩ := t
  obtain ⟨k, e0, _⟩ := z.2 i _ h
  refine ⟨(enc v, k) :: ps, by unfold getS; rw [e0, e]; rfl, by rw [List.map_cons, a], by simp [l], fun p hp => ?_⟩
  rcases List.mem_cons.mp hp with rfl | hp
  · exact .inl (EncS.sc v)
  · exact b p hp
theorem gs_k {ρ : Ev} {m : Nat} {v : α} {is : List Nat} {ds : List D} (z : Env ρ S) (h : S[i]? = some (some (enc v, some (m + 1)))) (t : ∃ ps, getS ρ is = some ps ∧ ps.map (·.1) = ds ∧ ps.length = is.length ∧ ∀ p ∈ ps, scal p.1 = true ∨ p.2 = m + 1) : ∃ ps, getS ρ (i :: is) = some ps ∧ ps.map (·.1) = enc v :: ds ∧ ps.length = (i :: is).length ∧ ∀ p ∈ ps, scal p.1 = true ∨ p.2 = m + 1 := by
  obtain ⟨ps, e, a, l, b⟩ := t
  obtain ⟨k, e0, hk⟩ := z.2 i _ h
  refine ⟨(enc v, k) :: ps, by unfold getS; rw [e0, e]; rfl, by rw [List.map_cons, a], by simp [l], fun p hp => ?_⟩
  rcases List.mem_cons.mp hp with rfl | hp
  · exact .inr (hk _ rfl)
  · exact b p hp
end
end PyL

namespace PyL
open PySem PySem.Spec L2
open Enc (enc)
set_option autoImplicit false
theorem inj_to {α : Type} {P : α → Prop} {a b : α} (h : some a = some b) (k : P a) : P b := by cases h; exact k
instance : EncQ Str := ⟨fun a b => by
  show (a == b) = decide (a = b)
  by_cases h : a = b
  · rw [decide_eq_true h, h]; simp
  · rw [decide_eq_false h]; simp [h]⟩
theorem deq_nonL {d : D} (h : d = .non → False) : deq .non d = false := by cases d <;> first | rfl | exact (h rfl).elim
theorem deq_nonR {d : D} (h : d = .non → False) : deq d .non = false := by cases d <;> first | rfl | exact (h rfl).elim
instance {α : Type} [Enc α] [DecidableEq α] [EncQ α] [EncN α] : EncQ (Option α) := ⟨fun a b => by
  cases a with
  | none => cases b with
    | none => rfl
    | some y => show deq .non (enc y) = _; rw [deq_nonL (EncN.nn y)]; rfl
  | some x => cases b with
    | none => show deq (enc x) .non = _; rw [deq_nonR (EncN.nn x)]; rfl
    | some y =>
      show deq (enc x) (enc y) = _
      rw [EncQ.ok]
      by_cases h : x = y <;> simp [h]⟩
section
variable {S S' S2 S3 : Spec} {f g fa fb fc : FE} {i : Nat} {ka kb kc kk : Option Nat} {Ea Ca Eb Cb Ec Cc E C Ei Ci : List Nat} {α β γ δ : Type} [Enc α] [Enc β] [Enc γ] [Enc δ] {a b : Int}
theorem rt_to {t : FT} {p q : Bool} (h : RT S t p) (e : some p = some q) : RT S t q := by cases e; exact h
theorem ri_tup {t : α} {xs : List β} (ht : enc t = .tup (xs.map enc)) (ha : RE S fa t ka E C) : RI S (fSeqI fa) xs E C := fun ρ z => by
  obtain ⟨ra, ea, g1⟩ := ha ρ z
  obtain ⟨k1, e1, c1, rfl, _, h1, h2⟩ := rd1 g1
  exact ⟨⟨xs.map enc, e1, c1⟩, by rw [ap_seqI, ea, bd_ok, ht]; rfl, rfl, h1, h2⟩
theorem re_isNu {neg : Bool} (ha : RE S fa () ka Ea Ca) : RE S (fIsN neg fa) (!neg) (some 0) [] [] := re_un ha fun ra g1 => by
  obtain ⟨k1, e1, c1, rfl, _⟩ := rd1 g1
  exact ⟨_, rfl, gv0⟩
section
variable {dep : Nat} {it : FI} {tg : FG} {tt : FT} {te : FE} {vs : List Nat} {xs : List α} {ys zs : List β} {Sx : α → Spec}
theorem re_pF [EncF β] {p : α → Bool} {h : α → β} (hd : EncF.dp β ≤ dep) (hk : (∀ y : β, scal (enc y) = true) ∨ kk = some dep) (hi : RI S it xs Ei Ci) (h1 : ∀ x, BG tg vs x (frzS Ci S) (Sx x)) (h2 : ∀ x, RT (Sx x) tt (p x)) (h3 : ∀ x, RE (Sx x) te (h x) kk E C) (e : zLst ((xs.filter p).map h) = some zs) : RE S (fComp dep it tg tt te vs) zs (some (dep + 1)) [] [] :=
  re_cF hd hk hi (hb_p (it := it) h1 h2 h3) zFilM_pure e
theorem re_pF' [EncF β] {h : α → β} (hd : EncF.dp β ≤ dep) (hk : (∀ y : β, scal (enc y) = true) ∨ kk = some dep) (hi : RI S it xs Ei Ci) (h1 : ∀ x, BG tg vs x (frzS Ci S) (Sx x)) (h3 : ∀ x, RE (Sx x) te (h x) kk E C) (e : zLst (xs.map h) = some zs) : RE S (fComp dep it tg fYes te vs) zs (some (dep + 1)) [] [] :=
  re_pF (p := fun _ => true) hd hk hi h1 (fun _ => re_yes) h3 (by rw [filter_tt']; exact e)
theorem re_pE {p : α → Bool} {h : α → β} (hi : RI S it xs Ei Ci) (h1 : ∀ x, BG tg vs x (frzS Ci S) (Sx x)) (h2 : ∀ x, RT (Sx x) tt (p x)) (h3 : ∀ x, RE (Sx x) te (h x) kk E C) (e : zLst ((xs.filter p).map h) = some zs) : RE S (fComp 0 it tg tt te vs) zs (some 1) (Ci ++ E) (Ci ++ E) :=
  re_cE hi (hb_p (it := it) h1 h2 h3) zFilM_pure e
theorem re_pE' {h : α → β} (hi : RI S it xs Ei Ci) (h1 : ∀ x, BG tg vs x (frzS Ci S) (Sx x)) (h3 : ∀ x, RE (Sx x) te (h x) kk E C) (e : zLst (xs.map h) = some zs) : RE S (fComp 0 it tg fYes te vs) zs (some 1) (Ci ++ E) (Ci ++ E) :=
  re_pE (p := fun _ => true) hi h1 (fun _ => re_yes) h3 (by rw [filter_tt']; exact e)
theorem re_mF [EncF β] {h : α → Option β} (hd : EncF.dp β ≤ dep) (hk : (∀ y : β, scal (enc y) = true) ∨ kk = some dep) (hi : RI S it xs Ei Ci) (h1 : ∀ x, BG tg vs x (frzS Ci S) (Sx x)) (h3 : ∀ x y, h x = some y → RE (Sx x) te y kk E C) (e1 : zMapM h xs = some ys) (e : zLst ys = some zs) : RE S (fComp dep it tg fYes te vs) zs (some (dep + 1)) [] [] :=
  re_cF hd hk hi (hb_m h1 (fun _ => re_yes) h3) (by rw [zFilM_map]; exact e1) e
theorem re_mE {h : α → Option β} (hi : RI S it xs Ei Ci) (h1 : ∀ x, BG tg vs x (frzS Ci S) (Sx x)) (h3 : ∀ x y, h x = some y → RE (Sx x) te y kk E C) (e1 : zMapM h xs = some ys) (e : zLst ys = some zs) : RE S (fComp 0 it tg fYes te vs) zs (some 1) (Ci ++ E) (Ci ++ E) :=
  re_cE hi (hb_m h1 (fun _ => re_yes) h3) (by rw [zFilM_map]; exact e1) e
theorem re_fF [EncF β] {t : α → Option Bool} {h : α → Option β} (hd : EncF.dp β ≤ dep) (hk : (∀ y : β, scal (enc y) = true) ∨ kk = some dep) (hi : RI S it xs Ei Ci) (h1 : ∀ x, BG tg vs x (frzS Ci S) (Sx x)) (h2 : ∀ x b, t x = some b → RT (Sx x) tt b) (h3 : ∀ x y, h x = some y → RE (Sx x) te y kk E C) (e1 : zFilM (fun x => zSel (t x) (h x)) xs = some ys) (e : zLst ys = some zs) : RE S (fComp dep it tg tt te vs) zs (some (dep + 1)) [] [] :=
  re_cF hd hk hi (hb_f h1 h2 h3) e1 e
theorem re_fE {t : α → Option Bool} {h : α → Option β} (hi : RI S it xs Ei Ci) (h1 : ∀ x, BG tg vs x (frzS Ci S) (Sx x)) (h2 : ∀ x b, t x = some b → RT (Sx x) tt b) (h3 : ∀ x y, h x = some y → RE (Sx x) te y kk E C) (e1 : zFilM (fun x => zSel (t x) (h x)) xs = some ys) (e : zLst ys = some zs) : RE S (fComp 0 it tg tt te vs) zs (some 1) (Ci ++ E) (Ci ++ E) :=
  re_cE hi (hb_f h1 h2 h3) e1 e
end
variable {σ τ : Type} [Enc τ] {P : Out → Prop} {fg : FS}
theorem sp_forCs {it : FI} {tg : FG} {vs : List Nat} {body : FS} {xs : List α} {fm : α → σ → Option (Ctl σ τ)} {Sf : σ → Spec} {s0 : σ} {o : σ ⊕ τ} (hi : RI S it xs E C) (h0 : Sub (frzS (E ++ C) S) (Sf s0)) (hb : ∀ x s c, x ∈ xs → fm x s = some c → ∃ S2, BG tg vs x (Sf s) S2 ∧ SpS S2 body (Plp Sf kk c)) (h : zForC fm xs s0 = some o)
    (k1 : ∀ s1, o = .inl s1 → SpS (Sf s1) fg P) (k2 : ∀ r, o = .inr r → ∀ w, Prt r kk w → P w) : SpS S (sSeq (sFor it tg vs body) fg) P := fun ρ z => by
  have q := for_c (kk := kk) hi h0 hb h
  cases o with
  | inl s1 => exact sp_seq (S' := Sf s1) q (k1 s1 rfl) ρ z
  | inr r =>
    have q : SpS S _ (Prt r kk) := q
    exact k2 r rfl _ (sp_seqR q ρ z)
theorem sp_forCl {it : FI} {tg : FG} {vs : List Nat} {body : FS} {xs : List α} {fm : α → σ → Option (Ctl σ τ)} {Sf : σ → Spec} {s0 : σ} {o : σ ⊕ τ} (hi : RI S it xs E C) (h0 : Sub (frzS (E ++ C) S) (Sf s0)) (hb : ∀ x s c, x ∈ xs → fm x s = some c → ∃ S2, BG tg vs x (Sf s) S2 ∧ SpS S2 body (Plp Sf kk c)) (h : zForC fm xs s0 = some o)
    (k1 : ∀ s1, o = .inl s1 → ∀ ρ', Env ρ' (Sf s1) → P (.nx ρ')) (k2 : ∀ r, o = .inr r → ∀ w, Prt r kk w → P w) : SpS S (sFor it tg vs body) P := fun ρ z => by
  have q := for_c (kk := kk) hi h0 hb h ρ z
  cases o with
  | inl s1 =>
    obtain ⟨ρ', e, z'⟩ := q
    rw [e]
    exact k1 s1 rfl ρ' z'
  | inr r => exact k2 r rfl _ q
theorem sp_whileCs {t : FT} {n : Nat} {body : FS} {tm : σ → Option Bool} {fm : σ → Option (Ctl σ τ)} {Sf : σ → Spec} {s0 : σ} {o : σ ⊕ τ} (h0 : Sub S (Sf s0)) (ht : ∀ s b, tm s = some b → RT (Sf s) t b) (hb : ∀ s c, tm s = some true → fm s = some c → SpS (Sf s) body (Plp Sf kk c)) (h : zWhileC tm fm n s0 = some o)
    (k1 : ∀ s1, o = .inl s1 → SpS (Sf s1) fg P) (k2 : ∀ r, o = .inr r → ∀ w, Prt r kk w → P w) : SpS S (sSeq (sWhile n t body) fg) P := fun ρ z => by
  have q := while_c (kk := kk) h0 ht hb h
  cases o with
  | inl s1 => exact sp_seq (S' := Sf s1) q (k1 s1 rfl) ρ z
  | inr r =>
    have q : SpS S _ (Prt r kk) := q
    exact k2 r rfl _ (sp_seqR q ρ z)
theorem sp_whileCl {t : FT} {n : Nat} {body : FS} {tm : σ → Option Bool} {fm : σ → Option (Ctl σ τ)} {Sf : σ → Spec} {s0 : σ} {o : σ ⊕ τ} (h0 : Sub S (Sf s0)) (ht : ∀ s b, tm s = some b → RT (Sf s) t b) (hb : ∀ s c, tm s = some true → fm s = some c → SpS (Sf s) body (Plp Sf kk c)) (h : zWhileC tm fm n s0 = some o)
    (k1 : ∀ s1, o = .inl s1 → ∀ ρ', Env ρ' (Sf s1) → P (.nx ρ')) (k2 : ∀ r, o = .inr r → ∀ w, Prt r kk w → P w) : SpS S (sWhile n t body) P := fun ρ z => by
  have q := while_c (kk := kk) h0 ht hb h ρ z
  cases o with
  | inl s1 =>
    obtain ⟨ρ', e, z'⟩ := q
    rw [e]
    exact k1 s1 rfl ρ' z'
  | inr r => exact k2 r rfl _ q
theorem plp_c {Sf : σ → Spec} {s : σ} (h : Sub S (Sf s)) : ∀ ρ', Env ρ' S → Plp (τ := τ) Sf kk (.go s) (.nx ρ') := fun ρ' z => ⟨ρ', .inl rfl, h.env z⟩
theorem sp_cntC {Sf : σ → Spec} {s : σ} (h : Sub S (Sf s)) : SpS S sCnt (Plp (τ := τ) Sf kk (.go s)) := fun ρ z => ⟨ρ, .inr rfl, h.env z⟩
theorem sp_cntCS {Sf : σ → Spec} {s : σ} (h : Sub S (Sf s)) : SpS S (sSeq sCnt fg) (Plp (τ := τ) Sf kk (.go s)) := fun ρ z => ⟨ρ, .inr rfl, h.env z⟩
end
instance : Enc Empty := ⟨fun e => nomatch e⟩
theorem law_sp2 {K : PySem.W.Frag} {H : Hp} {a : Addr} {ns : List Int} {sem : DS} {E : XK} (hS : SqL K H a (ns.map V.int)) (h : ∀ d, ScrD K ns d → ∃ k, sem [d] = .ok (.bl true, k)) : spD 1 sem [.ref a] H (fun v _ => v = .bl true) E := by
  have key : ∃ d, ScrD K ns d ∧ Rp (fun _ => False) H d (.ref a) := by
    rcases hS with (hS | ⟨o, hS⟩) | hS
    · exact ⟨_, .inl rfl, a, _, rfl, id, hS, RpL.ints ns⟩
    · exact ⟨_, .inr rfl, a, rfl, .inl ⟨id, o, hS⟩⟩
    · exact ⟨_, .inr rfl, a, rfl, .inr hS⟩
  obtain ⟨d, hd, r⟩ := key
  refine ⟨fun _ => False, [d], rfl, ⟨_, _, rfl, r, rfl⟩, fun _ z => z.elim, ?_⟩
  obtain ⟨k, e⟩ := h d hd
  rw [e]
  intro v H' fp _ _ o
  cases k with
  | zero => exact o.1
  | succ k => exact o.1
end PyL

namespace PyL
open PySem PySem.Spec L2
open Enc (enc)
set_option autoImplicit false
/-! ### lists of unlike things, of fixed length -/
structure H1 (α : Type) where
  a : α
deriving DecidableEq
structure H2 (α β : Type) where
  a : α
  b : β
deriving DecidableEq
structure H3 (α β γ : Type) where
  a : α
  b : β
  c : γ
deriving DecidableEq
structure H4 (α β γ δ : Type) where
  a : α
  b : β
  c : γ
  d : δ
deriving DecidableEq
section
variable {α β γ δ : Type} [Enc α] [Enc β] [Enc γ] [Enc δ]
instance : Enc (H1 α) := ⟨fun t => .lst [enc t.a]⟩
instance : Enc (H2 α β) := ⟨fun t => .lst [enc t.a, enc t.b]⟩
instance : Enc (H3 α β γ) := ⟨fun t => .lst [enc t.a, enc t.b, enc t.c]⟩
instance : Enc (H4 α β γ δ) := ⟨fun t => .lst [enc t.a, enc t.b, enc t.c, enc t.d]⟩
instance : EncN (H2 α β) := ⟨fun _ h => by cases h⟩
instance : EncN (H3 α β γ) := ⟨fun _ h => by cases h⟩
instance : EncN (H4 α β γ δ) := ⟨fun _ h => by cases h⟩
instance : EncI (H2 α β) := ⟨fun T => "list" == T, fun a T => ⟨rfl, rfl⟩⟩
instance : EncI (H3 α β γ) := ⟨fun T => "list" == T, fun a T => ⟨rfl, rfl⟩⟩
instance : EncI (H4 α β γ δ) := ⟨fun T => "list" == T, fun a T => ⟨rfl, rfl⟩⟩
instance [EncF α] [EncF β] : EncF (H2 α β) := ⟨max (EncF.dp α) (EncF.dp β) + 1, fun t => af_lst fun d hd => by
  simp only [List.mem_cons, List.not_mem_nil, or_false] at hd
  rcases hd with rfl | rfl
  · exact af_up _ (EncF.ok t.a) (by omega)
  · exact af_up _ (EncF.ok t.b) (by omega)⟩
instance [EncF α] [EncF β] [EncF γ] : EncF (H3 α β γ) := ⟨max (EncF.dp α) (max (EncF.dp β) (EncF.dp γ)) + 1, fun t => af_lst fun d hd => by
  simp only [List.mem_cons, List.not_mem_nil, or_false] at hd
  rcases hd with rfl | rfl | rfl
  · exact af_up _ (EncF.ok t.a) (by omega)
  · exact af_up _ (EncF.ok t.b) (by omega)
  · exact af_up _ (EncF.ok t.c) (by omega)⟩
instance [EncF α] [EncF β] [EncF γ] [EncF δ] : EncF (H4 α β γ δ) := ⟨max (max (EncF.dp α) (EncF.dp β)) (max (EncF.dp γ) (EncF.dp δ)) + 1, fun t => af_lst fun d hd => by
  simp only [List.mem_cons, List.not_mem_nil, or_false] at hd
  rcases hd with rfl | rfl | rfl | rfl
  · exact af_up _ (EncF.ok t.a) (by omega)
  · exact af_up _ (EncF.ok t.b) (by omega)
  · exact af_up _ (EncF.ok t.c) (by omega)
  · exact af_up _ (EncF.ok t.d) (by omega)⟩
instance [EncP α] [EncP β] : EncP (H2 α β) := ⟨max (EncP.pd α) (EncP.pd β) + 1, fun t => pln_lst fun d hd => by
  simp only [List.mem_cons, List.not_mem_nil, or_false] at hd
  rcases hd with rfl | rfl
  · exact pln_up _ (EncP.ok t.a) (by omega)
  · exact pln_up _ (EncP.ok t.b) (by omega)⟩
instance [EncP α] [EncP β] [EncP γ] : EncP (H3 α β γ) := ⟨max (EncP.pd α) (max (EncP.pd β) (EncP.pd γ)) + 1, fun t => pln_lst fun d hd => by
  simp only [List.mem_cons, List.not_mem_nil, or_false] at hd
  rcases hd with rfl | rfl | rfl
  · exact pln_up _ (EncP.ok t.a) (by omega)
  · exact pln_up _ (EncP.ok t.b) (by omega)
  · exact pln_up _ (EncP.ok t.c) (by omega)⟩
instance [EncP α] [EncP β] [EncP γ] [EncP δ] : EncP (H4 α β γ δ) := ⟨max (max (EncP.pd α) (EncP.pd β)) (max (EncP.pd γ) (EncP.pd δ)) + 1, fun t => pln_lst fun d hd => by
  simp only [List.mem_cons, List.not_mem_nil, or_false] at hd
  rcases hd with rfl | rfl | rfl | rfl
  · exact pln_up _ (EncP.ok t.a) (by omega)
  · exact pln_up _ (EncP.ok t.b) (by omega)
  · exact pln_up _ (EncP.ok t.c) (by omega)
  · exact pln_up _ (EncP.ok t.d) (by omega)⟩
variable [DecidableEq α] [DecidableEq β] [DecidableEq γ] [DecidableEq δ]
instance [EncQ α] [EncQ β] : EncQ (H2 α β) := ⟨fun ⟨a, b⟩ ⟨a', b'⟩ => by
  show (deq (enc a) (enc a') && (deq (enc b) (enc b') && true)) = _
  rw [EncQ.ok, EncQ.ok]
  by_cases h1 : a = a' <;> by_cases h2 : b = b' <;> simp [h1, h2]⟩
instance [EncQ α] [EncQ β] [EncQ γ] : EncQ (H3 α β γ) := ⟨fun ⟨a, b, c⟩ ⟨a', b', c'⟩ => by
  show (deq (enc a) (enc a') && (deq (enc b) (enc b') && (deq (enc c) (enc c') && true))) = _
  rw [EncQ.ok, EncQ.ok, EncQ.ok]
  by_cases h1 : a = a' <;> by_cases h2 : b = b' <;> by_cases h3 : c = c' <;> simp [h1, h2, h3]⟩
instance [EncQ α] [EncQ β] [EncQ γ] [EncQ δ] : EncQ (H4 α β γ δ) := ⟨fun ⟨a, b, c, d⟩ ⟨a', b', c', d'⟩ => by
  show (deq (enc a) (enc a') && (deq (enc b) (enc b') && (deq (enc c) (enc c') && (deq (enc d) (enc d') && true)))) = _
  rw [EncQ.ok, EncQ.ok, EncQ.ok, EncQ.ok]
  by_cases h1 : a = a' <;> by_cases h2 : b = b' <;> by_cases h3 : c = c' <;> by_cases h4 : d = d' <;> simp [h1, h2, h3, h4]⟩
end
section
variable {S S' S2 S3 : Spec} {f g fa fb fc : FE} {i : Nat} {ka kb kc kk : Option Nat} {Ea Ca Eb Cb Ec Cc E C Ei Ci : List Nat} {α β γ δ : Type} [Enc α] [Enc β] [Enc γ] [Enc δ] {a b : Int}
/-- h[j] of a list of unlike things -/
theorem re_hixF [EncF β] {t : α} {ds : List D} {i : Int} {v : β} (ht : enc t = .lst ds) (h0 : EncF.dp β = 0) (h : atI ds i = some (enc v)) (ha : RE S fa t ka Ea Ca) : RE S (fBin gIx fa (fC (.int i))) v (some 0) [] [] :=
  re_bin ha (re_c (x := i) rfl) fun ra rb g1 g2 => by
    obtain ⟨k1, e1, c1, rfl, _⟩ := rd1 g1
    obtain ⟨k2, e2, c2, rfl, _⟩ := rd1 g2
    refine ⟨_, ?_, gv0⟩
    rw [ht]
    show gIx ⟨.lst ds, k1, e1, c1⟩ ⟨.int i, k2, e2, c2⟩ = _
    rw [g_ixL, h]
    show Res.ok (itemR _ (enc v)) = _
    unfold itemR
    rw [if_pos (by have := EncF.ok v; rwa [h0] at this)]; rfl
theorem re_hixE {t : α} {ds : List D} {i : Int} {v : β} (ht : enc t = .lst ds) (h : atI ds i = some (enc v)) (ha : RE S fa t ka Ea Ca) : RE S (fBin gIx fa (fC (.int i))) v (some 0) Ca Ca :=
  re_bin ha (re_c (x := i) rfl) fun ra rb g1 g2 => by
    obtain ⟨k1, e1, c1, rfl, _, _, hc⟩ := rd1 g1
    obtain ⟨k2, e2, c2, rfl, _⟩ := rd1 g2
    rw [ht]
    have e : gIx ⟨.lst ds, k1, e1, c1⟩ ⟨.int i, k2, e2, c2⟩ = .ok (itemR ⟨.non, 0, [], c1⟩ (enc v)) := by
      rw [g_ixL, h]; rfl
    refine ⟨_, e, ?_⟩
    unfold itemR
    split
    · exact ⟨rfl, fun m z => by cases z; rfl, fun j hj => (by cases hj), fun j hj => (by cases hj)⟩
    · exact ⟨rfl, fun m z => by cases z; rfl, hc, hc⟩
/-- t[i] of a tuple of like things -/
theorem re_tixV [EncF β] {t : α} {xs : List β} {i : Int} {v : β} (ht : enc t = .tup (xs.map enc)) (h0 : EncF.dp β = 0) (ha : RE S fa t ka Ea Ca) (hb : RE S fb i kb Eb Cb) (h : atI xs i = some v) : RE S (fBin gIx fa fb) v (some 0) [] [] :=
  re_bin ha hb fun ra rb g1 g2 => by
    obtain ⟨k1, e1, c1, rfl, _⟩ := rd1 g1
    obtain ⟨k2, e2, c2, rfl, _⟩ := rd1 g2
    refine ⟨_, ?_, gv0⟩
    rw [ht]
    show gIx ⟨.tup (xs.map enc), k1, e1, c1⟩ ⟨.int i, k2, e2, c2⟩ = _
    rw [g_ixT, atI_map, h]
    show Res.ok (itemR _ (enc v)) = _
    unfold itemR
    rw [if_pos (by have := EncF.ok v; rwa [h0] at this)]; rfl
/-- xs.index(x) -/
class EncX (α : Type) [Enc α] : Prop where
  ok : ∀ a : α, noS (enc a) = true
instance : EncX Int := ⟨fun _ => rfl⟩
instance : EncX Bool := ⟨fun _ => rfl⟩
theorem noSL_of {ds : List D} (h : ∀ d ∈ ds, noS d = true) : noSL ds = true := by
  induction ds with
  | nil => rfl
  | cons d ds ih => simp only [noSL, Bool.and_eq_true]; exact ⟨h d List.mem_cons_self, ih fun d hd => h d (List.mem_cons_of_mem _ hd)⟩
instance [EncX α] : EncX (List α) := ⟨fun xs => noSL_of fun d hd => by obtain ⟨x, _, rfl⟩ := List.mem_map.mp hd; exact EncX.ok x⟩
instance [EncX α] [EncX β] : EncX (T2 α β) := ⟨fun t => noSL_of fun d hd => by
  simp only [List.mem_cons, List.not_mem_nil, or_false] at hd
  rcases hd with rfl | rfl
  · exact EncX.ok t.a
  · exact EncX.ok t.b⟩
instance [EncX α] [EncX β] [EncX γ] : EncX (T3 α β γ) := ⟨fun t => noSL_of fun d hd => by
  simp only [List.mem_cons, List.not_mem_nil, or_false] at hd
  rcases hd with rfl | rfl | rfl
  · exact EncX.ok t.a
  · exact EncX.ok t.b
  · exact EncX.ok t.c⟩
def zIndex {α : Type} [DecidableEq α] (xs : List α) (x : α) : Option Int := (xs.findIdx? fun y => decide (y = x)).map fun j : Nat => (j : Int)
theorem fidx_enc [DecidableEq α] [EncQ α] {x : α} : ∀ {xs : List α}, fidx (enc x) (xs.map enc) = xs.findIdx? fun y => decide (y = x)
  | [] => rfl
  | y :: ys => by
    rw [List.map_cons, List.findIdx?_cons]
    unfold fidx
    rw [EncQ.ok, fidx_enc (xs := ys)]
    first | done | rfl | (by_cases h : y = x <;> simp [h])
theorem re_index [DecidableEq α] [EncQ α] [EncP α] [EncX α] {xs : List α} {x : α} {v : Int} (hp : EncP.pd α ≤ 60) (ha : RE S fa xs ka Ea Ca) (hb : RE S fb x kb Eb Cb) (h : zIndex xs x = some v) : RE S (fIndex fa fb) v (some 0) [] [] := fun ρ z => by
  obtain ⟨ra, ea, g1⟩ := ha ρ z
  obtain ⟨rb, eb, g2⟩ := hb ρ z
  obtain ⟨k1, e1, c1, rfl, _⟩ := rd1 g1
  obtain ⟨k2, e2, c2, rfl, _⟩ := rd1 g2
  unfold zIndex at h
  cases q : xs.findIdx? (fun y => decide (y = x)) with
  | none => rw [q] at h; cases h
  | some j =>
    rw [q] at h
    cases h
    refine ⟨⟨.int (j : Int), 0, [], []⟩, ?_, gv0⟩
    rw [ap_index, ea, bd_ok]
    show (if isL ⟨.lst (xs.map enc), k1, e1, c1⟩ = true then _ else _) = _
    rw [if_pos (by rfl), eb, bd_ok]
    show gIndex ⟨.lst (xs.map enc), k1, e1, c1⟩ ⟨enc x, k2, e2, c2⟩ = _
    unfold gIndex
    simp only
    rw [if_pos (by
      simp only [Bool.and_eq_true]
      exact ⟨⟨⟨pln_up _ (EncP.ok x) hp, EncX.ok x⟩, plnL_of fun d hd => by obtain ⟨y, _, rfl⟩ := List.mem_map.mp hd; exact pln_up _ (EncP.ok y) hp⟩, noSL_of fun d hd => by obtain ⟨y, _, rfl⟩ := List.mem_map.mp hd; exact EncX.ok y⟩), fidx_enc, q]
    rfl
theorem prt_conv {f : FS} {v : α} {w : β} (e : enc v = enc w) (h : SpS S f (Prt v kk)) : SpS S f (Prt w kk) := fun ρ z => by
  obtain ⟨k, q, hk⟩ := h ρ z
  exact ⟨k, by rw [← e]; exact q, hk⟩
/-- t[j].append(v), t a tuple at a slot, its j-th part one's own list -/
theorem sp_appT {fe : FE} {t t' : α} {ds ds' : List D} {xs ys : List β} {v : β} {j : Nat} {E C : List Nat} (hx : S[i]? = some (some (enc t, some 2))) (ht : enc t = .tup ds) (hj : ds[j]? = some (enc xs)) (h : RE S fe v kk E C) (hi : i ∉ E) (hz : zApp xs v = some ys) (hd : ds.set j (enc ys) = ds') (ht' : enc t' = .tup ds') (hS : (frzS E S).set i (some (enc t', some 2)) = S') : SpS S (sAppT i j fe) (Pnx S') := fun ρ z => by
  obtain ⟨k0, e0, hk0⟩ := z.2 i _ hx
  have hk0 : k0 = 2 := hk0 _ rfl
  subst hk0
  obtain ⟨r, e, a, b, c, _⟩ := h ρ z
  rw [show (enc t, some 2).1 = enc t from rfl, ht] at e0
  unfold zApp at hz
  split at hz
  · rename_i hl
    cases hz
    have hj : ds[j]? = some (.lst (xs.map enc)) := hj
    refine ⟨(frzL r.e ρ).set i (some (.tup (ds.set j (.lst (xs.map enc ++ [r.d]))), 2)), ?_, ?_⟩
    · unfold sAppT ownT
      simp only [e0, hj]
      rw [stE_def e]
      unfold appTOut
      simp only [e0, hj]
      rw [if_neg fun q => hi (c i q), if_pos (by rw [List.length_map]; exact hl)]
    · have e1 : D.lst (xs.map enc ++ [r.d]) = enc (xs ++ [v]) := by rw [a]; show _ = D.lst _; rw [List.map_append]; rfl
      rw [e1, hd, ← ht', ← hS]
      exact (z.frz c).set i fun m q => by cases q; rfl
  · cases hz
end
end PyL

namespace PyL
open PySem PySem.Spec L2
set_option autoImplicit false
/-! ### dicts: keys ints or texts, or tuples of them; values scalars -/
def dV : D → Option V
  | .non => some .non
  | .bl b => some (.bl b)
  | .int i => some (.int i)
  | .str x => some (.str x)
  | _ => none
def vD : V → Option D
  | .non => some .non
  | .bl b => some (.bl b)
  | .int i => some (.int i)
  | .str x => some (.str x)
  | _ => none
def dKey : D → Option Key
  | .int i => some (.inl i)
  | .str x => some (.inr x)
  | _ => none
def dKeys : List D → Option (List Key)
  | [] => some []
  | d :: ds => (dKey d).bind fun k => (dKeys ds).bind fun ks => some (k :: ks)
def keyD : Key → D
  | .inl i => .int i
  | .inr x => .str x
theorem dV_rp {S : PA1} {H : Hp} {d : D} {v w : V} (h : dV d = some w) (r : Rp S H d v) : v = w ∧ scal d = true := by
  cases d <;> simp [dV] at h <;> exact ⟨by rw [← h]; exact r, rfl⟩
theorem vD_rp {S : PA1} {H : Hp} {d : D} {v : V} (h : vD v = some d) : Rp S H d v ∧ scal d = true := by
  cases v <;> simp [vD] at h <;> rw [← h] <;> exact ⟨rfl, rfl⟩
theorem dKey_rp {S : PA1} {H : Hp} {d : D} {v : V} {k : Key} (h : dKey d = some k) (r : Rp S H d v) : v = kV k := by
  cases d <;> simp [dKey] at h <;> rw [← h] <;> exact r
theorem dKeys_rp {S : PA1} {H : Hp} : ∀ {ds : List D} {vs : List V} {ks : List Key}, dKeys ds = some ks → RpL S H ds vs → vs = ks.map kV
  | [], _, ks, h, r => by cases h; exact r
  | d :: ds, _, ks, h, ⟨x, q, e, p, l⟩ => by
    unfold dKeys at h
    cases hk : dKey d with
    | none => rw [hk] at h; cases h
    | some k =>
      rw [hk] at h
      cases hks : dKeys ds with
      | none => rw [hks] at h; cases h
      | some ms =>
        rw [hks] at h
        cases h
        rw [e, dKey_rp hk p, dKeys_rp hks l]; rfl
/-- what a dict holds at a key -/
def dAt (d k : D) : Option (Option V) := match d with
  | .dK kvs => (dKey k).map fun j => valV kvs j
  | .dT kvs => match k with
    | .tup ds => (dKeys ds).map fun j => valV kvs j
    | _ => none
  | _ => none
theorem Fz.dget {S0 : PA1} {F : FP} {H : Hp} {r q : R} {x y : V} {o : Option V} (hr : Fz S0 F H r x) (hq : Fz S0 F H q y) (h : dAt r.d q.d = some o) : ∃ a, x = .ref a ∧ DGet H a y o := by
  unfold dAt at h
  have rp := hr.rp
  have rq := hq.rp
  split at h
  · rename_i kvs e
    rw [e] at rp
    obtain ⟨a, rfl, _, ha⟩ := rp
    cases hk : dKey q.d with
    | none => rw [hk] at h; cases h
    | some k =>
      rw [hk] at h
      cases h
      exact ⟨a, rfl, by rw [dKey_rp hk rq]; exact .k ha⟩
  · rename_i kvs e
    rw [e] at rp
    obtain ⟨a, rfl, _, ha⟩ := rp
    split at h
    · rename_i ds e2
      rw [e2] at rq
      obtain ⟨b, us, rfl, _, hb, lb⟩ := rq
      cases hk : dKeys ds with
      | none => rw [hk] at h; cases h
      | some ks =>
        rw [hk] at h
        cases h
        rw [dKeys_rp hk lb] at hb
        exact ⟨a, rfl, .t ha hb⟩
    · cases h
  · cases h
def gDGet : G2 := fun ra rb => match dAt ra.d rb.d with
  | some (some v) => match vD v with
    | some d => .ok (scR d)
    | none => .bad
  | _ => .bad
def gDIn (neg : Bool) : G2 := fun ra rb => match dAt rb.d ra.d with
  | some o => okB (if neg then !o.isSome else o.isSome)
  | none => .bad
def isDct : D → Bool
  | .dK _ => true
  | .dT _ => true
  | _ => false
def gDGet2 (ra rb rc : R) : Res R := if scal rc.d then match dAt ra.d rb.d with
    | some none => .ok (scR rc.d)
    | some (some v) => match vD v with
      | some d => .ok (scR d)
      | none => .bad
    | none => .bad
  else .bad
def fDGet2 (fo fi fx : FE) : FE := fun ρ => (fo ρ).bind fun ra => if isDct ra.d then (fi ρ).bind fun rb => (fx ρ).bind fun rc => gDGet2 ra rb rc else .bad
section
variable {X : Cx} {W : WK} {o i f : Expr} {fo fi fx : FE} {pos apos cpos : Pos}
theorem e_dget (hu : X.A.units + 1 < cLine) (ho : PE X o (rdE W fo)) (hi : PE X i (rdE W fi)) (hs : NoSl i := by intro ov iv; rfl) : PE X (.Subscript o i pos) (rdE W (fBin gDGet fo fi)) :=
  peI (pe_dget hu ho hi hs) fun σ H Q ⟨S0, ρ, F, E, p⟩ => post_bind E p fun ra x H1 fp1 s1 n1 v1 E1 p1 => post_bind E1 p1 fun rb y H2 fp2 s2 n2 v2 E2 p2 => by
    unfold gDGet at p2
    split at p2
    · rename_i v hd
      split at p2
      · rename_i d hv
        obtain ⟨a, rfl, g⟩ := Fz.dget ((v1.fz (E.nin n1 _)).grow s2) (v2.fz (E1.nin n2 _)) hd
        obtain ⟨r, hs⟩ := vD_rp (S := fun b => inS S0 F [] b ∨ b ∈ ([] : List Addr)) (H := H2) hv
        exact ⟨a, v, rfl, g, post_sc p2 r hs⟩
      · exact p2.elim
    · exact p2.elim
theorem rd_din {neg : Bool} {σ : St} {H : Hp} {Q : VK} (h : rdE W (fBin (gDIn neg) fi fo) σ H Q) : rdE W fi σ H fun y H1 => rdE W fo σ H1 fun x H2 => ∃ a o, x = .ref a ∧ DGet H2 a y o ∧ Q (.bl (if neg then !o.isSome else o.isSome)) H2 := by
  obtain ⟨S0, ρ, F, E, p⟩ := h
  exact post_bind E p fun ra x H1 fp1 s1 n1 v1 E1 p1 => post_bind E1 p1 fun rb y H2 fp2 s2 n2 v2 E2 p2 => by
    unfold gDIn at p2
    split at p2
    · rename_i ov hd
      obtain ⟨a, rfl, g⟩ := Fz.dget (v2.fz (E1.nin n2 _)) ((v1.fz (E.nin n1 _)).grow s2) hd
      exact ⟨a, ov, rfl, g, okB_post p2⟩
    · exact p2.elim
theorem c_din (hu : X.A.units + 1 < cLine) (hi : PE X i (rdE W fi)) (ho : PE X o (rdE W fo)) (hb : behindInMarks .In o = false) : PE X (.Compare i [.In] [o] pos) (rdE W (fBin (gDIn false) fi fo)) :=
  peI (pe_cmp (pc_din hu hi ho) hb) fun _ _ _ h => rd_din h
theorem c_dnin (hu : X.A.units + 1 < cLine) (hi : PE X i (rdE W fi)) (ho : PE X o (rdE W fo)) (hb : behindInMarks .NotIn o = false) : PE X (.Compare i [.NotIn] [o] pos) (rdE W (fBin (gDIn true) fi fo)) :=
  peI (pe_cmp (pc_dnotin hu hi ho) hb) fun _ _ _ h => rd_din h
theorem c_dinT (hu : X.A.units + 1 < cLine) (hi : PE X i (rdE W fi)) (ho : PE X o (rdE W fo)) (hb : behindInMarks .In o = false) : PT X (.Compare i [.In] [o] pos) (rdT W (fTest (fBin (gDIn false) fi fo))) :=
  ptI (pt_cmp (pc_din hu hi ho) hb) fun _ _ _ h => rd_din (rd_test h)
theorem c_dninT (hu : X.A.units + 1 < cLine) (hi : PE X i (rdE W fi)) (ho : PE X o (rdE W fo)) (hb : behindInMarks .NotIn o = false) : PT X (.Compare i [.NotIn] [o] pos) (rdT W (fTest (fBin (gDIn true) fi fo))) :=
  ptI (pt_cmp (pc_dnotin hu hi ho) hb) fun _ _ _ h => rd_din (rd_test h)
theorem u62_1 {A : Around} (h : A.units + 62 < cLine) : A.units + 1 < cLine := by omega
theorem e_dget2 (hu : X.A.units + 1 < cLine) (ho : PE X o (rdE W fo)) (hi : PE X i (rdE W fi)) (hf : PE X f (rdE W fx)) (m : M2 X o "get" apos i f cpos) : PE X (.Call (.Attribute o "get" apos) [i, f] [] cpos) (rdE W (fDGet2 fo fi fx)) :=
  peI (pe_dget2 hu ho hi hf m) fun σ H Q ⟨S0, ρ, F, E, p⟩ => post_bind E p fun ra x H1 fp1 s1 n1 v1 E1 p1 => by
    split at p1
    · rename_i hD
      have z1 := v1.fz (E.nin n1 _)
      have hI : ∃ a, x = .ref a ∧ IsD H1 a := by
        have rp := z1.rp
        unfold isDct at hD
        split at hD
        · rename_i kvs e
          rw [e] at rp
          obtain ⟨a, rfl, _, ha⟩ := rp
          exact ⟨a, rfl, .inl ⟨kvs, .inl ha⟩⟩
        · rename_i kvs e
          rw [e] at rp
          obtain ⟨a, rfl, _, ha⟩ := rp
          exact ⟨a, rfl, .inr ⟨kvs, .inl ha⟩⟩
        · cases hD
      obtain ⟨a, rfl, isd⟩ := hI
      refine ⟨a, rfl, isd, post_bind E1 p1 fun rb y H2 fp2 s2 n2 v2 E2 p2 => post_bind E2 p2 fun rc z H3 fp3 s3 n3 v3 E3 p3 => ?_⟩
      have z3 := v3.fz (E2.nin n3 _)
      unfold gDGet2 at p3
      split at p3
      · rename_i hsc
        split at p3
        · rename_i hd
          obtain ⟨a', ea, g⟩ := Fz.dget ((z1.grow s2).grow s3) ((v2.fz (E1.nin n2 _)).grow s3) hd
          cases ea
          exact ⟨none, g, post_sc p3 (scal_rp hsc z3.rp) hsc⟩
        · rename_i v hd
          split at p3
          · rename_i d hv
            obtain ⟨a', ea, g⟩ := Fz.dget ((z1.grow s2).grow s3) ((v2.fz (E1.nin n2 _)).grow s3) hd
            cases ea
            obtain ⟨r, hs⟩ := vD_rp (S := fun b => inS S0 F [] b ∨ b ∈ ([] : List Addr)) (H := H3) hv
            exact ⟨some v, g, post_sc p3 r hs⟩
          · exact p3.elim
        · exact p3.elim
      · exact p3.elim
    · exact p1.elim
/-- {} -/
def fDNew (t : Bool) : FE := fun _ => .ok ⟨if t then .dT [] else .dK [], 1, [], []⟩
theorem e_dnewK : PE X (.Dict [] [] pos) (rdE W (fDNew false)) :=
  peI pe_dnewK fun σ H Q ⟨S0, ρ, F, E, p⟩ => fun o no => p _ _ [o] (same_upd no) (fun a ha => by rw [List.mem_singleton.mp ha]; exact no) ⟨⟨o, rfl, upd_same, rfl⟩, trivial⟩
theorem e_dnewT : PE X (.Dict [] [] pos) (rdE W (fDNew true)) :=
  peI pe_dnewT fun σ H Q ⟨S0, ρ, F, E, p⟩ => fun o no => p _ _ [o] (same_upd no) (fun a ha => by rw [List.mem_singleton.mp ha]; exact no) ⟨⟨o, rfl, upd_same, rfl⟩, trivial⟩
/-- d[k] = v -/
def dPutD (d k : D) (v : V) : Option D := match d with
  | .dK kvs => if kvs.length < sizeLine then (dKey k).map fun j => .dK (putK kvs j v) else none
  | .dT kvs => if kvs.length < sizeLine then match k with
      | .tup ds => (dKeys ds).map fun j => .dT (putK kvs j v)
      | _ => none
    else none
  | _ => none
def dputOut (i : Nat) (r q : R) (ρ : Ev) : Out := match ρ[i]?, dV r.d with
  | some (some (d, k + 1)), some v => match dPutD d q.d v with
    | some d' => .nx (ρ.set i (some (d', k + 1)))
    | none => .bad
  | _, _ => .bad
def ownD (i : Nat) (f : FS) : FS := fun ρ => match ρ[i]? with
  | some (some (d, _ + 1)) => if isDct d then f ρ else .bad
  | _ => .bad
def sDPut (i : Nat) (fi f : FE) : FS := ownD i (stE f fun r => stE fi fun q => dputOut i r q)
/-- an owned dict -/
theorem ER.dct {S0 : PA1} {H0 : Hp} {ρ : Ev} {σ : St} {H : Hp} {F : FP} (E : ER S0 H0 ρ σ H F) {i : Nat} {d : D} {k : Nat} (h : ρ[i]? = some (some (d, k + 1))) (hd : isDct d = true) :
    ∃ a, σ[i]? = some (some (.ref a)) ∧ F i = [a] ∧ ((∃ kvs, d = .dK kvs ∧ H a = some (.dK kvs)) ∨ ∃ kvs, d = .dT kvs ∧ H a = some (.dT kvs)) := by
  obtain ⟨v, e, o⟩ := E.ee.rep i _ _ h
  unfold isDct at hd
  split at hd
  · obtain ⟨a, rfl, ha, ef⟩ := o
    exact ⟨a, e, ef, .inl ⟨_, rfl, ha⟩⟩
  · obtain ⟨a, rfl, ha, ef⟩ := o
    exact ⟨a, e, ef, .inr ⟨_, rfl, ha⟩⟩
  · cases hd
theorem ownD_ok {W : WK} {S0 : PA1} {H0 : Hp} {ρ : Ev} {i : Nat} {f : FS} {Dn : Ends} (p : PostS W S0 H0 Dn (ownD i f ρ)) : (∃ d k, ρ[i]? = some (some (d, k + 1)) ∧ isDct d = true) ∧ PostS W S0 H0 Dn (f ρ) := by
  unfold ownD at p
  split at p
  · rename_i d k h
    split at p
    · rename_i hd
      exact ⟨⟨d, k, h, hd⟩, p⟩
    · exact p.elim
  · exact p.elim
theorem s_dput (n : Nat) {x : Str} {npos spos : Pos} {e : Expr} {fe : FE} (hu : X.A.units + 1 < cLine) (hv : PE X (.Name x npos) (tVar n)) (hi : PE X i (rdE W fi)) (he : PE X e (rdE W fe)) (hs : swapsWith e (some (.Subscript (.Name x npos) i spos)) pos.line X.env = pure false := by rfl) :
    PS X (.Assign [.Subscript (.Name x npos) i spos] e pos) (rdS W (sDPut n fi fe)) := by
  refine psI (ps_dput hu hv hi he hs) fun Dn σ H ⟨S0, H0, ρ, F, E, p⟩ => ?_
  obtain ⟨⟨d, k, hi, hd⟩, p⟩ := ownD_ok p
  refine ps_bind E p fun r v H1 fp s nn vr E1 p1 => ?_
  obtain ⟨a, ha, ef, hk⟩ := E1.dct hi hd
  refine ⟨.ref a, ha, ps_bind E1 p1 fun q y H2 fp2 s2 n2 v2 E2 p2 => ?_⟩
  have aF : a ∈ F n := by rw [ef]; exact List.mem_singleton.mpr rfl
  have zq := v2.fz (E1.ee.nin n2 _)
  unfold dputOut at p2
  rw [hi] at p2
  cases hv : dV r.d with
  | none => rw [hv] at p2; exact p2.elim
  | some vv =>
    rw [hv] at p2
    simp only at p2
    obtain ⟨rfl, _⟩ := dV_rp hv (vr.fz (E.ee.nin nn _)).rp
    rcases hk with ⟨kvs, rfl, hH⟩ | ⟨kvs, rfl, hH⟩
    · unfold dPutD at p2
      simp only at p2
      split at p2
      · rename_i d' hd'
        split at hd'
        · rename_i hz
          cases hkey : dKey q.d with
          | none => rw [hkey] at hd'; cases hd'
          | some key =>
            rw [hkey] at hd'
            cases hd'
            have hy := dKey_rp hkey zq.rp
            refine ⟨a, _, rfl, by rw [hy]; exact .k (s2 _ _ hH) hz, ?_⟩
            have := E2.mutate (d' := .dK (putK kvs key v)) (k' := k + 1) (e := []) (fp' := [a]) (o' := .dK (putK kvs key v)) hi ha (by simp) (Same.refl H2) aF trivial (fun b hb => .inl (by rw [List.mem_singleton.mp hb]; exact aF)) ⟨a, rfl, upd_same, rfl⟩
            exact p2 _ _ _ this
        · cases hd'
      · exact p2.elim
    · unfold dPutD at p2
      simp only at p2
      split at p2
      · rename_i d' hd'
        split at hd'
        · rename_i hz
          split at hd'
          · rename_i ds hds
            cases hkey : dKeys ds with
            | none => rw [hkey] at hd'; cases hd'
            | some key =>
              rw [hkey] at hd'
              cases hd'
              have rq := zq.rp
              rw [hds] at rq
              obtain ⟨b, us, rfl, _, hb, lb⟩ := rq
              rw [dKeys_rp hkey lb] at hb
              refine ⟨a, _, rfl, .t (s2 _ _ hH) hb hz, ?_⟩
              have := E2.mutate (d' := .dT (putK kvs key v)) (k' := k + 1) (e := []) (fp' := [a]) (o' := .dT (putK kvs key v)) hi ha (by simp) (Same.refl H2) aF trivial (fun b hb => .inl (by rw [List.mem_singleton.mp hb]; exact aF)) ⟨a, rfl, upd_same, rfl⟩
              exact p2 _ _ _ this
          · cases hd'
        · cases hd'
      · exact p2.elim
/-! list(d), len(d) -/
def gListD := on1 fun r => match r.d with
  | .dK kvs => .ok ⟨.lst (kvs.map fun kv => keyD kv.1), 1, [], []⟩
  | _ => .bad
theorem keys_rp {S : PA1} {H : Hp} : ∀ {kvs : List (Key × V)}, RpL S H (kvs.map fun kv => keyD kv.1) (kvs.map fun kv => kV kv.1)
  | [] => rfl
  | kv :: kvs => ⟨_, _, rfl, by obtain ⟨k, v⟩ := kv; cases k <;> rfl, keys_rp⟩
theorem ok_listD : BOk (fun xs H Q => ∃ (a : Addr) (kvs : List (Key × V)), xs = [.ref a] ∧ Rd H a (.dK kvs) ∧ ∀ p, H p = none → Q (.ref p) (upd H p (.lst (kvs.map fun kv => kV kv.1)))) gListD := by
  intro S0 ρ σ H F W rs vs Q E l p
  obtain ⟨r, v, rfl, z, p⟩ := on1_ok l p
  split at p
  · rename_i kvs e
    have rp := z.rp
    rw [e] at rp
    obtain ⟨a, rfl, _, ha⟩ := rp
    exact ⟨a, kvs, rfl, .inl ha, post_lst E p keys_rp⟩
  · exact p.elim
def gLenD := on1 fun r => match r.d with
  | .dK kvs => okI kvs.length
  | _ => .bad
theorem ok_lenD : BOk (fun xs H Q => ∃ a kvs, xs = [V.ref a] ∧ H a = some (.dK kvs) ∧ Q (.int kvs.length) H) gLenD := by
  intro S0 ρ σ H F W rs vs Q E l p
  obtain ⟨r, v, rfl, z, p⟩ := on1_ok l p
  split at p
  · rename_i kvs e
    have rp := z.rp
    rw [e] at rp
    obtain ⟨a, rfl, _, ha⟩ := rp
    exact ⟨a, kvs, rfl, ha, okI_post p⟩
  · exact p.elim
end
end PyL

namespace PyL
open PySem PySem.Spec L2
open Enc (enc)
set_option autoImplicit false
/-! ### dicts, typed -/
structure Dct (κ ν : Type) where
  l : List (κ × ν)
class EncV (ν : Type) [Enc ν] where
  tv : ν → V
  to : ∀ v : ν, dV (enc v) = some (tv v)
  fro : ∀ v : ν, vD (tv v) = some (enc v)
instance : EncV Int := ⟨.int, fun _ => rfl, fun _ => rfl⟩
instance : EncV Bool := ⟨.bl, fun _ => rfl, fun _ => rfl⟩
instance : EncV Str := ⟨.str, fun _ => rfl, fun _ => rfl⟩
class EncK (κ : Type) [Enc κ] [DecidableEq κ] where
  tup : Bool
  mp : List (κ × V) → D
  at' : ∀ l k, dAt (mp l) (enc k) = some (valV l k)
  put' : ∀ l k v, l.length < sizeLine → dPutD (mp l) (enc k) v = some (mp (putK l k v))
  nw : mp [] = if tup then .dT [] else .dK []
  dct : ∀ l, isDct (mp l) = true
  af' : ∀ n l, af (n + 1) (mp l) = true
section
variable {κ κ' : Type} [DecidableEq κ] [DecidableEq κ'] {f : κ → κ'}
theorem valV_inj (hf : ∀ a b, f a = f b → a = b) (k : κ) : ∀ l : List (κ × V), valV (l.map fun p => (f p.1, p.2)) (f k) = valV l k
  | [] => rfl
  | p :: l => by
    rw [List.map_cons]
    by_cases h : p.1 = k
    · rw [valV_pos (p := (f p.1, p.2)) (by rw [h]), valV_pos h]
    · rw [valV_neg (p := (f p.1, p.2)) (fun q => h (hf _ _ q)), valV_neg h, valV_inj hf k l]
theorem putK_inj (hf : ∀ a b, f a = f b → a = b) (k : κ) (v : V) (l : List (κ × V)) : putK (l.map fun p => (f p.1, p.2)) (f k) v = (putK l k v).map fun p => (f p.1, p.2) := by
  unfold putK
  have e : ((l.map fun p => (f p.1, p.2)).any fun kv => decide (kv.1 = f k)) = l.any fun kv => decide (kv.1 = k) := by
    rw [List.any_map]
    congr 1
    funext p
    show decide (f p.1 = f k) = decide (p.1 = k)
    by_cases h : p.1 = k
    · rw [h]; simp
    · rw [decide_eq_false h, decide_eq_false fun q => h (hf _ _ q)]
  rw [e]
  split
  · rw [List.map_map, List.map_map]
    refine List.map_congr_left fun p _ => ?_
    show (if f p.1 = f k then (f p.1, v) else (f p.1, p.2)) = (f (if p.1 = k then (p.1, v) else p).1, (if p.1 = k then (p.1, v) else p).2)
    by_cases h : p.1 = k
    · rw [if_pos (by rw [h]), if_pos h]
    · rw [if_neg fun q => h (hf _ _ q), if_neg h]
  · rw [List.map_append]; rfl
end
instance : EncK Int where
  tup := false
  mp l := .dK (l.map fun p => (.inl p.1, p.2))
  at' l k := by
    show (dKey (.int k)).map (fun j => valV _ j) = _
    show some (valV (l.map fun p => ((.inl p.1 : Key), p.2)) (.inl k)) = _
    rw [valV_inj (f := fun i : Int => (.inl i : Key)) fun a b h => by cases h; rfl]
  put' l k v h := by
    show (if (l.map fun p => ((.inl p.1 : Key), p.2)).length < sizeLine then (dKey (.int k)).map fun j => D.dK (putK _ j v) else none) = _
    rw [if_pos (by rw [List.length_map]; exact h)]
    show some (D.dK (putK (l.map fun p => ((.inl p.1 : Key), p.2)) (.inl k) v)) = _
    rw [putK_inj (f := fun i : Int => (.inl i : Key)) fun a b h => by cases h; rfl]
  nw := rfl
  dct _ := rfl
  af' _ _ := rfl
instance : EncK (T2 Int Int) where
  tup := true
  mp l := .dT (l.map fun p => ([.inl p.1.a, .inl p.1.b], p.2))
  at' l k := by
    show some (valV (l.map fun p => (([.inl p.1.a, .inl p.1.b] : List Key), p.2)) [.inl k.a, .inl k.b]) = _
    rw [valV_inj (f := fun t : T2 Int Int => ([.inl t.a, .inl t.b] : List Key)) fun ⟨a, b⟩ ⟨c, d⟩ h => by cases h; rfl]
  put' l k v h := by
    show (if (l.map fun p => (([.inl p.1.a, .inl p.1.b] : List Key), p.2)).length < sizeLine then some (D.dT (putK (l.map fun p => (([.inl p.1.a, .inl p.1.b] : List Key), p.2)) [.inl k.a, .inl k.b] v)) else none) = _
    rw [if_pos (by rw [List.length_map]; exact h)]
    rw [putK_inj (f := fun t : T2 Int Int => ([.inl t.a, .inl t.b] : List Key)) fun ⟨a, b⟩ ⟨c, d⟩ h => by cases h; rfl]
  nw := rfl
  dct _ := rfl
  af' _ _ := rfl
section
variable {κ ν : Type} [Enc κ] [DecidableEq κ] [EncK κ] [Enc ν] [EncV ν]
instance : Enc (Dct κ ν) := ⟨fun d => EncK.mp (d.l.map fun p => (p.1, EncV.tv p.2))⟩
instance : EncF (Dct κ ν) := ⟨1, fun d => EncK.af' 0 _⟩
def Dct.get {κ ν : Type} [DecidableEq κ] (d : Dct κ ν) (k : κ) : Option ν := (d.l.find? fun p => decide (p.1 = k)).map (·.2)
def Dct.put {κ ν : Type} [DecidableEq κ] (d : Dct κ ν) (k : κ) (v : ν) : Dct κ ν := if (d.l.any fun p => decide (p.1 = k)) = true then ⟨d.l.map fun p => if p.1 = k then (p.1, v) else p⟩ else ⟨d.l ++ [(k, v)]⟩
def zDPut {κ ν : Type} [DecidableEq κ] (d : Dct κ ν) (k : κ) (v : ν) : Option (Dct κ ν) := if d.l.length < sizeLine then some (d.put k v) else none
theorem get_tv (k : κ) : ∀ l : List (κ × ν), valV (l.map fun p => (p.1, EncV.tv p.2)) k = ((l.find? fun p => decide (p.1 = k)).map (·.2)).map EncV.tv
  | [] => rfl
  | p :: l => by
    rw [List.map_cons, List.find?_cons]
    by_cases h : p.1 = k
    · rw [valV_pos (p := (p.1, EncV.tv p.2)) h, decide_eq_true h]; rfl
    · rw [valV_neg (p := (p.1, EncV.tv p.2)) h, decide_eq_false h]; exact get_tv k l
theorem dat_enc {d : Dct κ ν} {k : κ} : dAt (enc d) (enc k) = some ((d.get k).map EncV.tv) := by
  show dAt (EncK.mp _) (enc k) = _
  rw [EncK.at', get_tv]; rfl
theorem dput_enc {d : Dct κ ν} {k : κ} {v : ν} (h : d.l.length < sizeLine) : dPutD (enc d) (enc k) (EncV.tv v) = some (enc (d.put k v)) := by
  show dPutD (EncK.mp _) (enc k) _ = some (EncK.mp _)
  rw [EncK.put' _ _ _ (by rw [List.length_map]; exact h)]
  congr 2
  unfold putK Dct.put
  have e : ((d.l.map fun p => (p.1, EncV.tv p.2)).any fun kv => decide (kv.1 = k)) = d.l.any fun p => decide (p.1 = k) := by rw [List.any_map]; rfl
  rw [e]
  split
  · rw [List.map_map]
    show _ = (d.l.map fun p => if p.1 = k then (p.1, v) else p).map fun p => (p.1, EncV.tv p.2)
    rw [List.map_map]
    refine List.map_congr_left fun p _ => ?_
    show (if p.1 = k then (p.1, EncV.tv v) else (p.1, EncV.tv p.2)) = ((if p.1 = k then (p.1, v) else p).1, EncV.tv (if p.1 = k then (p.1, v) else p).2)
    split <;> rfl
  · show _ = (d.l ++ [(k, v)]).map fun p => (p.1, EncV.tv p.2)
    rw [List.map_append]; rfl
variable {S S' : Spec} {fa fb fc : FE} {i : Nat} {ka kb kc kk : Option Nat} {Ea Ca Eb Cb Ec Cc E C : List Nat}
theorem re_dnew {t : Bool} (ht : t = EncK.tup κ) : RE S (fDNew t) (⟨[]⟩ : Dct κ ν) (some 1) [] [] := fun ρ z => ⟨⟨if t then .dT [] else .dK [], 1, [], []⟩, rfl, by show (if t then D.dT [] else D.dK []) = EncK.mp []; rw [EncK.nw, ht], fun m q => by cases q; rfl, fun j hj => (by cases hj), fun j hj => (by cases hj)⟩
theorem re_dget {d : Dct κ ν} {k : κ} {v : ν} (ha : RE S fa d ka Ea Ca) (hb : RE S fb k kb Eb Cb) (h : d.get k = some v) : RE S (fBin gDGet fa fb) v (some 0) [] [] := re_bin ha hb fun ra rb g1 g2 => by
  obtain ⟨k1, e1, c1, rfl, _⟩ := rd1 g1
  obtain ⟨k2, e2, c2, rfl, _⟩ := rd1 g2
  refine ⟨⟨enc v, 0, [], []⟩, ?_, gv0⟩
  unfold gDGet
  simp only [dat_enc, h, Option.map_some, EncV.fro]
  rfl
theorem re_dget2 {d : Dct κ ν} {k : κ} {v : ν} (hs : scal (enc v) = true) (ha : RE S fa d ka Ea Ca) (hb : RE S fb k kb Eb Cb) (hc : RE S fc v kc Ec Cc) : RE S (fDGet2 fa fb fc) ((d.get k).getD v) (some 0) [] [] := fun ρ z => by
  obtain ⟨ra, q1, g1⟩ := ha ρ z
  obtain ⟨rb, q2, g2⟩ := hb ρ z
  obtain ⟨rc, q3, g3⟩ := hc ρ z
  obtain ⟨k1, e1, c1, rfl, _⟩ := rd1 g1
  obtain ⟨k2, e2, c2, rfl, _⟩ := rd1 g2
  obtain ⟨k3, e3, c3, rfl, _⟩ := rd1 g3
  refine ⟨⟨enc ((d.get k).getD v), 0, [], []⟩, ?_, gv0⟩
  unfold fDGet2
  rw [q1, bd_ok]
  have hd : isDct (enc d) = true := EncK.dct _
  simp only [hd, if_true]
  rw [q2, bd_ok, q3, bd_ok]
  unfold gDGet2
  simp only [hs, if_true, dat_enc]
  cases d.get k with
  | none => rfl
  | some w => simp only [Option.map_some, EncV.fro]; rfl
theorem re_din {d : Dct κ ν} {k : κ} (hb : RE S fb k kb Eb Cb) (ha : RE S fa d ka Ea Ca) : RE S (fBin (gDIn false) fb fa) (d.get k).isSome (some 0) [] [] := re_bin hb ha fun rb ra g1 g2 => by
  obtain ⟨k1, e1, c1, rfl, _⟩ := rd1 g1
  obtain ⟨k2, e2, c2, rfl, _⟩ := rd1 g2
  refine ⟨_, ?_, gv0⟩
  unfold gDIn
  simp only [dat_enc]
  cases d.get k <;> rfl
theorem re_dnin {d : Dct κ ν} {k : κ} (hb : RE S fb k kb Eb Cb) (ha : RE S fa d ka Ea Ca) : RE S (fBin (gDIn true) fb fa) (!(d.get k).isSome) (some 0) [] [] := re_bin hb ha fun rb ra g1 g2 => by
  obtain ⟨k1, e1, c1, rfl, _⟩ := rd1 g1
  obtain ⟨k2, e2, c2, rfl, _⟩ := rd1 g2
  refine ⟨_, ?_, gv0⟩
  unfold gDIn
  simp only [dat_enc]
  cases d.get k <;> rfl
theorem sp_dput {d d' : Dct κ ν} {k : κ} {v : ν} {m : Nat} {fi fe : FE} (hx : S[i]? = some (some (enc d, some (m + 1)))) (hv : RE S fe v ka Ea Ca) (hk : RE S fi k kb Eb Cb) (hz : zDPut d k v = some d') (hS : S.set i (some (enc d', some (m + 1))) = S') : SpS S (sDPut i fi fe) (Pnx S') := fun ρ z => by
  obtain ⟨k0, e0, hk0⟩ := z.2 i _ hx
  have hk0 : k0 = m + 1 := hk0 _ rfl
  subst hk0
  obtain ⟨r, q1, g1⟩ := hv ρ z
  obtain ⟨q, q2, g2⟩ := hk ρ z
  obtain ⟨k1, e1, c1, rfl, _⟩ := rd1 g1
  obtain ⟨k2, e2, c2, rfl, _⟩ := rd1 g2
  unfold zDPut at hz
  split at hz
  · rename_i hl
    cases hz
    have e0 : ρ[i]? = some (some (enc d, m + 1)) := e0
    have hd : isDct (enc d) = true := EncK.dct _
    refine ⟨ρ.set i (some (enc (d.put k v), m + 1)), ?_, by rw [← hS]; exact z.set i fun m q => by cases q; rfl⟩
    unfold sDPut ownD
    simp only [e0, hd, if_true]
    rw [stE_def q1, stE_def q2]
    unfold dputOut
    simp only [e0, EncV.to, dput_enc hl]
  · cases hz
theorem re_dkeys {ν : Type} [Enc ν] [EncV ν] {d : Dct Int ν} (ha : RE S fa d ka Ea Ca) : RE S (fB gListD (fCons fa fNil)) (d.l.map (·.1)) (some 1) [] [] := re_b1 ha fun ra g1 => by
  obtain ⟨k1, e1, c1, rfl, _⟩ := rd1 g1
  refine ⟨⟨enc (d.l.map (·.1)), 1, [], []⟩, ?_, rfl, fun m q => by cases q; rfl, fun j hj => (by cases hj), fun j hj => (by cases hj)⟩
  show Res.ok (⟨D.lst (((d.l.map fun p => (p.1, EncV.tv p.2)).map fun p => ((.inl p.1 : Key), p.2)).map fun kv => keyD kv.1), 1, [], []⟩ : R) = Res.ok ⟨D.lst ((d.l.map (·.1)).map enc), 1, [], []⟩
  rw [List.map_map, List.map_map, List.map_map]
  rfl
theorem re_dlen {ν : Type} [Enc ν] [EncV ν] {d : Dct Int ν} (ha : RE S fa d ka Ea Ca) : RE S (fB gLenD (fCons fa fNil)) (d.l.length : Int) (some 0) [] [] := re_b1 ha fun ra g1 => by
  obtain ⟨k1, e1, c1, rfl, _⟩ := rd1 g1
  refine ⟨⟨.int (d.l.length : Int), 0, [], []⟩, ?_, gv0⟩
  show Res.ok (⟨D.int ((((d.l.map fun p => (p.1, EncV.tv p.2)).map fun p => ((.inl p.1 : Key), p.2)).length : Nat) : Int), 0, [], []⟩ : R) = _
  rw [List.length_map, List.length_map]
end
/-! what a dict holds -/
section
variable {κ ν : Type} [DecidableEq κ]
theorem Dct.get_nil {k : κ} : (⟨[]⟩ : Dct κ ν).get k = none := rfl
theorem Dct.get_put {d : Dct κ ν} {k j : κ} {v : ν} : (d.put k v).get j = if j = k then some v else d.get j := by
  obtain ⟨l⟩ := d
  unfold Dct.put Dct.get
  by_cases ha : (l.any fun p => decide (p.1 = k)) = true
  · rw [if_pos ha]
    induction l with
    | nil => simp at ha
    | cons p l ih =>
      simp only [List.map_cons, List.find?_cons]
      by_cases hp : p.1 = k
      · rw [if_pos hp]
        by_cases hj : j = k
        · subst hj; rw [if_pos rfl]; simp [hp]
        · rw [if_neg hj]
          have : ¬ p.1 = j := fun q => hj (by rw [← q, hp])
          simp only [this, decide_false]
          by_cases hl : (l.any fun p => decide (p.1 = k)) = true
          · have := ih hl; rw [if_neg hj] at this; exact this
          · have e : (l.map fun p => if p.1 = k then (p.1, v) else p) = l := by
              conv => rhs; rw [← List.map_id l]
              refine List.map_congr_left fun q hq => ?_
              have : ¬ q.1 = k := fun z => hl (List.any_eq_true.mpr ⟨q, hq, by simp [z]⟩)
              rw [if_neg this]; rfl
            rw [e]
      · rw [if_neg hp]
        have hl : (l.any fun p => decide (p.1 = k)) = true := by simpa [hp] using ha
        have := ih hl
        by_cases hpj : p.1 = j
        · simp only [hpj, decide_true]
          rw [if_neg (fun q => hp (by rw [hpj, q]))]
        · simp only [hpj, decide_false]; exact this
  · rw [if_neg ha]
    simp only [List.find?_append]
    by_cases hj : j = k
    · subst hj
      rw [if_pos rfl]
      have : l.find? (fun p => decide (p.1 = j)) = none := by
        rw [List.find?_eq_none]
        intro p hp hd
        exact ha (List.any_eq_true.mpr ⟨p, hp, hd⟩)
      rw [this]; simp
    · rw [if_neg hj]
      have : ¬ k = j := fun q => hj q.symm
      cases l.find? (fun p => decide (p.1 = j)) with
      | none => simp [this]
      | some p => rfl
end
end PyL

namespace PyL
open PySem PySem.Spec L2
open Enc (enc)
set_option autoImplicit false

/-! ### tuples of five -/
structure T5 (α β γ δ ε : Type) where
  a : α
  b : β
  c : γ
  d : δ
  e : ε
deriving DecidableEq
section
variable {α β γ δ ε : Type} [Enc α] [Enc β] [Enc γ] [Enc δ] [Enc ε]
instance : Enc (T5 α β γ δ ε) := ⟨fun t => .tup [enc t.a, enc t.b, enc t.c, enc t.d, enc t.e]⟩
instance : EncN (T5 α β γ δ ε) := ⟨fun _ h => by cases h⟩
instance : EncI (T5 α β γ δ ε) := ⟨fun T => "tuple" == T, fun a T => ⟨rfl, rfl⟩⟩
instance [EncF α] [EncF β] [EncF γ] [EncF δ] [EncF ε] : EncF (T5 α β γ δ ε) := ⟨if max (max (max (EncF.dp α) (EncF.dp β)) (max (EncF.dp γ) (EncF.dp δ))) (EncF.dp ε) = 0 then 0 else max (max (max (EncF.dp α) (EncF.dp β)) (max (EncF.dp γ) (EncF.dp δ))) (EncF.dp ε) + 1, fun t => af_tupK fun d hd => by
  simp only [List.mem_cons, List.not_mem_nil, or_false] at hd
  rcases hd with rfl | rfl | rfl | rfl | rfl
  · exact af_up _ (EncF.ok t.a) (by omega)
  · exact af_up _ (EncF.ok t.b) (by omega)
  · exact af_up _ (EncF.ok t.c) (by omega)
  · exact af_up _ (EncF.ok t.d) (by omega)
  · exact af_up _ (EncF.ok t.e) (by omega)⟩
instance [EncP α] [EncP β] [EncP γ] [EncP δ] [EncP ε] : EncP (T5 α β γ δ ε) := ⟨max (max (max (EncP.pd α) (EncP.pd β)) (max (EncP.pd γ) (EncP.pd δ))) (EncP.pd ε) + 1, fun t => pln_tup fun d hd => by
  simp only [List.mem_cons, List.not_mem_nil, or_false] at hd
  rcases hd with rfl | rfl | rfl | rfl | rfl
  · exact pln_up _ (EncP.ok t.a) (by omega)
  · exact pln_up _ (EncP.ok t.b) (by omega)
  · exact pln_up _ (EncP.ok t.c) (by omega)
  · exact pln_up _ (EncP.ok t.d) (by omega)
  · exact pln_up _ (EncP.ok t.e) (by omega)⟩
instance [DecidableEq α] [DecidableEq β] [DecidableEq γ] [DecidableEq δ] [DecidableEq ε] [EncQ α] [EncQ β] [EncQ γ] [EncQ δ] [EncQ ε] : EncQ (T5 α β γ δ ε) := ⟨fun ⟨a, b, c, d, e⟩ ⟨a', b', c', d', e'⟩ => by
  show (deq (enc a) (enc a') && (deq (enc b) (enc b') && (deq (enc c) (enc c') && (deq (enc d) (enc d') && (deq (enc e) (enc e') && true))))) = _
  rw [EncQ.ok, EncQ.ok, EncQ.ok, EncQ.ok, EncQ.ok]
  by_cases h1 : a = a' <;> by_cases h2 : b = b' <;> by_cases h3 : c = c' <;> by_cases h4 : d = d' <;> by_cases h5 : e = e' <;> simp [h1, h2, h3, h4, h5]⟩
theorem ix_4 {d0 d1 d2 d3 d4 : D} {xs : List D} : atI (d0 :: d1 :: d2 :: d3 :: d4 :: xs) 4 = some d4 := atI_nat (j := 4) rfl
end
/-! ### str(n) -/
def gStr := on1 fun r => match r.d with
  | .int i => if i.natAbs.log2 < 1920 then .ok (scR (.str (toString i))) else .bad
  | _ => .bad
theorem ok_str {K : PySem.W.Frag} : BOk (fun xs H Q => ∃ i, xs = [.int i] ∧ i.natAbs.log2 < 1920 ∧ Q (.str (toString i)) H) gStr := by
  intro S0 ρ σ H F W rs vs Q E l p
  obtain ⟨r, v, rfl, z, p⟩ := on1_ok l p
  · skip
    split at p
    · rename_i i e
      split at p
      · rename_i h
        exact ⟨i, by rw [z.int e], h, post_sc p rfl rfl⟩
      · exact p.elim
    · exact p.elim
section
variable {α β γ δ : Type} [Enc α] [Enc β] [Enc γ] [Enc δ]
variable {S : List (Option (D × Option Nat))} {fa fb : FE} {ka kb : Option Nat} {Ea Ca Eb Cb : List Nat}
def zStrI (i : Int) : Option Str := if i.natAbs.log2 < 1920 then some (toString i) else none
theorem re_str {i : Int} {x : Str} (ha : RE S fa i ka Ea Ca) (h : zStrI i = some x) : RE S (fB gStr (fCons fa fNil)) x (some 0) [] [] := re_b1 ha fun ra g1 => by
  obtain ⟨k1, e1, c1, rfl, _⟩ := rd1 g1
  unfold zStrI at h
  split at h
  · rename_i hc
    cases h
    refine ⟨_, ?_, gv0⟩
    show (if i.natAbs.log2 < 1920 then _ else _) = _
    rw [if_pos hc]; rfl
  · cases h
theorem re_inG [DecidableEq α] [EncQ α] [EncP α] {x : α} {xs : List α} [d : Decidable (x ∈ xs)] (hp : EncP.pd α ≤ 60) (ha : RE S fa x ka Ea Ca) (hb : RE S fb xs kb Eb Cb) : RE S (fBin (gIn false) fa fb) (@decide (x ∈ xs) d) (some 0) [] [] := by
  have := re_in hp ha hb
  rwa [decide_eq_decide.mpr (Iff.rfl : x ∈ xs ↔ x ∈ xs)] at this
theorem re_ninG [DecidableEq α] [EncQ α] [EncP α] {x : α} {xs : List α} [d : Decidable (x ∈ xs)] (hp : EncP.pd α ≤ 60) (ha : RE S fa x ka Ea Ca) (hb : RE S fb xs kb Eb Cb) : RE S (fBin (gIn true) fa fb) (!@decide (x ∈ xs) d) (some 0) [] [] := by
  have := re_nin hp ha hb
  rwa [decide_eq_decide.mpr (Iff.rfl : x ∈ xs ↔ x ∈ xs)] at this
/-! ### values of any kind -/
def zInt : D → Option Int
  | .int n => some n
  | _ => none
def zBool : D → Option Bool
  | .bl n => some n
  | _ => none
def zStr : D → Option Str
  | .str n => some n
  | _ => none
def zItems : D → Option (List D)
  | .lst ds => some ds
  | _ => none
theorem re_cv {x : α} {y : β} (h : enc y = enc x) (ha : RE S fa x ka Ea Ca) : RE S fa y ka Ea Ca := fun ρ z => by
  have := ha ρ z
  rw [← h] at this
  exact this
theorem re_zInt {d : D} {n : Int} (ha : RE S fa d ka Ea Ca) (h : zInt d = some n) : RE S fa n ka Ea Ca := by
  cases d <;> first | (cases h; done) | (cases h; exact ha)
theorem re_zBool {d : D} {n : Bool} (ha : RE S fa d ka Ea Ca) (h : zBool d = some n) : RE S fa n ka Ea Ca := by
  cases d <;> first | (cases h; done) | (cases h; exact ha)
theorem re_zStr {d : D} {n : Str} (ha : RE S fa d ka Ea Ca) (h : zStr d = some n) : RE S fa n ka Ea Ca := by
  cases d <;> first | (cases h; done) | (cases h; exact ha)
theorem encD {xs : List D} : xs.map (enc : D → D) = xs := List.map_id xs
theorem re_zItems {d : D} {xs : List D} (ha : RE S fa d ka Ea Ca) (h : zItems d = some xs) : RE S fa xs ka Ea Ca := by
  cases d <;> first | (cases h; done) | (cases h; exact re_cv (by show D.lst (xs.map (enc : D → D)) = D.lst xs; rw [encD]) ha)
theorem cv_i (x : α) : enc x = enc x := rfl
theorem cv_a (x : α) : enc (enc x : D) = enc x := rfl
theorem cv_l {f : α → β} (h : ∀ x, enc (f x) = enc x) (xs : List α) : enc (xs.map f) = enc xs := by
  show D.lst _ = D.lst _
  rw [List.map_map]
  exact congrArg D.lst (List.map_congr_left fun x _ => h x)
theorem cv_o {f : α → β} (h : ∀ x, enc (f x) = enc x) : ∀ x : Option α, enc (x.map f) = enc x
  | none => rfl
  | some x => h x
theorem cv_2 {f : α → γ} {g : β → δ} (h1 : ∀ x, enc (f x) = enc x) (h2 : ∀ x, enc (g x) = enc x) (t : T2 α β) : enc (⟨f t.a, g t.b⟩ : T2 γ δ) = enc t := by
  show D.tup [enc (f t.a), enc (g t.b)] = D.tup [enc t.a, enc t.b]
  rw [h1, h2]
variable {ε ζ : Type} [Enc ε] [Enc ζ]
theorem cv_3 {f : α → β} {g : γ → δ} {k : ε → ζ} (h1 : ∀ x, enc (f x) = enc x) (h2 : ∀ x, enc (g x) = enc x) (h3 : ∀ x, enc (k x) = enc x) (t : T3 α γ ε) : enc (⟨f t.a, g t.b, k t.c⟩ : T3 β δ ζ) = enc t := by
  show D.tup [enc (f t.a), enc (g t.b), enc (k t.c)] = D.tup [enc t.a, enc t.b, enc t.c]
  rw [h1, h2, h3]
variable {η θ : Type} [Enc η] [Enc θ]
theorem cv_4 {f : α → β} {g : γ → δ} {k : ε → ζ} {l : η → θ} (h1 : ∀ x, enc (f x) = enc x) (h2 : ∀ x, enc (g x) = enc x) (h3 : ∀ x, enc (k x) = enc x) (h4 : ∀ x, enc (l x) = enc x) (t : T4 α γ ε η) : enc (⟨f t.a, g t.b, k t.c, l t.d⟩ : T4 β δ ζ θ) = enc t := by
  show D.tup [enc (f t.a), enc (g t.b), enc (k t.c), enc (l t.d)] = D.tup [enc t.a, enc t.b, enc t.c, enc t.d]
  rw [h1, h2, h3, h4]
def zIs (T : String) (d : D) : Option Bool := if isScr d = true then none else some (isTy T d)
theorem re_zIs {d : D} {T : String} {p : Bool} (ha : RE S fa d ka Ea Ca) (h : zIs T d = some p) : RE S (fIsi T fa) p (some 0) [] [] := re_un ha fun ra g1 => by
  obtain ⟨k1, e1, c1, rfl, _⟩ := rd1 g1
  unfold zIs at h
  split at h
  · cases h
  · rename_i hs
    cases h
    exact ⟨_, g_isi (eq_false_of_ne_true hs), gv0⟩
def zIsN (neg : Bool) (d : D) : Option Bool := if isScr d = true then none else match d with
  | .non => some (!neg)
  | _ => some neg
theorem re_zIsN {d : D} {neg p : Bool} (ha : RE S fa d ka Ea Ca) (h : zIsN neg d = some p) : RE S (fIsN neg fa) p (some 0) [] [] := re_un ha fun ra g1 => by
  obtain ⟨k1, e1, c1, rfl, _⟩ := rd1 g1
  unfold zIsN at h
  split at h
  · cases h
  · rename_i hs
    split at h
    · cases h
      exact ⟨⟨.bl (!neg), 0, [], []⟩, by cases neg <;> rfl, gv0⟩
    · rename_i hn
      cases h
      exact ⟨_, gIsN_not (fun z => hn z) (eq_false_of_ne_true hs), gv0⟩
def zLenA : D → Option Int
  | .lst ds => some ds.length
  | .tup ds => some ds.length
  | _ => none
theorem re_zLenA {d : D} {n : Int} (ha : RE S fa d ka Ea Ca) (h : zLenA d = some n) : RE S (fB gLen (fCons fa fNil)) n (some 0) [] [] := re_b1 ha fun ra g1 => by
  obtain ⟨k1, e1, c1, rfl, _⟩ := rd1 g1
  cases d <;> first | (cases h; done) | (cases h; exact ⟨_, rfl, gv0⟩)
def zEqA (a b : D) : Option Bool := if (pln 60 a && pln 60 b) = true then some (deq a b) else none
theorem re_zEqA {a b : D} {p : Bool} (ha : RE S fa a ka Ea Ca) (hb : RE S fb b kb Eb Cb) (h : zEqA a b = some p) : RE S (fBin gEq fa fb) p (some 0) [] [] := re_bin ha hb fun ra rb g1 g2 => by
  obtain ⟨k1, e1, c1, rfl, _⟩ := rd1 g1
  obtain ⟨k2, e2, c2, rfl, _⟩ := rd1 g2
  unfold zEqA at h
  split at h
  · rename_i hc
    cases h
    simp only [Bool.and_eq_true] at hc
    exact ⟨_, g_eqD hc.1 hc.2, gv0⟩
  · cases h
theorem re_zNeA {a b : D} {p : Bool} (ha : RE S fa a ka Ea Ca) (hb : RE S fb b kb Eb Cb) (h : zEqA a b = some p) : RE S (fBin gNe fa fb) (!p) (some 0) [] [] := re_bin ha hb fun ra rb g1 g2 => by
  obtain ⟨k1, e1, c1, rfl, _⟩ := rd1 g1
  obtain ⟨k2, e2, c2, rfl, _⟩ := rd1 g2
  unfold zEqA at h
  split at h
  · rename_i hc
    cases h
    simp only [Bool.and_eq_true] at hc
    exact ⟨_, g_neD hc.1 hc.2, gv0⟩
  · cases h
def zInA (d : D) (xs : List D) : Option Bool := if (pln 60 d && plnL 60 xs) = true then some (memD xs d) else none
theorem re_zInA {d : D} {xs : List D} {p : Bool} (ha : RE S fa d ka Ea Ca) (hb : RE S fb xs kb Eb Cb) (h : zInA d xs = some p) : RE S (fBin (gIn false) fa fb) p (some 0) [] [] := re_bin ha hb fun ra rb g1 g2 => by
  obtain ⟨k1, e1, c1, rfl, _⟩ := rd1 g1
  obtain ⟨k2, e2, c2, rfl, _⟩ := rd1 g2
  unfold zInA at h
  split at h
  · rename_i hc
    cases h
    simp only [Bool.and_eq_true] at hc
    refine ⟨_, ?_, gv0⟩
    show gIn false ⟨d, k1, e1, c1⟩ ⟨.lst (xs.map (enc : D → D)), k2, e2, c2⟩ = _
    rw [encD]
    exact gIn_ok (neg := false) hc.1 hc.2
  · cases h
theorem re_zNinA {d : D} {xs : List D} {p : Bool} (ha : RE S fa d ka Ea Ca) (hb : RE S fb xs kb Eb Cb) (h : zInA d xs = some p) : RE S (fBin (gIn true) fa fb) (!p) (some 0) [] [] := re_bin ha hb fun ra rb g1 g2 => by
  obtain ⟨k1, e1, c1, rfl, _⟩ := rd1 g1
  obtain ⟨k2, e2, c2, rfl, _⟩ := rd1 g2
  unfold zInA at h
  split at h
  · rename_i hc
    cases h
    simp only [Bool.and_eq_true] at hc
    refine ⟨_, ?_, gv0⟩
    show gIn true ⟨d, k1, e1, c1⟩ ⟨.lst (xs.map (enc : D → D)), k2, e2, c2⟩ = _
    rw [encD]
    exact gIn_ok (neg := true) hc.1 hc.2
  · cases h
def zAtA (d : D) (i : Int) : Option D := match d with
  | .lst ds => atI ds i
  | .tup ds => atI ds i
  | _ => none
theorem gv_item {d : D} {c1 C : List Nat} (hc : ∀ j ∈ c1, j ∈ C) : Gv (itemR ⟨.non, 0, [], c1⟩ d) d (some 0) C C := by
  unfold itemR
  split
  · exact ⟨rfl, fun m z => by cases z; rfl, fun j hj => (by cases hj), fun j hj => (by cases hj)⟩
  · exact ⟨rfl, fun m z => by cases z; rfl, hc, hc⟩
theorem re_zAtA {d : D} {i : Int} {v : D} (ha : RE S fa d ka Ea Ca) (hb : RE S fb i kb Eb Cb) (h : zAtA d i = some v) : RE S (fBin gIx fa fb) v (some 0) Ca Ca := re_bin ha hb fun ra rb g1 g2 => by
  obtain ⟨k1, e1, c1, rfl, _, _, hc⟩ := rd1 g1
  obtain ⟨k2, e2, c2, rfl, _⟩ := rd1 g2
  refine ⟨itemR ⟨.non, 0, [], c1⟩ v, ?_, gv_item hc⟩
  cases d with
  | lst ds =>
    show gIx ⟨.lst ds, k1, e1, c1⟩ ⟨.int i, k2, e2, c2⟩ = _
    unfold gIx
    simp only
    rw [show atI ds i = some v from h]; rfl
  | tup ds =>
    show gIx ⟨.tup ds, k1, e1, c1⟩ ⟨.int i, k2, e2, c2⟩ = _
    unfold gIx
    simp only
    rw [show atI ds i = some v from h]; rfl
  | non => cases h
  | bl _ => cases h
  | int _ => cases h
  | str _ => cases h
  | exc _ _ _ _ _ => cases h
  | dK _ => cases h
  | dT _ => cases h
  | scr _ _ => cases h
theorem re_listT {t : β} {xs : List α} (ht : enc t = .tup (xs.map enc)) (ha : RE S fa t ka Ea Ca) : RE S (fB gList (fCons fa fNil)) xs (some 1) Ca Ca := re_b1 ha fun ra g1 => by
  obtain ⟨k1, e1, c1, rfl, _, _, hc⟩ := rd1 g1
  exact ⟨⟨.lst (xs.map enc), 1, c1, c1⟩, by rw [ht]; rfl, rfl, fun m z => by cases z; rfl, hc, hc⟩
theorem cv_s (x : α) : enc (some x : Option α) = enc x := rfl
theorem cv_n (x : Unit) : enc (none : Option α) = enc x := rfl
def zTup (xs : List α) : D := .tup (xs.map enc)
theorem re_tuple {xs : List α} (ha : RE S fa xs ka Ea Ca) : RE S (fB gTuple (fCons fa fNil)) (zTup xs) (some 0) Ca Ca := re_b1 ha fun ra g1 => by
  obtain ⟨k1, e1, c1, rfl, _, _, hc⟩ := rd1 g1
  exact ⟨⟨.tup (xs.map enc), 0, c1, c1⟩, rfl, rfl, fun m z => by cases z; rfl, hc, hc⟩
end
/-! ### return (x, e): one's own lists and new ones go along -/
abbrev MA := Nat ⊕ FE
def tMs (W : WK) : List MA → TA
  | [] => tNil
  | .inl i :: ms => tCons (tVar i) (tMs W ms)
  | .inr f :: ms => tCons (rdE W f) (tMs W ms)
def lefts : List MA → List Nat
  | [] => []
  | .inl i :: ms => i :: lefts ms
  | .inr _ :: ms => lefts ms
def getM (m : Nat) (ρ : Ev) : List MA → Option (List D)
  | [] => some []
  | .inl i :: ms => match ρ[i]? with
    | some (some (d, k)) => if scal d = true ∨ k = m then (getM m ρ ms).map fun ds => d :: ds else none
    | _ => none
  | .inr f :: ms => match f ρ with
    | .ok r => if r.e = [] ∧ (scal r.d = true ∨ r.k = m) then (getM m ρ ms).map fun ds => r.d :: ds else none
    | _ => none
theorem mix_run {W : WK} {ρ : Ev} {σ : St} {F : FP} {m : Nat} : ∀ {ms : List MA} {ds : List D}, getM m ρ ms = some ds → (lefts ms).Nodup → ∀ {S0 : PA1} {H : Hp}, EE S0 ρ σ H F → ∀ Q : List V → Hp → Prop,
    (∀ xs H' fp, Same H H' → AllF (Ow (fun a => inS S0 F [] a ∨ a ∈ fp) H' m) ds xs fp → (∀ a ∈ fp, (∃ i ∈ lefts ms, a ∈ F i) ∨ H a = none) → Q xs H') → tMs W ms σ H Q
  | [], ds, h, _, S0, H, E, Q, q => by
    cases h
    exact q [] H [] (Same.refl H) ⟨rfl, rfl⟩ fun a ha => by cases ha
  | .inl i :: ms, ds, h, nd, S0, H, E, Q, q => by
    unfold getM at h
    split at h
    · rename_i d k hi
      split at h
      · rename_i hk
        cases hq : getM m ρ ms with
        | none => rw [hq] at h; cases h
        | some qs =>
          rw [hq] at h
          cases h
          obtain ⟨hn, nd'⟩ := List.nodup_cons.mp nd
          obtain ⟨v, hv, o⟩ := E.rep i d k hi
          obtain ⟨f1, o1, h1⟩ : ∃ f1, Ow (inS S0 F []) H m d v f1 ∧ ∀ a ∈ f1, a ∈ F i := by
            rcases hk with z | z
            · exact ⟨[], (scal_ow z o m).1, fun a ha => by cases ha⟩
            · exact ⟨F i, z ▸ o, fun a ha => ha⟩
          refine ⟨v, hv, mix_run hq nd' E _ fun xs H' fp sm al hf => q (v :: xs) H' (f1 ++ fp) sm ⟨v, xs, f1, fp, rfl, Ow.imp (fun b o hb nn => ⟨sm _ _ hb, fun z => ?_⟩) _ _ _ _ (fun b o _ hb => sm _ _ hb) o1, al.imp fun d w g _ po => Ow.imp (fun b o hb nn => ⟨hb, fun z => ?_⟩) _ _ _ _ (fun b o _ hb => hb) po, rfl, fun a ha hb => ?_⟩ fun a ha => ?_⟩
          · rcases z with z | z
            · exact nn z
            · rcases List.mem_append.mp z with z | z
              · exact nn (.inr ⟨i, by simp, h1 b z⟩)
              · rcases hf b z with ⟨j, _, z⟩ | z
                · exact nn (.inr ⟨j, by simp, z⟩)
                · rw [z] at hb; cases hb
          · rcases z with z | z
            · exact nn (.inl z)
            · rcases List.mem_append.mp z with z | z
              · exact nn (.inl (.inr ⟨i, by simp, h1 b z⟩))
              · exact nn (.inr z)
          · rcases hf a hb with ⟨j, hj, hb⟩ | hb
            · exact hn (E.disj _ _ _ (h1 a ha) hb ▸ hj)
            · obtain ⟨o, ho, _⟩ := E.trk i a (h1 a ha)
              rw [hb] at ho; cases ho
          · rcases List.mem_append.mp ha with ha | ha
            · exact .inl ⟨i, List.mem_cons_self, h1 a ha⟩
            · rcases hf a ha with ⟨j, hj, hb⟩ | hb
              · exact .inl ⟨j, List.mem_cons_of_mem _ hj, hb⟩
              · exact .inr hb
      · cases h
    · cases h
  | .inr f :: ms, ds, h, nd, S0, H, E, Q, q => by
    unfold getM at h
    split at h
    · rename_i r hr
      split at h
      · rename_i hk
        cases hq : getM m ρ ms with
        | none => rw [hq] at h; cases h
        | some qs =>
          rw [hq] at h
          cases h
          obtain ⟨he, hk⟩ := hk
          refine ⟨S0, ρ, F, E, ?_⟩
          rw [hr]
          intro v H1 fp1 s1 n1 vr
          have ow : Ow (fun a => inS S0 F [] a ∨ a ∈ fp1) H1 r.k r.d v fp1 := by
            have := vr.ow
            rwa [he] at this
          obtain ⟨f1, o1, h1⟩ : ∃ f1, Ow (fun a => inS S0 F [] a ∨ a ∈ fp1) H1 m r.d v f1 ∧ ∀ a ∈ f1, a ∈ fp1 := by
            rcases hk with z | z
            · exact ⟨[], (scal_ow z ow m).1, fun a ha => by cases ha⟩
            · exact ⟨fp1, z ▸ ow, fun a ha => ha⟩
          have th := Ow.there _ _ _ _ ow
          have E1 : EE (fun a => S0 a ∨ a ∈ fp1) ρ σ H1 F := E.ext s1 (fun b h => h.imp id fun h => n1 b h) fun b h => h.elim (fun h => (E.grow s1).out b h) (th b)
          refine mix_run hq nd E1 _ fun xs H' fp sm al hf => q (v :: xs) H' (f1 ++ fp) (s1.trans sm) ⟨v, xs, f1, fp, rfl, Ow.imp (fun b o hb nn => ⟨sm _ _ hb, fun z => ?_⟩) _ _ _ _ (fun b o _ hb => sm _ _ hb) o1, al.imp fun d w g _ po => Ow.imp (fun b o hb nn => ⟨hb, fun z => ?_⟩) _ _ _ _ (fun b o _ hb => hb) po, rfl, fun a ha hb => ?_⟩ fun a ha => ?_
          · rcases z with z | z
            · exact nn (.inl z)
            · rcases List.mem_append.mp z with z | z
              · exact nn (.inr (h1 b z))
              · rcases hf b z with ⟨j, _, z⟩ | z
                · exact nn (.inl (.inr ⟨j, by simp, z⟩))
                · rw [z] at hb; cases hb
          · rcases z with z | z
            · exact nn (.inl (z.imp .inl id))
            · rcases List.mem_append.mp z with z | z
              · exact nn (.inl (.inl (.inr (h1 b z))))
              · exact nn (.inr z)
          · rcases hf a hb with ⟨j, hj, hb⟩ | hb
            · obtain ⟨o, ho, _⟩ := E.trk j a hb
              rw [n1 a (h1 a ha)] at ho; cases ho
            · obtain ⟨o, ho, _⟩ := th a (h1 a ha)
              rw [hb] at ho; cases ho
          · rcases List.mem_append.mp ha with ha | ha
            · exact .inr (n1 a (h1 a ha))
            · rcases hf a ha with hb | hb
              · exact .inl hb
              · exact .inr (s1.free hb)
      · cases h
    · cases h
def retMK (m : Nat) (ms : List MA) : Option (List D) → Out
  | some ds => if (lefts ms).Nodup ∧ ds.length ≤ sizeLine then .rt (.tup ds) (m + 2) else .bad
  | none => .bad
def sRetM (m : Nat) (ms : List MA) : FS := fun ρ => retMK m ms (getM (m + 1) ρ ms)
section
variable {X : Cx} {W : WK} {es : List Expr} {x1 : Nat} {p2 pos : Pos}
theorem s_retM {m : Nat} {ms : List MA} {e : Expr} (hp : PE X e (tTup (tMs W ms))) : PS X (.Return (some e) pos) (rdS W (sRetM m ms)) := by
  refine psI (ps_ret hp) fun Dn σ H ⟨S0, H0, ρ, F, E, p⟩ => ?_
  unfold sRetM retMK at p
  split at p
  · rename_i ds hds
    split at p
    · rename_i hc
      obtain ⟨nd, hz⟩ := hc
      refine mix_run hds nd E.ee _ fun xs H' fp s1 al hf => ⟨by rw [← al.length]; exact hz, fun q nq => ?_⟩
      have sm := same_upd (o := .tup xs) nq
      refine p (.ref q) _ fp (E.same.trans (s1.trans sm)) (fun a ha => ?_) ⟨q, xs, rfl, fun z => ?_, upd_same, al.imp fun d w g hg po => Ow.imp (fun b o hb nn => ⟨sm _ _ hb, fun z => nn ?_⟩) _ _ _ _ (fun b o _ hb => sm _ _ hb) po⟩
      · rcases hf a ha with ⟨i, _, h⟩ | h
        · exact E.new i a h
        · exact E.same.free h
      · rcases z with z | z
        · obtain ⟨o, h, _⟩ := E.ee.out q z
          rw [s1.free nq] at h; cases h
        · have := AllF.there (fun d v f h => Ow.there _ d v f h) al q z
          obtain ⟨o, h, _⟩ := this
          rw [nq] at h; cases h
      · rcases z with z | z
        · exact .inl (.inl z)
        · exact .inr z
    · exact p.elim
  · exact p.elim
end
section
variable {τ α : Type} [Enc τ] [Enc α] {S : Spec} {ρ : Ev} {m i : Nat} {ms : List MA} {ds : List D} {kk : Option Nat} {C : List Nat}
theorem sp_retM {v : τ} (hv : enc v = .tup ds) (hn : (lefts ms).Nodup) (hl : ds.length ≤ 1000) (h : ∀ ρ, Env ρ S → getM (m + 1) ρ ms = some ds) : SpS S (sRetM m ms) (Prt v (some (m + 2))) := fun ρ z => by
  refine ⟨m + 2, ?_, fun q hq => by cases hq; rfl⟩
  unfold sRetM
  rw [h ρ z]
  unfold retMK
  rw [hv]
  exact if_pos ⟨hn, szn _ hl⟩
theorem gm_nil : getM (m + 1) ρ [] = some [] := rfl
theorem gm_s [EncS α] {v : α} (z : Env ρ S) (h : S[i]? = some (some (enc v, kk))) (t : getM (m + 1) ρ ms = some ds) : getM (m + 1) ρ (.inl i :: ms) = some (enc v :: ds) := by
  obtain ⟨k, e0, _⟩ := z.2 i _ h
  unfold getM
  rw [e0]
  simp only
  rw [if_pos (.inl (EncS.sc v)), t]; rfl
theorem gm_k {v : α} (z : Env ρ S) (h : S[i]? = some (some (enc v, some (m + 1)))) (t : getM (m + 1) ρ ms = some ds) : getM (m + 1) ρ (.inl i :: ms) = some (enc v :: ds) := by
  obtain ⟨k, e0, hk⟩ := z.2 i _ h
  unfold getM
  rw [e0]
  simp only
  rw [if_pos (.inr (hk _ rfl)), t]; rfl
theorem no_e {e : List Nat} (h : ∀ i ∈ e, i ∈ ([] : List Nat)) : e = [] := by
  cases e with
  | nil => rfl
  | cons j e => exact absurd (h j List.mem_cons_self) (fun z => by cases z)
theorem gm_x [EncS α] {v : α} {f : FE} (z : Env ρ S) (h : RE S f v kk [] C) (t : getM (m + 1) ρ ms = some ds) : getM (m + 1) ρ (.inr f :: ms) = some (enc v :: ds) := by
  obtain ⟨r, e, g⟩ := h ρ z
  obtain ⟨k1, e1, c1, rfl, _, he, _⟩ := rd1 g
  unfold getM
  rw [e]
  simp only
  rw [if_pos ⟨no_e he, .inl (EncS.sc v)⟩, t]; rfl
theorem gm_e {v : α} {f : FE} (z : Env ρ S) (h : RE S f v (some (m + 1)) [] C) (t : getM (m + 1) ρ ms = some ds) : getM (m + 1) ρ (.inr f :: ms) = some (enc v :: ds) := by
  obtain ⟨r, e, g⟩ := h ρ z
  obtain ⟨k1, e1, c1, rfl, hk, he, _⟩ := rd1 g
  unfold getM
  rw [e]
  simp only
  rw [if_pos ⟨no_e he, .inr (hk _ rfl)⟩, t]; rfl
end
end PyL

/-! ### values of any kind read as typed ones -/
namespace PyL
open PySem PySem.Spec L2 Enc
class EncU (α : Type) [Enc α] where
  un : D → Option α
  ok : ∀ (d : D) (a : α), un d = some a → enc a = d
instance : EncU Int := ⟨zInt, fun d a h => by cases d <;> first | (cases h; done) | (cases h; rfl)⟩
instance : EncU Bool := ⟨zBool, fun d a h => by cases d <;> first | (cases h; done) | (cases h; rfl)⟩
instance : EncU Str := ⟨zStr, fun d a h => by cases d <;> first | (cases h; done) | (cases h; rfl)⟩
instance : EncU D := ⟨some, fun d a h => by cases h; rfl⟩
section
variable {α β γ : Type} [Enc α] [Enc β] [Enc γ] [EncU α] [EncU β] [EncU γ]
def unL (α : Type) [Enc α] [EncU α] : List D → Option (List α)
  | [] => some []
  | d :: ds => (EncU.un d).bind fun a => (unL α ds).bind fun xs => some (a :: xs)
theorem unL_ok : ∀ (ds : List D) (xs : List α), unL α ds = some xs → xs.map enc = ds
  | [], xs, h => by cases h; rfl
  | d :: ds, xs, h => by
    unfold unL at h
    cases q : (EncU.un d : Option α) with
    | none => rw [q] at h; cases h
    | some a =>
      rw [q] at h
      cases q2 : unL α ds with
      | none => rw [q2] at h; cases h
      | some ys =>
        rw [q2] at h
        cases h
        rw [List.map_cons, EncU.ok d a q, unL_ok ds ys q2]
def unLst (α : Type) [Enc α] [EncU α] : D → Option (List α)
  | .lst ds => unL α ds
  | _ => none
instance : EncU (List α) := ⟨unLst α, fun d a h => by
  cases d <;> first | (cases h; done) | skip
  rename_i ds
  show D.lst (a.map enc) = D.lst ds
  rw [unL_ok ds a h]⟩
def unT2 (α β : Type) [Enc α] [Enc β] [EncU α] [EncU β] : D → Option (T2 α β)
  | .tup [a, b] => (EncU.un a).bind fun x => (EncU.un b).bind fun y => some ⟨x, y⟩
  | _ => none
instance : EncU (T2 α β) := ⟨unT2 α β, fun d t h => by
  unfold unT2 at h
  split at h
  · rename_i a b
    cases q : (EncU.un a : Option α) with
    | none => rw [q] at h; cases h
    | some x =>
      rw [q] at h
      cases q2 : (EncU.un b : Option β) with
      | none => rw [q2] at h; cases h
      | some y =>
        rw [q2] at h
        cases h
        show D.tup [enc x, enc y] = _
        rw [EncU.ok a x q, EncU.ok b y q2]
  · cases h⟩
def unT3 (α β γ : Type) [Enc α] [Enc β] [Enc γ] [EncU α] [EncU β] [EncU γ] : D → Option (T3 α β γ)
  | .tup [a, b, c] => (EncU.un a).bind fun x => (EncU.un b).bind fun y => (EncU.un c).bind fun z => some ⟨x, y, z⟩
  | _ => none
instance : EncU (T3 α β γ) := ⟨unT3 α β γ, fun d t h => by
  unfold unT3 at h
  split at h
  · rename_i a b c
    cases q : (EncU.un a : Option α) with
    | none => rw [q] at h; cases h
    | some x =>
      rw [q] at h
      cases q2 : (EncU.un b : Option β) with
      | none => rw [q2] at h; cases h
      | some y =>
        rw [q2] at h
        cases q3 : (EncU.un c : Option γ) with
        | none => rw [q3] at h; cases h
        | some z =>
          rw [q3] at h
          cases h
          show D.tup [enc x, enc y, enc z] = _
          rw [EncU.ok a x q, EncU.ok b y q2, EncU.ok c z q3]
  · cases h⟩
end
/-- a value of any kind, read as one of type α -/
def zUn (α : Type) [Enc α] [EncU α] (d : D) : Option α := EncU.un d
theorem re_zUn {α : Type} [Enc α] [EncU α] {S : Spec} {fa : FE} {ka : Option Nat} {Ea Ca : List Nat} {d : D} {v : α} (ha : RE S fa d ka Ea Ca) (h : zUn α d = some v) : RE S fa v ka Ea Ca := re_cv (EncU.ok d v h) ha
theorem zUn_enc {α : Type} [Enc α] [EncU α] {x : α} (h : EncU.un (enc x) = some x) : zUn α (enc x) = some x := h
/-! ### a list whose lists are held no longer -/
def gFlat : R → Res R
  | ⟨.lst ds, _ + 1, e, c⟩ => .ok ⟨.lst ds, 1, e, c⟩
  | _ => .bad
def fFlat (f : FE) : FE := fun ρ => (f ρ).bind gFlat
theorem e_flat {X : Cx} {W : WK} {e : Expr} {f : FE} (h : PE X e (rdE W f)) : PE X e (rdE W (fFlat f)) := peI h fun σ H Q ⟨S0, ρ, F, E, p⟩ => by
  refine ⟨S0, ρ, F, E, ?_⟩
  unfold fFlat at p
  cases q : f ρ with
  | bad => rw [q] at p; exact p
  | exn x => rw [q] at p; exact p
  | ok r =>
    rw [q] at p
    intro v H' fp s n vr
    have p : Post W S0 F σ H Q (gFlat r) := p
    obtain ⟨d, k, e', c⟩ := r
    cases d with
    | lst ds =>
      cases k with
      | zero => exact p.elim
      | succ k =>
        obtain ⟨a, xs, fq, ev, ha, al, ef, nd⟩ := vr.ow
        have aF : a ∈ fp := by rw [ef]; exact List.mem_cons_self
        have fqF : ∀ b ∈ fq, b ∈ fp := fun b hb => by rw [ef]; exact List.mem_cons_of_mem _ hb
        have nin := E.nin n e'
        have l0 : RpL (fun b => inS S0 F e' b ∨ b = a) H' ds xs := al.frzn (fun b z => z.imp id fun z => by rw [z]; exact aF) fun b hb z => z.elim (fun z => nin b (fqF b hb) z) fun z => nd (z ▸ hb)
        exact p v H' [a] s (fun b hb => by rw [List.mem_singleton.mp hb]; exact n a aF) ⟨⟨a, xs, [], ev, ha, all_zero (RpL.imp (fun b o q n => ⟨q, fun z => n (z.imp id fun z => List.mem_singleton.mp z)⟩) _ _ l0), rfl, by simp⟩, vr.it⟩
    | non => exact p.elim
    | bl _ => exact p.elim
    | int _ => exact p.elim
    | str _ => exact p.elim
    | tup _ => exact p.elim
    | dK _ => exact p.elim
    | exc _ _ _ _ _ => exact p.elim
    | dT _ => exact p.elim
    | scr _ _ => exact p.elim
theorem re_flat {α : Type} [Enc α] {S : Spec} {fa : FE} {k : Nat} {Ea Ca : List Nat} {xs : List α} (ha : RE S fa xs (some (k + 1)) Ea Ca) : RE S (fFlat fa) xs (some 1) Ea Ca := fun ρ z => by
  obtain ⟨r, e, g⟩ := ha ρ z
  obtain ⟨k1, e1, c1, rfl, h1, h2, h3⟩ := rd1 g
  have : k1 = k + 1 := h1 _ rfl
  subst this
  refine ⟨⟨enc xs, 1, e1, c1⟩, ?_, rfl, fun m z => by cases z; rfl, h2, h3⟩
  unfold fFlat
  rw [e]
  rfl
/-! ### for i in reversed(range(..)) -/
def revR (a b : Int) : Res IR := if InR a ∧ InR b then .ok ⟨rcD (a + (((b - a).toNat : Nat) : Int) - 1) (-1) (b - a).toNat, [], []⟩ else .bad
def gRevR1 (r : R) : Res IR := match r.d with
  | .int n => revR 0 n
  | _ => .bad
def gRevR2 (r q : R) : Res IR := match r.d, q.d with
  | .int a, .int b => revR a b
  | _, _ => .bad
def fRevR1 (f : FE) : FI := fun ρ => (f ρ).bind gRevR1
def fRevR2 (f g : FE) : FI := fun ρ => (f ρ).bind fun r => (g ρ).bind (gRevR2 r)
instance (x : Int) : Decidable (InR x) := inferInstanceAs (Decidable (_ ∧ _))
section
variable {X : Cx} {W : WK}
theorem revR_ok {W : WK} {S0 : PA1} {F : FP} {σ : St} {H : Hp} {Rk : L2.It → Hp → Prop} {a b : Int} (p : PostI W S0 F σ H Rk (revR a b)) : -(2 ^ 62) ≤ a ∧ a < 2 ^ 62 ∧ -(2 ^ 62) ≤ b ∧ b < 2 ^ 62 ∧ Rk (Itc (a + (((b - a).toNat : Nat) : Int) - 1) (-1) (b - a).toNat) H := by
  unfold revR at p
  split at p
  · rename_i h
    exact ⟨h.1.1, h.1.2, h.2.1, h.2.2, p _ H (Same.refl H) (jok_rngC _ _ _)⟩
  · exact p.elim
theorem i_revR1 {tg a : Expr} {fa : FE} {p p2 pos pos2 : Pos} (hg : Gl X "reversed") (hm : X.mg "reversed" = none) (hg2 : Gl X "range") (hm2 : X.mg "range" = none) (ha : PE X a (rdE W fa)) (na : starEach [a] X.env = (false, eval a X.env) :: starEach [] X.env := by rfl)
    (hs : starEach [.Call (.Name "range" p2) [a] [] pos2] X.env = (false, eval (.Call (.Name "range" p2) [a] [] pos2) X.env) :: starEach [] X.env := by rfl) : PI X tg (.Call (.Name "reversed" p) [.Call (.Name "range" p2) [a] [] pos2] [] pos) (rdI W (fRevR1 fa)) := by
  refine piI (pi_revR hg hm (prg_1 hg2 hm2 ha na) hs) fun σ H Rk ⟨S0, ρ, F, E, p⟩ => ?_
  show rdE W fa σ H _
  refine postI_bind E p fun r v H1 fp _ s1 n1 v1 E1 p1 => ?_
  have z := v1.fz (E.nin n1 _)
  unfold gRevR1 at p1
  split at p1
  · rename_i n e
    exact ⟨n, z.int e, revR_ok p1⟩
  · exact p1.elim
theorem i_revR2 {tg a b : Expr} {fa fb : FE} {p p2 pos pos2 : Pos} (hg : Gl X "reversed") (hm : X.mg "reversed" = none) (hg2 : Gl X "range") (hm2 : X.mg "range" = none) (ha : PE X a (rdE W fa)) (hb : PE X b (rdE W fb)) (na : starEach [a, b] X.env = (false, eval a X.env) :: starEach [b] X.env := by rfl)
    (nb : starEach [b] X.env = (false, eval b X.env) :: starEach [] X.env := by rfl) (hpp : (backTo pos2 (starEach [b] X.env)).any (·.1) = false := by rfl)
    (hs : starEach [.Call (.Name "range" p2) [a, b] [] pos2] X.env = (false, eval (.Call (.Name "range" p2) [a, b] [] pos2) X.env) :: starEach [] X.env := by rfl) : PI X tg (.Call (.Name "reversed" p) [.Call (.Name "range" p2) [a, b] [] pos2] [] pos) (rdI W (fRevR2 fa fb)) := by
  refine piI (pi_revR hg hm (prg_2 hg2 hm2 ha hb na nb hpp) hs) fun σ H Rk ⟨S0, ρ, F, E, p⟩ => ?_
  show rdE W fa σ H _
  refine postI_bind E p fun r v H1 fp _ s1 n1 v1 E1 p1 => ?_
  refine postI_bind E1 p1 fun r2 v2 H2 fp2 _ s2 n2 v2' E2 p2 => ?_
  have z := (v1.fz (E.nin n1 _)).grow s2
  have z2 := v2'.fz (E1.nin n2 _)
  unfold gRevR2 at p2
  split at p2
  · rename_i i j e1 e2
    exact ⟨i, j, z.int e1, z2.int e2, revR_ok p2⟩
  · exact p2.elim
end
def zRevR (a b : Int) : Option (List Int) := if InR a ∧ InR b then some (rgI2 a (b - a).toNat).reverse else none
theorem rcD_rev {a : Int} {n : Nat} : rcD (a + (n : Int) - 1) (-1) n = (rgI2 a n).reverse.map enc := by
  refine List.ext_getElem? fun i => ?_
  unfold rcD rgI2
  by_cases h : i < n
  · rw [List.getElem?_map, List.getElem?_map, List.getElem?_range h, List.getElem?_reverse (by simp; exact h), List.getElem?_map, List.length_map, List.length_range, List.getElem?_range (by omega)]
    show some (D.int (a + (n : Int) - 1 + (i : Int) * (-1))) = some (D.int (a + ((n - 1 - i : Nat) : Int)))
    congr 2
    omega
  · rw [List.getElem?_eq_none (by simp; omega), List.getElem?_eq_none (by simp; omega)]
theorem ri_revR1 {S : Spec} {fa : FE} {a : Int} {ka : Option Nat} {Ea Ca : List Nat} {xs : List Int} (ha : RE S fa a ka Ea Ca) (h : zRevR 0 a = some xs) : RI S (fRevR1 fa) xs [] [] := fun ρ z => by
  obtain ⟨ra, ea, g1⟩ := ha ρ z
  obtain ⟨k1, e1, c1, rfl, _⟩ := rd1 g1
  unfold zRevR at h
  split at h
  · rename_i hc
    cases h
    refine ⟨⟨rcD (0 + (((a - 0).toNat : Nat) : Int) - 1) (-1) (a - 0).toNat, [], []⟩, ?_, rcD_rev, fun j hj => (by cases hj), fun j hj => (by cases hj)⟩
    show (fa ρ).bind gRevR1 = _
    rw [ea]
    show revR 0 a = _
    unfold revR
    rw [if_pos hc]
  · cases h
theorem ri_revR2 {S : Spec} {fa fb : FE} {a b : Int} {ka kb : Option Nat} {Ea Ca Eb Cb : List Nat} {xs : List Int} (ha : RE S fa a ka Ea Ca) (hb : RE S fb b kb Eb Cb) (h : zRevR a b = some xs) : RI S (fRevR2 fa fb) xs [] [] := fun ρ z => by
  obtain ⟨ra, ea, g1⟩ := ha ρ z
  obtain ⟨rb, eb, g2⟩ := hb ρ z
  obtain ⟨k1, e1, c1, rfl, _⟩ := rd1 g1
  obtain ⟨k2, e2, c2, rfl, _⟩ := rd1 g2
  unfold zRevR at h
  split at h
  · rename_i hc
    cases h
    refine ⟨⟨rcD (a + (((b - a).toNat : Nat) : Int) - 1) (-1) (b - a).toNat, [], []⟩, ?_, rcD_rev, fun j hj => (by cases hj), fun j hj => (by cases hj)⟩
    show (fa ρ).bind (fun r => (fb ρ).bind (gRevR2 r)) = _
    rw [ea]
    show (fb ρ).bind (gRevR2 _) = _
    rw [eb]
    show revR a b = _
    unfold revR
    rw [if_pos hc]
  · cases h
end PyL

namespace PyL
open PySem PySem.Spec L2
open Enc (enc)
set_option autoImplicit false
/-! ### the typed operations, answered -/
section
variable {α β σ τ : Type}
theorem zb {a : α} {f : α → Option β} : (some a).bind f = f a := nr rfl
theorem zAnd_t {o : Option Bool} : zAnd true o = o := nr rfl
theorem zAnd_f {o : Option Bool} : zAnd false o = some false := nr rfl
theorem zOr_t {o : Option Bool} : zOr true o = some true := nr rfl
theorem zOr_f {o : Option Bool} : zOr false o = o := nr rfl
theorem zif_t {x y : α} : (if true = true then x else y) = x := if_pos rfl
theorem zif_f {x y : α} : (if false = true then x else y) = y := if_neg (by decide)
theorem zLst_ok {xs : List α} (h : xs.length ≤ 1000000) : zLst xs = some xs := if_pos (small' h)
theorem zApp_ok {xs : List α} {v : α} (h : xs.length ≤ 1000000) : zApp xs v = some (xs ++ [v]) := if_pos (small h)
theorem zMul_c {a b : Int} (h : CMulL a b) : zMul a b = some (a * b) := if_pos h
theorem mulS {a b : Int} (h1 : -1000000000000000000000000 ≤ a) (h2 : a ≤ 1000000000000000000000000) (h3 : -1000000000000000000000000 ≤ b) (h4 : b ≤ 1000000000000000000000000) : CMulL a b :=
  Bd.mulOk (k := 80) (m := 80) (Bd.of 1000000000000000000000001 (by omega) (by decide)) (Bd.of 1000000000000000000000001 (by omega) (by decide)) (by decide)
theorem zMul_ok {a b : Int} (h1 : -1000000000000000000000000 ≤ a) (h2 : a ≤ 1000000000000000000000000) (h3 : -1000000000000000000000000 ≤ b) (h4 : b ≤ 1000000000000000000000000) : zMul a b = some (a * b) := zMul_c (mulS h1 h2 h3 h4)
theorem zMul_b {a b : Int} {k m : Nat} (h : Bd k a) (h' : Bd m b) (hk : k + m ≤ 1000000) : zMul a b = some (a * b) := zMul_c (h.mulOk h' hk)
theorem zMod_ok {a b : Int} (h : 0 < b) : zMod a b = some (a % b) := by
  unfold zMod
  rw [if_neg (by omega), Int.fmod_eq_emod_of_nonneg _ (by omega)]
theorem zDiv_c {a b : Int} (h : 0 < b) (h2 : b.natAbs.log2 < 9000) : zDiv a b = some (a / b) := by
  unfold zDiv
  rw [if_pos ⟨by omega, .inl h2⟩, Int.fdiv_eq_ediv_of_nonneg _ (by omega)]
/-- a division that comes out even -/
theorem zDiv_e {a b q : Int} (h : a = b * q) (hb : b ≠ 0) (h2 : b.natAbs.log2 < 9000 ∨ a.natAbs.log2 < b.natAbs.log2 + 4400) : zDiv a b = some q := by
  unfold zDiv
  rw [if_pos ⟨hb, h2⟩, h, Int.mul_fdiv_cancel_left _ hb]
theorem zDiv_b {a b : Int} {k : Nat} (h : 0 < b) (hb : Bd k b) (hk : k ≤ 9000) (hk0 : 0 < k) : zDiv a b = some (a / b) := zDiv_c h (Nat.lt_of_lt_of_le (hb.log2 hk0) hk)
theorem zDiv_ok {a b : Int} (h : 0 < b) (h2 : b ≤ 1000000000000000000000000) : zDiv a b = some (a / b) := zDiv_b (k := 80) h (Bd.of 1000000000000000000000001 (by omega) (by decide)) (by decide) (by decide)
theorem zRng_ok {n : Nat} (h : n ≤ 1000000) : zRng (n : Int) = some (rgI n) := by
  unfold zRng
  rw [if_pos (InR.of (by omega) (by omega)), Int.toNat_natCast]
theorem zRng_i {n : Int} (h0 : 0 ≤ n) (h : n ≤ 1000000) : zRng n = some (rgI n.toNat) := by
  unfold zRng
  rw [if_pos (InR.of (by omega) (by omega))]
theorem zRng2_i {a b : Int} (h0 : -1000000 ≤ a) (h1 : a ≤ 1000000) (h2 : -1000000 ≤ b) (h3 : b ≤ 1000000) : zRng2 a b = some (rgI2 a (b - a).toNat) := by
  unfold zRng2
  rw [if_pos ⟨InR.of (by omega) (by omega), InR.of (by omega) (by omega)⟩]
theorem zLR_i {n : Int} (h0 : 0 ≤ n) (h : n ≤ 1000000) : zLR n = some (rgI n.toNat) := by
  unfold zLR
  rw [if_pos ⟨InR.of (by omega) (by omega), Nat.le_trans (show n.toNat ≤ 1000000 by omega) (by decide)⟩]
theorem zLR_ok {n : Nat} (h : n ≤ 1000000) : zLR (n : Int) = some (rgI n) := by rw [zLR_i (by omega) (by omega), Int.toNat_natCast]
theorem zMax_ok {ns : List Int} (h : 0 < ns.length) : zMax ns = some (maxL ns) := if_pos h
theorem zMin_ok {ns : List Int} (h : 0 < ns.length) : zMin ns = some (minL ns) := if_pos h
theorem rgI_len {n : Nat} : (rgI n).length = n := by simp [rgI]
theorem rgI_get {n i : Nat} (h : i < n) : (rgI n)[i]? = some (i : Int) := by simp [rgI, h]
theorem rgI_mem {n : Nat} {z : Int} : z ∈ rgI n ↔ ∃ i : Nat, i < n ∧ z = (i : Int) := by
  unfold rgI
  simp only [List.mem_map, List.mem_range]
  exact ⟨fun ⟨i, h, e⟩ => ⟨i, h, e.symm⟩, fun ⟨i, h, e⟩ => ⟨i, h, e.symm⟩⟩
theorem atI_ok {xs : List α} {i : Nat} {v : α} (h : xs[i]? = some v) : atI xs (i : Int) = some v := atI_nat h
theorem atI_z {xs : List α} {z : Int} {v : α} (h0 : 0 ≤ z) (h : xs[z.toNat]? = some v) : atI xs z = some v := by
  have := atI_nat h
  rwa [Int.toNat_of_nonneg h0] at this
theorem atI_D {xs : List Int} {z : Int} (h0 : 0 ≤ z) (h : z < xs.length) : atI xs z = some (xs.getD z.toNat 0) := by
  refine atI_z h0 ?_
  have h1 : z.toNat < xs.length := by omega
  rw [List.getElem?_eq_getElem h1]
  simp [List.getD, h1]
theorem atI_rg {n : Nat} {i : Nat} (h : i < n) : atI (rgI n) (i : Int) = some (i : Int) := atI_nat (rgI_get h)
theorem zMapM_ok {f : α → Option β} {g : α → β} : ∀ {xs : List α}, (∀ x ∈ xs, f x = some (g x)) → zMapM f xs = some (xs.map g)
  | [], _ => rfl
  | x :: xs, h => by
    unfold zMapM
    rw [h x List.mem_cons_self, zMapM_ok fun y hy => h y (List.mem_cons_of_mem _ hy)]; rfl
theorem zMapM_map {γ : Type} {f : α → Option β} {g : γ → α} {h : γ → β} : ∀ {xs : List γ}, (∀ x ∈ xs, f (g x) = some (h x)) → zMapM f (xs.map g) = some (xs.map h)
  | [], _ => rfl
  | x :: xs, e => by
    rw [List.map_cons]
    unfold zMapM
    rw [e x List.mem_cons_self, zb, zMapM_map fun y hy => e y (List.mem_cons_of_mem _ hy)]; rfl
theorem zFilM_ok {t : α → Option Bool} {f : α → Option β} {p : α → Bool} {g : α → β} : ∀ {xs : List α}, (∀ x ∈ xs, t x = some (p x)) → (∀ x ∈ xs, p x = true → f x = some (g x)) → zFilM (fun x => zSel (t x) (f x)) xs = some ((xs.filter p).map g)
  | [], _, _ => rfl
  | x :: xs, h, h' => by
    unfold zFilM zSel
    rw [h x List.mem_cons_self, zb]
    have ih := zFilM_ok (xs := xs) (fun y hy => h y (List.mem_cons_of_mem _ hy)) (fun y hy => h' y (List.mem_cons_of_mem _ hy))
    unfold zSel at ih
    rw [ih]
    cases q : p x with
    | false => simp [q]
    | true => simp [q, h' x List.mem_cons_self q]
/-- a loop, by what holds behind each item -/
theorem zFor_ex {f : α → σ → Option σ} (P : List α → σ → Prop) : ∀ {xs : List α} {s : σ} (ds : List α), P ds s → (∀ es x s, x ∈ xs → P es s → ∃ s', f x s = some s' ∧ P (es ++ [x]) s') → ∃ s', zFor f xs s = some s' ∧ P (ds ++ xs) s'
  | [], s, ds, h, _ => ⟨s, rfl, by rw [List.append_nil]; exact h⟩
  | x :: xs, s, ds, h, st => by
    obtain ⟨s1, e1, h1⟩ := st ds x s List.mem_cons_self h
    obtain ⟨s', e, h'⟩ := zFor_ex P (xs := xs) (s := s1) (ds ++ [x]) h1 fun es y s hy => st es y s (List.mem_cons_of_mem _ hy)
    refine ⟨s', ?_, by rw [List.append_assoc] at h'; exact h'⟩
    unfold zFor
    rw [e1, zb, e]
/-- .. by its place -/
theorem zFor_at {f : α → σ → Option σ} (P : Nat → σ → Prop) : ∀ {xs : List α} {s : σ} (j : Nat), P j s → (∀ i x s, xs[i]? = some x → P (j + i) s → ∃ s', f x s = some s' ∧ P (j + i + 1) s') → ∃ s', zFor f xs s = some s' ∧ P (j + xs.length) s'
  | [], s, j, h, _ => ⟨s, rfl, h⟩
  | x :: xs, s, j, h, st => by
    obtain ⟨s1, e1, h1⟩ := st 0 x s rfl h
    obtain ⟨s', e, h'⟩ := zFor_at P (xs := xs) (s := s1) (j + 1) h1 fun i y s hy hp => by
      have := st (i + 1) y s (by simpa using hy) (by rw [show j + (i + 1) = j + 1 + i by omega]; exact hp)
      rwa [show j + (i + 1) + 1 = j + 1 + i + 1 by omega] at this
    refine ⟨s', ?_, by rw [List.length_cons, show j + (xs.length + 1) = j + 1 + xs.length by omega]; exact h'⟩
    unfold zFor
    rw [e1, zb, e]
/-- over a list whose answer is known at each place -/
theorem zFor_eq {f : α → σ → Option σ} {xs : List α} (S : Nat → σ) (st : ∀ i x, xs[i]? = some x → f x (S i) = some (S (i + 1))) : zFor f xs (S 0) = some (S xs.length) := by
  obtain ⟨s', e, h⟩ := zFor_at (f := f) (fun j s => s = S j) (xs := xs) 0 rfl fun i x s hx hs => ⟨S (i + 1), by rw [hs, Nat.zero_add]; exact st i x hx, by rw [Nat.zero_add]⟩
  rw [Nat.zero_add] at h
  rw [e, h]
theorem zFor_rg {f : Int → σ → Option σ} {n : Nat} (S : Nat → σ) (st : ∀ i : Nat, i < n → f (i : Int) (S i) = some (S (i + 1))) : zFor f (rgI n) (S 0) = some (S n) := by
  have := zFor_eq (f := f) (xs := rgI n) S fun i x hx => by
    have hi : i < n := by have := (List.getElem?_eq_some_iff.mp hx).1; rwa [rgI_len] at this
    rw [rgI_get hi] at hx; cases hx
    exact st i hi
  rwa [rgI_len] at this
theorem zFor_rgP {f : Int → σ → Option σ} {n : Nat} (P : Nat → σ → Prop) {s : σ} (h : P 0 s) (st : ∀ (i : Nat) s, i < n → P i s → ∃ s', f (i : Int) s = some s' ∧ P (i + 1) s') : ∃ s', zFor f (rgI n) s = some s' ∧ P n s' := by
  obtain ⟨s', e, q⟩ := zFor_at (f := f) P (xs := rgI n) 0 h fun i x s hx hs => by
    have hi : i < n := by have := (List.getElem?_eq_some_iff.mp hx).1; rwa [rgI_len] at this
    rw [rgI_get hi] at hx; cases hx
    rw [Nat.zero_add] at hs ⊢
    exact st i s hi hs
  rw [Nat.zero_add, rgI_len] at q
  exact ⟨s', e, q⟩
/-- by a fold -/
theorem zFor_fold {f : α → σ → Option σ} {g : σ → α → σ} (I : σ → Prop) : ∀ {xs : List α} {s : σ}, I s → (∀ x s, x ∈ xs → I s → f x s = some (g s x) ∧ I (g s x)) → zFor f xs s = some (xs.foldl g s) ∧ I (xs.foldl g s)
  | [], s, h, _ => ⟨rfl, h⟩
  | x :: xs, s, h, st => by
    obtain ⟨e, h1⟩ := st x s List.mem_cons_self h
    obtain ⟨e2, h2⟩ := zFor_fold (g := g) I (xs := xs) h1 fun y s hy => st y s (List.mem_cons_of_mem _ hy)
    refine ⟨?_, h2⟩
    unfold zFor
    rw [e, zb, e2]; rfl
/-- a loop that never leaves -/
theorem zForC_go {f : α → σ → Option (Ctl σ τ)} {g : α → σ → Option σ} : ∀ {xs : List α} {s s' : σ}, (∀ x s s', x ∈ xs → g x s = some s' → f x s = some (.go s')) → zFor g xs s = some s' → zForC f xs s = some (.inl s')
  | [], s, s', _, h => by cases h; rfl
  | x :: xs, s, s', hf, h => by
    unfold zFor at h
    obtain ⟨s1, h1, h⟩ := bnd h
    unfold zForC
    rw [hf x s s1 List.mem_cons_self h1, zb]
    exact zForC_go (fun y u u' hy => hf y u u' (List.mem_cons_of_mem _ hy)) h
theorem zForC_unit {f : α → Unit → Option (Ctl Unit τ)} : ∀ {xs : List α}, (∀ x ∈ xs, f x () = some (.go ())) → zForC f xs () = some (.inl ())
  | [], _ => rfl
  | x :: xs, h => by
    unfold zForC
    rw [h x List.mem_cons_self, zb]
    exact zForC_unit fun y hy => h y (List.mem_cons_of_mem _ hy)
/-- .. at one item it returns -/
theorem zForC_ret {f : α → Unit → Option (Ctl Unit τ)} {r : τ} : ∀ {xs : List α}, (∀ x ∈ xs, f x () = some (.go ()) ∨ f x () = some (.ret r)) → (∃ x ∈ xs, f x () = some (.ret r)) → zForC f xs () = some (.inr r)
  | [], _, ⟨_, h, _⟩ => by cases h
  | x :: xs, h, ⟨y, hy, e⟩ => by
    unfold zForC
    rcases h x List.mem_cons_self with q | q
    · rw [q, zb]
      rcases List.mem_cons.mp hy with z | z
      · subst z; rw [e] at q; cases q
      · exact zForC_ret (fun y hy => h y (List.mem_cons_of_mem _ hy)) ⟨y, z, e⟩
    · rw [q, zb]
/-- a judge: false at the first item that does not pass -/
theorem zForC_judge {f : α → Unit → Option (Ctl Unit Bool)} {p : α → Bool} {xs : List α} (h : ∀ x ∈ xs, f x () = some (if p x = true then .go () else .ret false)) : zForC f xs () = some (if xs.all p = true then .inl () else .inr false) := by
  by_cases q : xs.all p = true
  · rw [if_pos q]
    exact zForC_unit fun x hx => by rw [h x hx, if_pos (List.all_eq_true.mp q x hx)]
  · rw [if_neg q]
    refine zForC_ret (fun x hx => ?_) ?_
    · rw [h x hx]; by_cases z : p x = true
      · rw [if_pos z]; exact .inl rfl
      · rw [if_neg z]; exact .inr rfl
    · have : ∃ x ∈ xs, ¬ p x = true := by
        refine Classical.byContradiction fun n => q (List.all_eq_true.mpr fun x hx => ?_)
        exact Classical.byContradiction fun z => n ⟨x, hx, z⟩
      obtain ⟨x, hx, z⟩ := this
      exact ⟨x, hx, by rw [h x hx, if_neg z]⟩
/-- while, by a measure -/
theorem zWhile_ex {t : σ → Option Bool} {f : σ → Option σ} (I : σ → Prop) (m : σ → Nat) (Q : σ → Prop) (st : ∀ s, I s → (t s = some false ∧ Q s) ∨ (t s = some true ∧ ∃ s', f s = some s' ∧ I s' ∧ m s' < m s)) : ∀ (n : Nat) (s : σ), I s → m s < n → ∃ s', zWhile t f n s = some s' ∧ Q s'
  | 0, s, _, h => by omega
  | n + 1, s, h, hm => by
    rcases st s h with ⟨e, q⟩ | ⟨e, s', e2, h2, hm2⟩
    · refine ⟨s, ?_, q⟩
      unfold zWhile
      rw [e, zb]; rfl
    · obtain ⟨s2, e3, q⟩ := zWhile_ex I m Q st n s' h2 (by omega)
      refine ⟨s2, ?_, q⟩
      unfold zWhile
      rw [e, zb, if_pos rfl, e2, zb, e3]
end
theorem zCut_take {α : Type} {xs : List α} (m : Nat) : zCut xs none (some (m : Int)) = xs.take m := by
  unfold zCut
  rw [HT.sIx_none, HT.sIx_nat, List.drop_zero, Nat.sub_zero]
  by_cases h : m ≤ xs.length
  · rw [Nat.min_eq_left h]
  · rw [Nat.min_eq_right (by omega), List.take_of_length_le (Nat.le_refl _), List.take_of_length_le (by omega)]
theorem zCut_drop {α : Type} {xs : List α} (m : Nat) : zCut xs (some (m : Int)) none = xs.drop m := by
  unfold zCut
  rw [HT.sIx_none, HT.sIx_nat]
  by_cases h : m ≤ xs.length
  · rw [Nat.min_eq_left h, List.take_of_length_le (by rw [List.length_drop]; omega)]
  · rw [Nat.min_eq_right (by omega), List.drop_eq_nil_of_le (by omega : xs.length ≤ m), List.drop_length, List.take_nil]
theorem zCut_tz {α : Type} {xs : List α} {z : Int} (h : 0 ≤ z) : zCut xs none (some z) = xs.take z.toNat := by
  have := zCut_take (xs := xs) z.toNat
  rwa [Int.toNat_of_nonneg h] at this
theorem zCut_dz {α : Type} {xs : List α} {z : Int} (h : 0 ≤ z) : zCut xs (some z) none = xs.drop z.toNat := by
  have := zCut_drop (xs := xs) z.toNat
  rwa [Int.toNat_of_nonneg h] at this
/-! the draws -/
structure Drs (L : List Int) (n : Nat) : Prop where
  len : L.length = n
  ok : OkN L
theorem Drs.at {L : List Int} {n : Nat} (h : Drs L n) {z : Int} (h0 : 0 ≤ z) (h1 : z < n) : atI L z = some (L.getD z.toNat 0) := atI_D h0 (by rw [h.len]; exact h1)
theorem Drs.bd {L : List Int} {n : Nat} (h : Drs L n) (i : Nat) : 0 ≤ L.getD i 0 ∧ L.getD i 0 < 1000003 := by
  by_cases hi : i < L.length
  · have : L.getD i 0 ∈ L := by
      rw [show L.getD i 0 = L[i] by simp [List.getD, hi]]
      exact List.getElem_mem hi
    have := h.ok _ this
    omega
  · rw [show L.getD i 0 = 0 by simp [List.getD, List.getElem?_eq_none (Nat.le_of_not_lt hi)]]
    omega
end PyL

namespace PyL
open PySem PySem.Spec L2
open Enc (enc)
set_option autoImplicit false
/-! ### vectors -/
theorem vec_z {n : Nat} {f : Nat → Int} {z : Int} (h0 : 0 ≤ z) (h : z < n) : atI (vec n f) z = some (f z.toNat) := atI_z h0 (vec_get (by omega))
theorem vec_n {n : Nat} {f : Nat → Int} {i : Nat} (h : i < n) : atI (vec n f) (i : Int) = some (f i) := atI_ok (vec_get h)
theorem vec_st {n : Nat} {f : Nat → Int} {z v : Int} (h0 : 0 ≤ z) (h : z < n) : zStore (vec n f) z v = some (vec n (upd1 f z.toNat v)) := by
  unfold zStore
  rw [vec_len]
  have := ixN_nat (n := n) (j := z.toNat) (by omega)
  rw [Int.toNat_of_nonneg h0] at this
  rw [this, zb, vec_set]
theorem rgI_map {n : Nat} {f : Int → Int} : (rgI n).map f = vec n fun i => f (i : Int) := by unfold rgI vec; rw [List.map_map]; rfl
theorem rgI_mapM {n : Nat} {f : Int → Option Int} {g : Nat → Int} (h : ∀ i : Nat, i < n → f (i : Int) = some (g i)) : zMapM f (rgI n) = some (vec n g) := by
  rw [zMapM_ok (g := fun z => g z.toNat) fun x hx => by
    obtain ⟨i, hi, rfl⟩ := rgI_mem.mp hx
    rw [h i hi, Int.toNat_natCast], rgI_map]
  simp only [Int.toNat_natCast]
theorem rgI_mapG {β : Type} {n : Nat} {f : Int → Option β} {g : Nat → β} (h : ∀ i : Nat, i < n → f (i : Int) = some (g i)) : zMapM f (rgI n) = some ((List.range n).map g) := by
  rw [zMapM_ok (g := fun z => g z.toNat) fun x hx => by
    obtain ⟨i, hi, rfl⟩ := rgI_mem.mp hx
    rw [h i hi, Int.toNat_natCast]]
  unfold rgI
  rw [List.map_map]
  congr 1
theorem zRep0 {n : Nat} {c : Int} (h : n ≤ 1000000) : zRep [c] (n : Int) = some (vec n fun _ => c) := by
  unfold zRep
  rw [if_pos ⟨by omega, by omega, by rw [Int.toNat_natCast]; show 1 * n ≤ _; exact small' (by omega)⟩]
  rw [Int.toNat_natCast]
  congr 1
  unfold vec
  rw [List.map_const', List.length_range]
  induction n with
  | zero => rfl
  | succ n ih => rw [List.replicate_succ, List.flatten_cons, ih (by omega), List.replicate_succ]; rfl
/-! ### links -/
abbrev Lnk := T3 Int Int Int
structure Pk (n : Nat) (ls : List Lnk) : Prop where
  few : ls.length ≤ 1000
  ok : ∀ l ∈ ls, 0 ≤ l.a ∧ l.a < n ∧ 0 ≤ l.b ∧ l.b < n ∧ 1 ≤ l.c ∧ l.c ≤ 1000000
theorem Pk.sub {n : Nat} {ls ks : List Lnk} (h : Pk n ls) (hl : ks.length ≤ 1000) (hs : ∀ l ∈ ks, l ∈ ls) : Pk n ks := ⟨hl, fun l hk => h.ok l (hs l hk)⟩
theorem Pk.rev {n : Nat} {ls : List Lnk} (h : Pk n ls) : Pk n ls.reverse := h.sub (by rw [List.length_reverse]; exact h.few) fun l hl => List.mem_reverse.mp hl
theorem Pk.snoc {n : Nat} {ls : List Lnk} {l : Lnk} (h : Pk n ls) (hl : ls.length < 1000) (ho : 0 ≤ l.a ∧ l.a < n ∧ 0 ≤ l.b ∧ l.b < n ∧ 1 ≤ l.c ∧ l.c ≤ 1000000) : Pk n (ls ++ [l]) := ⟨by rw [List.length_append]; show ls.length + 1 ≤ 1000; omega, fun k hk => by
  rcases List.mem_append.mp hk with hk | hk
  · exact h.ok k hk
  · rw [List.mem_singleton.mp hk]; exact ho⟩
theorem Pk.add {n : Nat} {ls : List Lnk} {a b c : Int} (h : Pk n ls) (hl : ls.length < 1000) (h1 : 0 ≤ a) (h2 : a < n) (h3 : 0 ≤ b) (h4 : b < n) (h5 : 1 ≤ c) (h6 : c ≤ 1000000) : Pk n (ls ++ [⟨a, b, c⟩]) := h.snoc hl ⟨h1, h2, h3, h4, h5, h6⟩
theorem Pk.nil {n : Nat} : Pk n [] := ⟨by decide, fun l h => by cases h⟩
theorem Pk.bd {n : Nat} {ls : List Lnk} (h : Pk n ls) {l : Lnk} (hl : l ∈ ls) : Bd 20 l.c := Bd.of 1000001 (by have := h.ok l hl; omega) (by decide)
def sumK (ls : List Lnk) (g : Lnk → Int) : Int := (ls.map g).sum
theorem sumK_nil {g : Lnk → Int} : sumK [] g = 0 := rfl
theorem sumK_cons {l : Lnk} {ls : List Lnk} {g : Lnk → Int} : sumK (l :: ls) g = g l + sumK ls g := by unfold sumK; rw [List.map_cons, List.sum_cons]
theorem sumK_snoc {l : Lnk} {ls : List Lnk} {g : Lnk → Int} : sumK (ls ++ [l]) g = sumK ls g + g l := by unfold sumK; rw [List.map_append, List.sum_append]; simp
theorem sumK_congr {ls : List Lnk} {g h : Lnk → Int} (e : ∀ l ∈ ls, g l = h l) : sumK ls g = sumK ls h := by unfold sumK; rw [List.map_congr_left e]
theorem sumK_add {g h : Lnk → Int} : ∀ {ls : List Lnk}, sumK ls (fun l => g l + h l) = sumK ls g + sumK ls h
  | [] => rfl
  | l :: ls => by rw [sumK_cons, sumK_cons, sumK_cons, sumK_add]; omega
theorem sumK_mul {g : Lnk → Int} {c : Int} : ∀ {ls : List Lnk}, sumK ls (fun l => g l * c) = sumK ls g * c
  | [] => by simp [sumK_nil]
  | l :: ls => by rw [sumK_cons, sumK_cons, sumK_mul, Int.add_mul]
theorem sumK_0 {g : Lnk → Int} : ∀ {ls : List Lnk}, (∀ l ∈ ls, g l = 0) → sumK ls g = 0
  | [], _ => rfl
  | l :: ls, h => by rw [sumK_cons, h l List.mem_cons_self, sumK_0 fun k hk => h k (List.mem_cons_of_mem _ hk)]; rfl
theorem sumK_nn {g : Lnk → Int} : ∀ {ls : List Lnk}, (∀ l ∈ ls, 0 ≤ g l) → 0 ≤ sumK ls g
  | [], _ => Int.le_refl 0
  | l :: ls, h => by
    rw [sumK_cons]
    have := h l List.mem_cons_self
    have := sumK_nn (ls := ls) fun k hk => h k (List.mem_cons_of_mem _ hk)
    omega
/-- of terms from 0 on: above 0 exactly where one is -/
theorem sumK_pos {g : Lnk → Int} : ∀ {ls : List Lnk}, (∀ l ∈ ls, 0 ≤ g l) → (0 < sumK ls g ↔ ∃ l ∈ ls, 0 < g l)
  | [], _ => ⟨fun h => by rw [sumK_nil] at h; omega, fun ⟨l, h, _⟩ => by cases h⟩
  | l :: ls, h => by
    have ih := sumK_pos (ls := ls) fun k hk => h k (List.mem_cons_of_mem _ hk)
    have h1 := h l List.mem_cons_self
    have h2 := sumK_nn (ls := ls) fun k hk => h k (List.mem_cons_of_mem _ hk)
    rw [sumK_cons]
    constructor
    · intro q
      by_cases z : 0 < g l
      · exact ⟨l, List.mem_cons_self, z⟩
      · obtain ⟨k, hk, e⟩ := ih.mp (by omega)
        exact ⟨k, List.mem_cons_of_mem _ hk, e⟩
    · rintro ⟨k, hk, e⟩
      rcases List.mem_cons.mp hk with rfl | hk
      · omega
      · have := ih.mpr ⟨k, hk, e⟩; omega
theorem sumK_bd {g : Lnk → Int} {b : Nat} {ls : List Lnk} (h : ∀ l ∈ ls, Bd b (g l)) (hl : ls.length ≤ 1000) : Bd (b + 10) (sumK ls g) := Bd.sum (fun x hx => by
  obtain ⟨l, hl, rfl⟩ := List.mem_map.mp hx
  exact h l hl) (by rw [List.length_map]; exact Nat.lt_of_le_of_lt hl (by decide))
theorem sumN_sumK {n : Nat} {g : Nat → Lnk → Int} : ∀ {ls : List Lnk}, sumN n (fun t => sumK ls (g t)) = sumK ls fun l => sumN n fun t => g t l
  | [] => sumN_0 fun _ _ => rfl
  | l :: ls => by
    rw [sumK_cons, ← sumN_sumK, ← sumN_add]
    exact sumN_congr fun t _ => sumK_cons
theorem sumN_nn {n : Nat} {f : Nat → Int} (h : ∀ i < n, 0 ≤ f i) : 0 ≤ sumN n f := by
  induction n with
  | zero => exact Int.le_refl 0
  | succ n ih => rw [sumN_succ]; have := ih fun i hi => h i (by omega); have := h n (by omega); omega
theorem sumN_pos {n : Nat} {f : Nat → Int} (h : ∀ i < n, 0 ≤ f i) : 0 < sumN n f ↔ ∃ i, i < n ∧ 0 < f i := by
  induction n with
  | zero => exact ⟨fun q => by rw [sumN_zero] at q; omega, fun ⟨i, hi, _⟩ => by omega⟩
  | succ n ih =>
    have ih := ih fun i hi => h i (by omega)
    have h1 := h n (by omega)
    have h2 := sumN_nn (n := n) (f := f) fun i hi => h i (by omega)
    rw [sumN_succ]
    constructor
    · intro q
      by_cases z : 0 < f n
      · exact ⟨n, by omega, z⟩
      · obtain ⟨i, hi, e⟩ := ih.mp (by omega)
        exact ⟨i, by omega, e⟩
    · rintro ⟨i, hi, e⟩
      by_cases z : i = n
      · subst z; omega
      · have := ih.mpr ⟨i, by omega, e⟩; omega
theorem filter_sum {p : Lnk → Bool} {g : Lnk → Int} : ∀ {ls : List Lnk}, ((ls.filter p).map g).sum = sumK ls fun l => if p l = true then g l else 0
  | [] => rfl
  | l :: ls => by
    rw [sumK_cons, ← filter_sum, List.filter_cons]
    cases p l with
    | false => simp
    | true => simp
/-- one step further -/
def stp (ls : List Lnk) (f : Nat → Int) (t : Nat) : Int := sumK ls fun l => if l.b = (t : Int) then f l.a.toNat * l.c else 0
theorem stp_bd {n b : Nat} {ls : List Lnk} {f : Nat → Int} (h : Pk n ls) (hf : ∀ i < n, Bd b (f i)) (t : Nat) : Bd (b + 30) (stp ls f t) := by
  refine sumK_bd (b := b + 20) (fun l hl => ?_) h.few
  split
  · have := h.ok l hl
    exact (hf _ (by omega)).mul (h.bd hl)
  · exact Bd.zero
theorem stp_nn {n : Nat} {ls : List Lnk} {f : Nat → Int} (h : Pk n ls) (hf : ∀ i < n, 0 ≤ f i) (t : Nat) : 0 ≤ stp ls f t := sumK_nn fun l hl => by
  have := h.ok l hl
  split
  · exact Int.mul_nonneg (hf _ (by omega)) (by omega)
  · exact Int.le_refl 0
theorem stp_pos {n : Nat} {ls : List Lnk} {f : Nat → Int} (h : Pk n ls) (hf : ∀ i < n, 0 ≤ f i) (t : Nat) : 0 < stp ls f t ↔ ∃ l ∈ ls, l.b = (t : Int) ∧ 0 < f l.a.toNat := by
  unfold stp
  rw [sumK_pos fun l hl => by
    have := h.ok l hl
    split
    · exact Int.mul_nonneg (hf _ (by omega)) (by omega)
    · exact Int.le_refl 0]
  constructor
  · rintro ⟨l, hl, q⟩
    have := h.ok l hl
    by_cases e : l.b = (t : Int)
    · rw [if_pos e] at q
      refine ⟨l, hl, e, ?_⟩
      rcases Int.lt_or_le 0 (f l.a.toNat) with z | z
      · exact z
      · have := hf l.a.toNat (by omega)
        rw [show f l.a.toNat = 0 by omega, Int.zero_mul] at q; omega
    · rw [if_neg e] at q; omega
  · rintro ⟨l, hl, e, q⟩
    have := h.ok l hl
    exact ⟨l, hl, by rw [if_pos e]; exact Int.mul_pos q (by omega)⟩
theorem stp_lin {n : Nat} {ls : List Lnk} {k : Nat} {g : Nat → Nat → Int} {t : Nat} : stp ls (fun i => sumN k fun s => g s i) t = sumN k fun s => stp ls (g s) t := by
  unfold stp
  rw [sumN_sumK]
  refine sumK_congr fun l _ => ?_
  split
  · rw [sumN_mul]
  · rw [sumN_0 fun _ _ => rfl]
theorem stp_congr {n : Nat} {ls : List Lnk} {f g : Nat → Int} (h : Pk n ls) (e : ∀ i < n, f i = g i) (t : Nat) : stp ls f t = stp ls g t := sumK_congr fun l hl => by
  have := h.ok l hl
  rw [e l.a.toNat (by omega)]
end PyL

namespace PyL
open PySem PySem.Spec L2
open Enc (enc)
set_option autoImplicit false
/-! ### sorted(x), x a list of pairs of ints -/
def tlt (p q : T2 Int Int) : Bool := SrtO.lexB (p.a, p.b) (q.a, q.b)
def insT (x : T2 Int Int) : List (T2 Int Int) → List (T2 Int Int)
  | [] => [x]
  | y :: r => if tlt y x = true then y :: insT x r else x :: y :: r
def tsort : List (T2 Int Int) → List (T2 Int Int)
  | [] => []
  | x :: r => insT x (tsort r)
theorem tlt_no {p q : T2 Int Int} : tlt p q = false ↔ ¬ (p.a < q.a ∨ (p.a = q.a ∧ p.b < q.b)) := SrtO.lexB_no
theorem tlt_iff {p q : T2 Int Int} : tlt p q = true ↔ (p.a < q.a ∨ (p.a = q.a ∧ p.b < q.b)) := SrtO.lexB_iff
theorem insT_perm (x : T2 Int Int) : ∀ l : List (T2 Int Int), (insT x l).Perm (x :: l)
  | [] => .refl _
  | y :: r => by
    unfold insT
    split
    · exact ((insT_perm x r).cons y).trans (.swap x y r)
    · exact .refl _
theorem tsort_perm : ∀ l : List (T2 Int Int), (tsort l).Perm l
  | [] => .refl _
  | x :: r => (insT_perm x (tsort r)).trans ((tsort_perm r).cons x)
abbrev TSrt (l : List (T2 Int Int)) : Prop := l.Pairwise fun p q => tlt q p = false
theorem insT_sorted (x : T2 Int Int) : ∀ {l : List (T2 Int Int)}, TSrt l → TSrt (insT x l)
  | [], _ => List.pairwise_singleton _ _
  | y :: r, h => by
    obtain ⟨h1, h2⟩ := List.pairwise_cons.mp h
    unfold insT
    split
    · rename_i hx
      refine List.pairwise_cons.mpr ⟨fun z hz => ?_, insT_sorted x h2⟩
      rcases List.mem_cons.mp ((insT_perm x r).mem_iff.mp hz) with e | hz
      · rw [e, tlt_no]; have := tlt_iff.mp hx; omega
      · exact h1 z hz
    · rename_i hx
      have hx : tlt y x = false := by cases h : tlt y x <;> simp_all
      refine List.pairwise_cons.mpr ⟨fun z hz => (List.mem_cons.mp hz).elim (fun e => e ▸ hx) fun hz => ?_, h⟩
      have a := tlt_no.mp hx
      have b := tlt_no.mp (h1 z hz)
      rw [tlt_no]; omega
theorem tsort_sorted : ∀ l : List (T2 Int Int), TSrt (tsort l)
  | [] => .nil
  | x :: r => insT_sorted x (tsort_sorted r)
theorem tsort_uniq : ∀ {a b : List (T2 Int Int)}, a.Perm b → TSrt a → TSrt b → a = b
  | [], b, p, _, _ => (List.nil_perm.mp p).symm
  | x :: a, [], p, _, _ => absurd p.length_eq (by simp)
  | x :: a, y :: b, p, h1, h2 => by
    obtain ⟨g1, g2⟩ := List.pairwise_cons.mp h1
    obtain ⟨k1, k2⟩ := List.pairwise_cons.mp h2
    have e : x = y := by
      have hx : x ∈ y :: b := p.mem_iff.mp List.mem_cons_self
      have hy : y ∈ x :: a := p.mem_iff.mpr List.mem_cons_self
      rcases List.mem_cons.mp hx with e | hx
      · exact e
      · rcases List.mem_cons.mp hy with e | hy
        · exact e.symm
        · have u := tlt_no.mp (g1 y hy)
          have v := tlt_no.mp (k1 x hx)
          obtain ⟨xa, xb⟩ := x
          obtain ⟨ya, yb⟩ := y
          simp only at u v
          have e1 : xa = ya := by omega
          have e2 : xb = yb := by omega
          rw [e1, e2]
    subst e
    rw [tsort_uniq ((List.perm_cons x).mp p) g2 k2]
def dPair : D → Option (T2 Int Int)
  | .tup [.int a, .int b] => some ⟨a, b⟩
  | _ => none
def dPairs : List D → Option (List (T2 Int Int))
  | [] => some []
  | d :: ds => (dPair d).bind fun p => (dPairs ds).bind fun ps => some (p :: ps)
def gSortP := on1 fun r => match r.d with
  | .lst ds => match dPairs ds with
    | some ps => .ok ⟨.lst ((tsort ps).map enc), 1, [], []⟩
    | none => .bad
  | _ => .bad
/-- what stands at a value that is a pair of ints -/
def pairAt (H : Hp) : V → Int × Int
  | .ref t => match H t with
    | some (.tup [.int a, .int b]) => (a, b)
    | _ => (0, 0)
  | _ => (0, 0)
theorem dPair_rp {S : PA1} {H : Hp} {d : D} {v : V} {p : T2 Int Int} (h : dPair d = some p) (r : Rp S H d v) : (∃ t, v = V.ref t ∧ H t = some (.tup [.int (pairAt H v).1, .int (pairAt H v).2])) ∧ pairAt H v = (p.a, p.b) := by
  unfold dPair at h
  split at h
  · rename_i a b
    cases h
    obtain ⟨t, xs, rfl, _, ht, x, r1, rfl, hx, y, r2, e2, hy, e3⟩ := r
    rw [show r2 = [] from e3] at e2
    rw [e2, show x = V.int _ from hx, show y = V.int _ from hy] at ht
    have e : pairAt H (.ref t) = (a, b) := by show (match H t with | some (.tup [.int a, .int b]) => (a, b) | _ => (0, 0)) = (a, b); rw [ht]
    rw [e]
    exact ⟨⟨t, rfl, ht⟩, rfl⟩
  · cases h
theorem dPairs_rp {S : PA1} {H : Hp} : ∀ {ds : List D} {vs : List V} {ps : List (T2 Int Int)}, dPairs ds = some ps → RpL S H ds vs → (∀ v ∈ vs, ∃ t, v = V.ref t ∧ H t = some (.tup [.int (pairAt H v).1, .int (pairAt H v).2])) ∧ vs.map (pairAt H) = ps.map fun p => (p.a, p.b)
  | [], vs, ps, h, r => by cases h; rw [show vs = [] from r]; exact ⟨fun v h => (by cases h), rfl⟩
  | d :: ds, _, ps, h, ⟨x, q, e, p, l⟩ => by
    unfold dPairs at h
    cases hp : dPair d with
    | none => rw [hp] at h; cases h
    | some p0 =>
      rw [hp] at h
      cases hps : dPairs ds with
      | none => rw [hps] at h; cases h
      | some qs =>
        rw [hps] at h
        cases h
        obtain ⟨i1, i2⟩ := dPair_rp hp p
        obtain ⟨j1, j2⟩ := dPairs_rp hps l
        subst e
        refine ⟨fun v hv => (List.mem_cons.mp hv).elim (fun e => e ▸ i1) (j1 v), ?_⟩
        rw [List.map_cons, List.map_cons, i2, j2]
theorem rp_pairs {S0 : PA1} {ρ : Ev} {σ : St} {H : Hp} {F : FP} (E : EE S0 ρ σ H F) : ∀ {ys : List V} {ps : List (T2 Int Int)}, (∀ v ∈ ys, ∃ t, v = V.ref t ∧ H t = some (.tup [.int (pairAt H v).1, .int (pairAt H v).2])) → (ys.map (pairAt H) = ps.map fun p => (p.a, p.b)) → RpL (inS S0 F []) H (ps.map enc) ys
  | [], [], _, _ => rfl
  | [], _ :: _, _, e => by simp at e
  | _ :: _, [], _, e => by simp at e
  | y :: ys, p :: ps, h, e => by
    rw [List.map_cons, List.map_cons] at e
    obtain ⟨e1, e2⟩ := List.cons.inj e
    obtain ⟨t, rfl, ht⟩ := h y List.mem_cons_self
    rw [e1] at ht
    exact ⟨_, _, rfl, ⟨t, _, rfl, fun z => (E.inTr z).notTup ht, ht, _, _, rfl, rfl, _, _, rfl, rfl, rfl⟩, rp_pairs E (fun v hv => h v (List.mem_cons_of_mem _ hv)) e2⟩
theorem ok_sortP {K : PySem.W.Frag} : BOk (rSortedPO K) gSortP := by
  intro S0 ρ σ H F W rs vs Q E l p
  obtain ⟨r, v, rfl, z, p⟩ := on1_ok l p
  split at p
  · rename_i ds e
    split at p
    · rename_i ps hp
      obtain ⟨a, xs, rfl, ha, lx⟩ := z.lst e
      obtain ⟨h1, h2⟩ := dPairs_rp hp lx
      refine ⟨a, xs, pairAt H, rfl, SqL.of ha, h1, fun ys b hs hb nb => ?_⟩
      refine post_lst E p (rp_pairs E (fun v hv => h1 v (hb.perm.mem_iff.mp hv)) ?_) b nb
      have e1 : ((ys.map (pairAt H)).map fun q => (⟨q.1, q.2⟩ : T2 Int Int)) = tsort ps := by
        refine tsort_uniq ?_ ?_ (tsort_sorted ps)
        · refine ((hb.perm.map (pairAt H)).map _).trans ?_
          rw [h2, List.map_map]
          have : (ps.map ((fun q : Int × Int => (⟨q.1, q.2⟩ : T2 Int Int)) ∘ fun p => (p.a, p.b))) = ps := by
            conv => rhs; rw [← List.map_id ps]
            exact List.map_congr_left fun p _ => rfl
          rw [this]
          exact (tsort_perm ps).symm
        · unfold TSrt
          rw [List.pairwise_map, List.pairwise_map]
          exact hs
      rw [← e1, List.map_map]
      conv => lhs; rw [← List.map_id (ys.map (pairAt H))]
      exact List.map_congr_left fun p _ => rfl
    · exact p.elim
  · exact p.elim
/-! ### (a, b) <= (c, d) -/
def gLeT : G2 := fun ra rb => match dPair ra.d, dPair rb.d with
  | some p, some q => okB (!tlt q p)
  | _, _ => .bad
theorem lexAt_le (a b c d : Int) : Ob.lexAt (fun j => decide ([a, b].getD j 0 = [c, d].getD j 0)) (fun j => decide ([a, b].getD j 0 ≤ [c, d].getD j 0)) (decide (([a, b] : List Int).length ≤ ([c, d] : List Int).length)) 0 (min ([a, b] : List Int).length ([c, d] : List Int).length) = !tlt ⟨c, d⟩ ⟨a, b⟩ := by
  show Ob.lexAt _ _ true 0 2 = _
  rw [Ob.lexAt_succ, Ob.lexAt_succ, Ob.lexAt_zero]
  show (if decide (a = c) = true then (if decide (b = d) = true then true else decide (b ≤ d)) else decide (a ≤ c)) = _
  cases h : tlt (⟨c, d⟩ : T2 Int Int) ⟨a, b⟩ with
  | true =>
    have := tlt_iff.mp h
    simp only at this
    by_cases q1 : a = c
    · rw [if_pos (decide_eq_true q1)]
      by_cases q2 : b = d
      · omega
      · rw [if_neg (by simpa using q2), decide_eq_false (by omega)]; rfl
    · rw [if_neg (by simpa using q1), decide_eq_false (by omega)]; rfl
  | false =>
    have := tlt_no.mp h
    simp only at this
    by_cases q1 : a = c
    · rw [if_pos (decide_eq_true q1)]
      by_cases q2 : b = d
      · rw [if_pos (decide_eq_true q2)]; rfl
      · rw [if_neg (by simpa using q2), decide_eq_true (by omega)]; rfl
    · rw [if_neg (by simpa using q1), decide_eq_true (by omega)]; rfl
theorem ok_leT {K : PySem.W.Frag} : OpOk (rLeT K) gLeT := by
  intro S0 ρ σ H F W ra rb x y Q E hx hy p
  unfold gLeT at p
  split at p
  · rename_i p1 q1 e1 e2
    obtain ⟨⟨t, rfl, ht⟩, et⟩ := dPair_rp e1 hx.rp
    obtain ⟨⟨u, rfl, hu⟩, eu⟩ := dPair_rp e2 hy.rp
    rw [et] at ht
    rw [eu] at hu
    refine ⟨t, u, [p1.a, p1.b], [q1.a, q1.b], rfl, rfl, SqT.of ht, SqT.of hu, ?_⟩
    rw [lexAt_le]
    exact okB_post p
  · exact p.elim
/-! ### list(d), the keys tuples -/
def gListT := on1 fun r => match r.d with
  | .dT kvs => .ok ⟨.lst (kvs.map fun kv => .tup (kv.1.map keyD)), 1, [], []⟩
  | _ => .bad
theorem rpL_keys {S : PA1} {H : Hp} : ∀ {ks : List Key}, RpL S H (ks.map keyD) (ks.map kV)
  | [] => rfl
  | k :: ks => ⟨_, _, rfl, by cases k <;> rfl, rpL_keys⟩
theorem rp_isKeys {S0 : PA1} {ρ : Ev} {σ : St} {H : Hp} {F : FP} (E : EE S0 ρ σ H F) {kvs : List (List Key × V)} {bs : List Addr} (h : IsKeys H kvs bs) : RpL (inS S0 F []) H (kvs.map fun kv => D.tup (kv.1.map keyD)) (bs.map V.ref) := by
  unfold IsKeys at h
  induction h with
  | nil => rfl
  | cons h t ih => exact ⟨_, _, rfl, ⟨_, _, rfl, fun z => (E.inTr z).notTup h, h, rpL_keys⟩, ih⟩
theorem ok_listT : BOk (fun xs H Q => ∃ d kvs, xs = [V.ref d] ∧ Rd H d (.dT kvs) ∧ ∀ p bs, H p = none → IsKeys H kvs bs → Q (.ref p) (upd H p (.lst (bs.map V.ref)))) gListT := by
  intro S0 ρ σ H F W rs vs Q E l p
  obtain ⟨r, v, rfl, z, p⟩ := on1_ok l p
  split at p
  · rename_i kvs e
    have rp := z.rp
    rw [e] at rp
    obtain ⟨a, rfl, _, ha⟩ := rp
    exact ⟨a, kvs, rfl, .inl ha, fun b bs nb ik => post_lst E p (rp_isKeys E ik) b nb⟩
  · exact p.elim
section
variable {S S' : Spec} {fa fb fc : FE} {i : Nat} {ka kb kc kk : Option Nat} {Ea Ca Eb Cb Ec Cc E C : List Nat}
theorem dPairs_enc : ∀ ps : List (T2 Int Int), dPairs (ps.map enc) = some ps
  | [] => rfl
  | p :: ps => by
    show (dPair (enc p)).bind _ = _
    rw [show dPair (enc p) = some p from rfl]
    show (dPairs (ps.map enc)).bind _ = _
    rw [dPairs_enc ps]; rfl
theorem re_sortP {ps : List (T2 Int Int)} (ha : RE S fa ps ka Ea Ca) : RE S (fB gSortP (fCons fa fNil)) (tsort ps) (some 1) [] [] := re_b1 ha fun ra g1 => by
  obtain ⟨k1, e1, c1, rfl, _⟩ := rd1 g1
  refine ⟨⟨.lst ((tsort ps).map enc), 1, [], []⟩, ?_, rfl, fun m z => by cases z; rfl, fun j hj => (by cases hj), fun j hj => (by cases hj)⟩
  show gSortP [⟨.lst (ps.map enc), k1, e1, c1⟩] = _
  unfold gSortP on1; simp only [dPairs_enc]
theorem re_leT {p q : T2 Int Int} (ha : RE S fa p ka Ea Ca) (hb : RE S fb q kb Eb Cb) : RE S (fBin gLeT fa fb) (!tlt q p) (some 0) [] [] := re_bin ha hb fun ra rb g1 g2 => by
  obtain ⟨k1, e1, c1, rfl, _⟩ := rd1 g1
  obtain ⟨k2, e2, c2, rfl, _⟩ := rd1 g2
  exact ⟨_, rfl, gv0⟩
theorem re_dkeysT {ν : Type} [Enc ν] [EncV ν] {d : Dct (T2 Int Int) ν} (ha : RE S fa d ka Ea Ca) : RE S (fB gListT (fCons fa fNil)) (d.l.map (·.1)) (some 1) [] [] := re_b1 ha fun ra g1 => by
  obtain ⟨k1, e1, c1, rfl, _⟩ := rd1 g1
  refine ⟨⟨enc (d.l.map (·.1)), 1, [], []⟩, ?_, rfl, fun m q => by cases q; rfl, fun j hj => (by cases hj), fun j hj => (by cases hj)⟩
  show Res.ok (⟨D.lst (((d.l.map fun p => (p.1, EncV.tv p.2)).map fun p => (([.inl p.1.a, .inl p.1.b] : List Key), p.2)).map fun kv => D.tup (kv.1.map keyD)), 1, [], []⟩ : R) = Res.ok ⟨D.lst ((d.l.map (·.1)).map enc), 1, [], []⟩
  rw [List.map_map, List.map_map, List.map_map]
  rfl
end
end PyL

namespace PyL
open PySem PySem.Spec PyProof.Rows L2
open Enc (enc)
set_option autoImplicit false
/-! ### len(set(x)), x a list of ints -/
def dd {α : Type} [DecidableEq α] : List α → List α
  | [] => []
  | n :: ns => n :: (dd ns).filter (fun m => !decide (m = n))
abbrev ddI : List Int → List Int := dd
theorem dd_mem {α : Type} [DecidableEq α] : ∀ {ns : List α} {m : α}, m ∈ dd ns ↔ m ∈ ns
  | [], m => Iff.rfl
  | n :: ns, m => by
    unfold dd
    rw [List.mem_cons, List.mem_cons, List.mem_filter, dd_mem]
    by_cases q : m = n <;> simp [q]
theorem dd_nodup {α : Type} [DecidableEq α] : ∀ ns : List α, (dd ns).Nodup
  | [] => .nil
  | n :: ns => by
    unfold dd
    refine List.nodup_cons.mpr ⟨fun h => ?_, (dd_nodup ns).filter _⟩
    simp at h
theorem dd_len {α : Type} [DecidableEq α] : ∀ ns : List α, (dd ns).length ≤ ns.length
  | [] => Nat.le_refl 0
  | n :: ns => by
    unfold dd
    have := List.length_filter_le (fun m => !decide (m = n)) (dd ns)
    have := dd_len ns
    rw [List.length_cons, List.length_cons]; omega
theorem ddI_mem {ns : List Int} {m : Int} : m ∈ ddI ns ↔ m ∈ ns := dd_mem
theorem ddI_nodup (ns : List Int) : (ddI ns).Nodup := dd_nodup ns
theorem nodup_same_len {a b : List Int} (ha : a.Nodup) (hb : b.Nodup) (h : ∀ m, m ∈ a ↔ m ∈ b) : a.length = b.length := ((List.perm_ext_iff_of_nodup ha hb).mpr h).length_eq
theorem fm_ok (ns : List Int) : ∀ i, i ≤ ns.length → (firstMet (fun i => ns.getD i 0) i).Nodup ∧ ∀ m, m ∈ firstMet (fun i => ns.getD i 0) i ↔ m ∈ ns.take i
  | 0, _ => ⟨by show ([] : List Int).Nodup; exact .nil, fun m => by rw [List.take_zero]; exact Iff.rfl⟩
  | i + 1, hi => by
    obtain ⟨h1, h2⟩ := fm_ok ns i (by omega)
    have e2 : ns.take (i + 1) = ns.take i ++ [ns.getD i 0] := by
      rw [List.take_add_one, List.getElem?_eq_getElem (by omega), List.getD_eq_getElem?_getD, List.getElem?_eq_getElem (by omega)]; rfl
    rw [PyProof.Rows.firstMet_succ, e2]
    show List.Nodup (if (firstMet (fun i => ns.getD i 0) i).any (· == ns.getD i 0) then _ else _) ∧ ∀ m, m ∈ (if (firstMet (fun i => ns.getD i 0) i).any (· == ns.getD i 0) then _ else _) ↔ _
    generalize firstMet (fun i => ns.getD i 0) i = l at h1 h2
    generalize ns.getD i 0 = v
    by_cases q : l.any (· == v) = true
    · rw [if_pos q]
      obtain ⟨y, hy, ey⟩ := List.any_eq_true.mp q
      have ey : y = v := eq_of_beq ey
      subst ey
      refine ⟨h1, fun m => ?_⟩
      rw [List.mem_append, ← h2, List.mem_singleton]
      exact ⟨.inl, fun h => h.elim id fun e => e ▸ hy⟩
    · rw [if_neg q]
      refine ⟨List.nodup_append.mpr ⟨h1, by simp, fun a ha b hb e => q (List.any_eq_true.mpr ⟨a, ha, by rw [List.mem_singleton.mp hb] at e; rw [e]; exact beq_self_eq_true _⟩)⟩, fun m => ?_⟩
      rw [List.mem_append, List.mem_append, h2]
theorem fm_len (ns : List Int) : (firstMet (fun i => ns.getD i 0) ns.length).length = (ddI ns).length := by
  obtain ⟨h1, h2⟩ := fm_ok ns ns.length (Nat.le_refl _)
  exact nodup_same_len h1 (ddI_nodup ns) fun m => by rw [h2, List.take_length, ddI_mem]
def tLenSetA (K : PySem.W.Frag) (ta : TE) : TE := fun σ H Q => ta σ H fun x H1 => ∃ (l : Addr) (ns : List Int), x = .ref l ∧ SqL K H1 l (ns.map V.int) ∧ ns.length ≤ 4000 ∧ Q (.int ((ddI ns).length : Nat)) H1
theorem pe_lenSetA {X : Cx} {a : Expr} {ta : TE} {p p2 q pos : Pos} (hg : Gl X "len") (hm : X.mg "len" = none) (hg2 : Gl X "set") (hm2 : X.mg "set" = none) (ha : PE X a ta) (hc : X.calm = true := by rfl)
    (na : starEach [a] X.env = (false, eval a X.env) :: starEach [] X.env := by rfl) : PE X (.Call (.Name "len" p) [.Call (.Name "set" p2) [a] [] q] [] pos) (tLenSetA X.K ta) := by
  refine ⟨fun pins s σ H Q I h => ?_⟩
  refine Call_ (ld_blt I hg hm boot_len ?_)
  refine PyProof.Rows.callWith_builtin1 (PyProof.Rows.args_cons ?_ rfl) rfl rfl
  refine Call_ (ld_blt I hg2 hm2 PyProof.Rows.boot_set ?_)
  refine PyProof.Rows.callWith_type1 (PyProof.Rows.args_cons (thn (ha.run pins s σ H _ I h) fun v s1 ⟨x, H1, I1, r1, q1⟩ => PyProof.Rows.args_nil ?_) na) na rfl
  obtain ⟨l, ns, rfl, hq, hl, q1⟩ := q1
  cases r1
  obtain ⟨its, r, pl, hz⟩ := I1.list hq
  have hlen : its.toArray.size = ns.length := by rw [List.size_toArray, ← r.length, List.length_map]
  refine call_set_list (I1.ok.hd hc) pl.isList (by simpa using RZ.intsAre_vals r) (by rw [hlen]; unfold scanBound; omega) fun h' tk hS hk => ?_
  refine PyProof.Rows.args_nil ?_
  rw [hlen, fm_len] at hS
  obtain ⟨o, es, ep, t, ho, hex, hd, _, _, _, hf, hn⟩ := hS
  have I2 : Inv X pins σ H1 { s1 with heap := h', toks := tk } := I1.kept fun b o e => hk b o (Heap.lt_size e) e
  have hdl : (ddI ns).length ≤ ns.length := dd_len ns
  have hsb : (4000 : Nat) < scanBound := by unfold scanBound; omega
  exact call_len_set ho hex hd hf (by rw [hn]; have := sizeLine_eq; omega) ⟨.int (ddI ns).length, H1, I2.tok _, ⟨_, by rw [hn]⟩, q1⟩
def gLenSet (r : R) : Res R := match r.d with
  | .lst ds => match intsOf ds with
    | some ns => if ns.length ≤ 4000 then okI ((ddI ns).length : Nat) else .bad
    | none => .bad
  | _ => .bad
def fLenSet (f : FE) : FE := fun ρ => (f ρ).bind gLenSet
section
variable {X : Cx} {W : WK} {a b : Expr} {fa fb : FE} {p p2 q pos pos2 : Pos}
theorem e_lenSet (hc : X.calm = true) (hg : Gl X "len") (hm : X.mg "len" = none) (hg2 : Gl X "set") (hm2 : X.mg "set" = none) (ha : PE X a (rdE W fa)) (na : starEach [a] X.env = (false, eval a X.env) :: starEach [] X.env := by rfl) : PE X (.Call (.Name "len" p) [.Call (.Name "set" p2) [a] [] q] [] pos) (rdE W (fLenSet fa)) :=
  peI (pe_lenSetA hg hm hg2 hm2 ha hc na) fun σ H Q ⟨S0, ρ, F, E, q⟩ => post_bind E q fun r v H1 fp s1 n1 v1 E1 p1 => by
    have z := v1.fz (E.nin n1 _)
    unfold gLenSet at p1
    split at p1
    · rename_i ds e
      split at p1
      · rename_i ns hn
        split at p1
        · rename_i hl
          obtain ⟨l, xs, rfl, ha, lx⟩ := z.lst e
          rw [lx.ofInts hn] at ha
          exact ⟨l, ns, rfl, SqL.of ha, hl, by exact okI_post p1⟩
        · exact p1.elim
      · exact p1.elim
    · exact p1.elim
end
section
variable {S S' : Spec} {fa fb fc : FE} {i : Nat} {ka kb kc kk : Option Nat} {Ea Ca Eb Cb Ec Cc E C : List Nat}
theorem re_lenSet {ns : List Int} (ha : RE S fa ns ka Ea Ca) (h : ns.length ≤ 4000) : RE S (fLenSet fa) ((ddI ns).length : Int) (some 0) [] [] := re_un ha fun ra g1 => by
  obtain ⟨k1, e1, c1, rfl, _⟩ := rd1 g1
  exact ⟨_, by show gLenSet ⟨.lst (ns.map .int), k1, e1, c1⟩ = _; unfold gLenSet; simp only [ints_map]; rw [if_pos h]; rfl, gv0⟩
end
def zLenSet (ns : List Int) : Option Int := if ns.length ≤ 4000 then some ((ddI ns).length : Int) else none
section
variable {S S' : Spec} {fa fb fc : FE} {i : Nat} {ka kb kc kk : Option Nat} {Ea Ca Eb Cb Ec Cc E C : List Nat}
theorem re_zLenSet {ns : List Int} {v : Int} (ha : RE S fa ns ka Ea Ca) (h : zLenSet ns = some v) : RE S (fLenSet fa) v (some 0) [] [] := by
  unfold zLenSet at h
  split at h
  · rename_i hl
    cases h
    exact re_lenSet ha hl
  · cases h
end
theorem re_flatN {α : Type} [Enc α] {S : Spec} {A : FA} {v : α} {ds : List D} {m : Option Nat} {E : List Nat} (hv : enc v = .lst ds) (hl : ds.length ≤ 1000) (h : RA S A ds m E) : RE S (fFlat (fLst A)) v (some 1) E E := fun ρ z => by
  obtain ⟨r, e, a, b, c, d⟩ := re_lstN hv hl h ρ z
  obtain ⟨dd, k, e1, c1⟩ := r
  have a : dd = enc v := a
  subst a
  obtain ⟨rs, e2, a2, b2, c2⟩ := h ρ z
  have hl' : rs.length ≤ 1000 := by have := congrArg List.length a2; rw [List.length_map] at this; omega
  refine ⟨⟨.lst ds, 1, esL rs, esL rs⟩, ?_, hv.symm, fun m z => by cases z; rfl, c2, c2⟩
  show ((A ρ).bind dispL).bind gFlat = _
  rw [e2]
  show (dispL rs).bind gFlat = _
  unfold dispL
  rw [if_pos (by rw [sizeLine_eq]; omega), a2]
  rfl
/-! ### sorted(set(x)), x a list of pairs of ints from 0 to 63 -/
def inB (p : T2 Int Int) : Bool := decide (0 ≤ p.a ∧ p.a < 64 ∧ 0 ≤ p.b ∧ p.b < 64)
def gSortSet (r : R) : Res R := match r.d with
  | .lst ds => match dPairs ds with
    | some ps => if ps.length < 64 ∧ ps.all inB = true then .ok ⟨.lst ((tsort (dd ps)).map enc), 1, [], []⟩ else .bad
    | none => .bad
  | _ => .bad
def fSortSet (f : FE) : FE := fun ρ => (f ρ).bind gSortSet
def adr : V → Addr
  | .ref t => t
  | _ => 0
theorem pairAt_same {H H' : Hp} {t : Addr} {a b : Int} (h : H t = some (.tup [.int a, .int b])) (e : H' t = H t) : pairAt H' (.ref t) = pairAt H (.ref t) := by
  unfold pairAt
  simp only
  rw [e]
theorem code2 (x y : Int) : TS.code 64 [x, y] = x * 64 + y := by
  show x * 64 ^ 1 + (y * 64 ^ 0 + 0) = _
  omega
section
variable {X : Cx} {W : WK} {a b : Expr} {fa fb : FE} {p p2 q pos pos2 : Pos}
theorem e_sortSet (hc : X.calm = true) (hu : X.A.units + 64 < cLine) (hg : Gl X "sorted") (hm : X.mg "sorted" = none) (hg2 : Gl X "set") (hm2 : X.mg "set" = none) (ha : PE X a (rdE W fa)) (na : starEach [a] X.env = (false, eval a X.env) :: starEach [] X.env := by rfl)
    (nb : starEach [.Call (.Name "set" p2) [a] [] q] X.env = (false, eval (.Call (.Name "set" p2) [a] [] q) X.env) :: starEach [] X.env := by rfl) : PE X (.Call (.Name "sorted" p) [.Call (.Name "set" p2) [a] [] q] [] pos) (rdE W (fSortSet fa)) :=
  peI (pe_callB (cr_sortedT hc) hg hm PyProof.Rows.boot_sorted (pa_cons (pe_callTy (cr_setOfT hc hu) hg2 hm2 PyProof.Rows.boot_set (pa_cons ha pa_nil na) (by decide) (by decide) na rfl) pa_nil nb) (by decide) (by decide) nb rfl) fun σ H Q ⟨S0, ρ, F, E, qq⟩ => post_bind E qq fun r v H1 fp s1 n1 v1 E1 p1 => by
    have z := v1.fz (E.nin n1 _)
    unfold gSortSet at p1
    split at p1
    · rename_i ds e
      split at p1
      · rename_i ps hp
        split at p1
        · rename_i hl
          obtain ⟨l, xs, rfl, ha, lx⟩ := z.lst e
          obtain ⟨h1, h2⟩ := dPairs_rp hp lx
          have hxl : xs.length = ps.length := by have := congrArg List.length h2; simpa using this
          have hin : ∀ v ∈ xs, 0 ≤ (pairAt H1 v).1 ∧ (pairAt H1 v).1 < 64 ∧ 0 ≤ (pairAt H1 v).2 ∧ (pairAt H1 v).2 < 64 := fun v hv => by
            have : pairAt H1 v ∈ ps.map fun p => (p.a, p.b) := by rw [← h2]; exact List.mem_map_of_mem hv
            obtain ⟨p, hp, e⟩ := List.mem_map.mp this
            have := List.all_eq_true.mp hl.2 p hp
            unfold inB at this
            rw [← e]
            exact of_decide_eq_true this
          let kf : V → Addr × List Int := fun v => (adr v, [(pairAt H1 v).1, (pairAt H1 v).2])
          have hk : ∀ v ∈ xs, V.ref (kf v).1 = v := fun v hv => by
            obtain ⟨t, rfl, _⟩ := h1 v hv; rfl
          refine ⟨l, xs.map kf, rfl, ?_, ?_, by rw [List.length_map]; omega, ?_⟩
          · rw [List.map_map]
            have : xs.map ((fun p : Addr × List Int => V.ref p.1) ∘ kf) = xs := by
              conv => rhs; rw [← List.map_id xs]
              exact List.map_congr_left hk
            rw [this]; exact SqL.of ha
          · intro p hp
            obtain ⟨v, hv, rfl⟩ := List.mem_map.mp hp
            obtain ⟨t, rfl, ht⟩ := h1 v hv
            exact SqT.of ht
          · intro A L nA hL1 hL2
            have smA : Same H1 (upd H1 A (SetTO X.prog X.w A L)) := same_upd nA
            generalize hH2 : upd H1 A (SetTO X.prog X.w A L) = H2 at smA
            have fL : ∀ p ∈ L, ∃ v ∈ xs, kf v = p := fun p hp => List.mem_map.mp (hL1 p hp)
            refine ⟨A, L, 2, 64, rfl, by rw [← hH2]; exact upd_same, fun p hp => ?_, by decide, fun p hp => ?_, ?_⟩
            · obtain ⟨v, hv, rfl⟩ := fL p hp
              obtain ⟨t, rfl, ht⟩ := h1 v hv
              exact SqT.of (smA _ _ ht)
            · obtain ⟨v, hv, rfl⟩ := fL p hp
              have := hin v hv
              refine ⟨rfl, fun m hm => ?_⟩
              have hm : m ∈ [(pairAt H1 v).1, (pairAt H1 v).2] := hm
              have hm : m = (pairAt H1 v).1 ∨ m = (pairAt H1 v).2 := by simpa using hm
              rcases hm with rfl | rfl <;> omega
            · intro L' B pm nd fw pw nB
              have E2 := E1.grow smA
              have p2 := p1.grow smA
              have fL' : ∀ p ∈ L', ∃ v ∈ xs, kf v = p := fun p hp => fL p (pm.mem_iff.mp hp)
              have hys : ∀ y ∈ L'.map fun q => V.ref q.1, ∃ t, y = V.ref t ∧ H2 t = some (.tup [.int (pairAt H2 y).1, .int (pairAt H2 y).2]) := fun y hy => by
                obtain ⟨p, hp, rfl⟩ := List.mem_map.mp hy
                obtain ⟨v, hv, rfl⟩ := fL' p hp
                obtain ⟨t, rfl, ht⟩ := h1 v hv
                have h2t := smA _ _ ht
                refine ⟨t, rfl, ?_⟩
                show _ = some (HO.tup [.int (pairAt H2 (V.ref t)).1, .int (pairAt H2 (V.ref t)).2])
                rw [pairAt_same ht (h2t.trans ht.symm)]; exact h2t
              have hpa : ∀ p ∈ L', pairAt H2 (V.ref p.1) = (p.2.getD 0 0, p.2.getD 1 0) := fun p hp => by
                obtain ⟨v, hv, rfl⟩ := fL' p hp
                obtain ⟨t, rfl, ht⟩ := h1 v hv
                have h2t := smA _ _ ht
                show pairAt H2 (V.ref t) = _
                rw [pairAt_same ht (h2t.trans ht.symm)]; rfl
              have h2e : ∀ p ∈ L', p.2 = [p.2.getD 0 0, p.2.getD 1 0] := fun p hp => by
                obtain ⟨v, hv, rfl⟩ := fL' p hp; rfl
              refine post_lst E2 p2 (rp_pairs E2 hys ?_) B nB
              let gp : Addr × List Int → T2 Int Int := fun p => ⟨p.2.getD 0 0, p.2.getD 1 0⟩
              have e1 : L'.map gp = tsort (dd ps) := by
                have ndg : (L'.map gp).Nodup := by
                  have : (L'.map (·.2)) = (L'.map gp).map fun t => [t.a, t.b] := by
                    rw [List.map_map]; exact List.map_congr_left h2e
                  rw [this] at nd
                  exact List.Pairwise.imp (fun h e => h (by rw [e])) (List.pairwise_map.mp nd)
                refine tsort_uniq ?_ ?_ (tsort_sorted _)
                · refine List.Perm.trans ?_ (tsort_perm _).symm
                  refine (List.perm_ext_iff_of_nodup ndg (dd_nodup ps)).mpr fun t => ?_
                  rw [dd_mem]
                  constructor
                  · intro ht
                    obtain ⟨p, hp, rfl⟩ := List.mem_map.mp ht
                    obtain ⟨v, hv, rfl⟩ := fL' p hp
                    have : pairAt H1 v ∈ ps.map fun p => (p.a, p.b) := by rw [← h2]; exact List.mem_map_of_mem hv
                    obtain ⟨p, hp, e⟩ := List.mem_map.mp this
                    show (⟨(pairAt H1 v).1, (pairAt H1 v).2⟩ : T2 Int Int) ∈ ps
                    rw [← e]; exact hp
                  · intro ht
                    have : (t.a, t.b) ∈ xs.map (pairAt H1) := by rw [h2]; exact List.mem_map.mpr ⟨t, ht, rfl⟩
                    obtain ⟨v, hv, e⟩ := List.mem_map.mp this
                    have := hL2 (kf v) (List.mem_map_of_mem hv)
                    obtain ⟨p, hp, ep⟩ := List.mem_map.mp this
                    refine List.mem_map.mpr ⟨p, pm.mem_iff.mpr hp, ?_⟩
                    show (⟨p.2.getD 0 0, p.2.getD 1 0⟩ : T2 Int Int) = t
                    rw [ep]
                    show (⟨(pairAt H1 v).1, (pairAt H1 v).2⟩ : T2 Int Int) = t
                    rw [e]
                · unfold TSrt
                  rw [List.pairwise_map]
                  refine List.Pairwise.imp_of_mem (fun {x y} hx hy h => ?_) pw
                  have hx2 := h2e x hx
                  have hy2 := h2e y hy
                  rw [hx2, hy2, code2, code2] at h
                  have bx : 0 ≤ x.2.getD 0 0 ∧ x.2.getD 0 0 < 64 ∧ 0 ≤ x.2.getD 1 0 ∧ x.2.getD 1 0 < 64 := by obtain ⟨v, hv, rfl⟩ := fL' x hx; exact hin v hv
                  have by' : 0 ≤ y.2.getD 0 0 ∧ y.2.getD 0 0 < 64 ∧ 0 ≤ y.2.getD 1 0 ∧ y.2.getD 1 0 < 64 := by obtain ⟨v, hv, rfl⟩ := fL' y hy; exact hin v hv
                  rw [tlt_no]
                  show ¬ (y.2.getD 0 0 < x.2.getD 0 0 ∨ (y.2.getD 0 0 = x.2.getD 0 0 ∧ y.2.getD 1 0 < x.2.getD 1 0))
                  omega
              rw [← e1, List.map_map, List.map_map]
              exact List.map_congr_left hpa
        · exact p1.elim
      · exact p1.elim
    · exact p1.elim
end
theorem u64 {A : Around} (h : A.units + 65 < cLine) : A.units + 64 < cLine := by omega
def zSortSet (ps : List (T2 Int Int)) : Option (List (T2 Int Int)) := if ps.length < 64 ∧ ps.all inB = true then some (tsort (dd ps)) else none
section
variable {S S' : Spec} {fa fb fc : FE} {i : Nat} {ka kb kc kk : Option Nat} {Ea Ca Eb Cb Ec Cc E C : List Nat}
theorem re_zSortSet {ps v : List (T2 Int Int)} (ha : RE S fa ps ka Ea Ca) (h : zSortSet ps = some v) : RE S (fSortSet fa) v (some 1) [] [] := by
  unfold zSortSet at h
  split at h
  · rename_i hl
    cases h
    refine re_un ha fun ra g1 => ?_
    obtain ⟨k1, e1, c1, rfl, _⟩ := rd1 g1
    refine ⟨⟨.lst ((tsort (dd ps)).map enc), 1, [], []⟩, ?_, rfl, fun m q => by cases q; rfl, fun j hj => (by cases hj), fun j hj => (by cases hj)⟩
    show gSortSet ⟨.lst (ps.map enc), k1, e1, c1⟩ = _
    unfold gSortSet
    simp only [dPairs_enc]
    rw [if_pos hl]
  · cases h
end
/-! ### x[j] = v, v a list of one's own -/
def storeOutO (i : Nat) (r q : R) (ρ : Ev) : Out := match ρ[i]?, q.d with
  | some (some (.lst ds, k + 1)), .int z => match ixN ds.length z with
    | some j => if i ∈ r.e then .bad else if keepK k r then .nx ((frzL r.e ρ).set i (some (.lst (ds.set j r.d), k + 1))) else .bad
    | none => .bad
  | _, _ => .bad
def sStoreO (i : Nat) (fi f : FE) : FS := ownL i (stE f fun r => stE fi fun q => storeOutO i r q)
section
variable {X : Cx} {W : WK} {e ei : Expr} {fe fi : FE} {pos spos npos : Pos} {x : Str}
theorem s_storeO (i : Nat) (he : PE X e (rdE W fe)) (hp : PS X (.Assign [.Subscript (.Name x npos) ei spos] e pos) (tAsg (rdE W fe) (L2.gSub (tVar i) (rdE W fi) rSetL))) : PS X (.Assign [.Subscript (.Name x npos) ei spos] e pos) (rdS W (sStoreO i fi fe)) := by
  refine psI hp fun Dn σ H ⟨S0, H0, ρ, F, E, p⟩ => ?_
  obtain ⟨⟨ds, k, hi⟩, p⟩ := ownL_ok p
  obtain ⟨a, xs, fq, hv, ha, al, ef, nd⟩ := E.list hi
  refine ps_bind E p fun r v H1 fp s n vr E1 p1 => ⟨.ref a, hv, ps_bind E1 p1 fun q w H2 fp2 s2 n2 vq E2 p2 => ?_⟩
  have hl := al.length
  have aF : a ∈ F i := by rw [ef]; exact List.mem_cons_self
  have fqF : ∀ b ∈ fq, b ∈ F i := fun b hb => by rw [ef]; exact List.mem_cons_of_mem _ hb
  unfold storeOutO at p2
  rw [hi] at p2
  split at p2
  · rename_i ds' k' z e1 e2
    cases e1
    split at p2
    · rename_i j hj
      have zq := (vq.fz (E1.ee.nin n2 _)).int e2
      have s12 := s.trans s2
      split at p2
      · exact p2.elim
      · rename_i nie
        refine ⟨a, xs, z, j, rfl, zq, s12 _ _ ha, by rw [← hl]; exact hj, ?_⟩
        have hjl : j < ds.length := by
          have := (ixN_seq hj).2.1
          exact this
        have aS : inS S0 F r.e a := .inr ⟨i, nie, aF⟩
        split at p2
        · rename_i hk
          have hk1 : scal r.d = true ∨ r.k = k := by
            unfold keepK at hk
            simp only [Bool.and_eq_true, Bool.or_eq_true, beq_iff_eq] at hk
            exact hk.2
          have nfp : ∀ b ∈ fp, b ≠ a ∧ b ∉ fq := fun b hb => by
            have nb := n b hb
            refine ⟨fun z => (by rw [z, ha] at nb; cases nb), fun z => ?_⟩
            obtain ⟨o, q, _⟩ := E.ee.trk i b (fqF b z)
            rw [nb] at q; cases q
          obtain ⟨y, f, hy, py, hf, go⟩ := al.at (List.getElem?_eq_getElem hjl)
          have kp : ∀ b o, b ≠ a → H b = some o → upd H2 a (.lst (xs.set j v)) b = some o := fun b o hb q => by rw [upd_ne hb]; exact s12 _ _ q
          have kp1 : ∀ b o, b ≠ a → H1 b = some o → upd H2 a (.lst (xs.set j v)) b = some o := fun b o hb q => by rw [upd_ne hb]; exact s2 _ _ q
          have ow : Ow (fun b => inS S0 F (i :: r.e) b ∨ b ∈ a :: (fq ++ fp)) (upd H2 a (.lst (xs.set j v))) r.k r.d v fp := by
            refine Ow.imp (fun b o q nn => ⟨kp1 b o (fun z => nn (.inl (z ▸ aS))) q, fun z => ?_⟩) _ _ _ _ (fun b o hb q => kp1 b o (nfp b hb).1 q) vr.ow
            rcases z with z | z
            · exact nn (.inl (inS_mono (fun j h => List.mem_cons_of_mem _ h) z))
            · rcases List.mem_cons.mp z with z | z
              · exact nn (.inl (z ▸ aS))
              · rcases List.mem_append.mp z with z | z
                · exact nn (.inl (.inr ⟨i, nie, fqF b z⟩))
                · exact nn (.inr z)
          have rv : Ow (fun b => inS S0 F (i :: r.e) b ∨ b ∈ a :: (fq ++ fp)) (upd H2 a (.lst (xs.set j v))) k r.d v fp := by
            rcases hk1 with z | z
            · obtain ⟨o2, e2⟩ := scal_ow (S' := fun b => inS S0 F (i :: r.e) b ∨ b ∈ a :: (fq ++ fp)) (H' := upd H2 a (.lst (xs.set j v))) z ow k
              have e3 : fp = [] := e2
              rw [e3] at o2 ⊢
              exact o2
            · rw [← z]; exact ow
          obtain ⟨F', E'⟩ : ∃ F', ER S0 H0 ((frzL r.e ρ).set i (some (.lst (ds.set j r.d), k + 1))) σ (upd H2 a (.lst (xs.set j v))) F' := by
            have himp : ∀ (d : D) (w : V) (g : List Addr), (∀ b ∈ g, b ∈ fq) → (∀ b ∈ g, b ∉ f) → Ow (inS S0 F []) H k d w g → Ow (fun b => inS S0 F (i :: r.e) b ∨ b ∈ a :: (fq ++ fp)) (upd H2 a (.lst (xs.set j v))) k d w g := fun d w g hg _ po => by
              refine Ow.imp (fun b o q nn => ⟨kp b o (fun z => nn (z ▸ (.inr ⟨i, by simp, aF⟩))) q, fun z => ?_⟩) k d w g (fun b o hb q => kp b o (fun z => nd (z ▸ hg b hb)) q) po
              rcases z with z | z
              · exact nn (inS_sub z)
              · rcases List.mem_cons.mp z with z | z
                · exact nn (z ▸ .inr ⟨i, by simp, aF⟩)
                · rcases List.mem_append.mp z with z | z
                  · exact nn (.inr ⟨i, by simp, fqF b z⟩)
                  · rw [n b z] at q; cases q
            obtain ⟨fq', al', hfq'⟩ := go (Ow (fun b => inS S0 F (i :: r.e) b ∨ b ∈ a :: (fq ++ fp)) (upd H2 a (.lst (xs.set j v))) k) r.d v fp himp rv (fun b hb => .inr (nfp b hb).2)
            have sub : ∀ b ∈ fq', b ∈ fp ∨ b ∈ fq := fun b hb => (hfq' b hb).imp id fun z => z.1
            refine ⟨_, E.mutate (d' := .lst (ds.set j r.d)) (k' := k + 1) (fp' := a :: fq') (o' := .lst (xs.set j v)) hi hv nie s12 aF trivial (fun b hb => ?_) ?_⟩
            · rcases List.mem_cons.mp hb with z | z
              · exact .inl (z ▸ aF)
              · exact (sub b z).elim (fun z => .inr (n b z)) fun z => .inl (fqF b z)
            · refine ⟨a, xs.set j v, fq', rfl, upd_same, ?_, rfl, fun z => (sub a z).elim (fun z => (nfp a z).1 rfl) nd⟩
              refine al'.imp fun d w g hg po => Ow.imp (fun b o q nn => ⟨q, fun z => nn (z.imp id fun z => ?_)⟩) k d w g (fun _ _ _ q => q) po
              rcases List.mem_cons.mp z with z | z
              · rw [z]; exact List.mem_cons_self
              · exact List.mem_cons_of_mem _ (List.mem_append.mpr ((sub b z).symm))
          exact p2 _ _ _ E'
        · exact p2.elim
    · exact p2.elim
  · exact p2.elim
end
section
variable {α : Type} [Enc α] {S S' : Spec} {fe fi : FE} {i : Nat} {kk k1 : Option Nat} {E C E1 C1 : List Nat}
theorem sp_storeO {xs ys : List α} {v : α} {n : Int} {k : Nat} (hx : S[i]? = some (some (enc xs, some (k + 2)))) (h : RE S fe v (some (k + 1)) E C) (hn : RE S fi n k1 E1 C1) (hi : i ∉ E) (ht : zStore xs n v = some ys) (hS : (frzS E S).set i (some (enc ys, some (k + 2))) = S') : SpS S (sStoreO i fi fe) (Pnx S') := fun ρ z => by
  obtain ⟨k0, e0, hk0⟩ := z.2 i _ hx
  have hk0 : k0 = k + 2 := hk0 _ rfl
  subst hk0
  obtain ⟨r, e, a, b, c, _⟩ := h ρ z
  obtain ⟨q, e', g⟩ := hn ρ z
  obtain ⟨kq, eq, cq, rfl, _⟩ := rd1 g
  obtain ⟨j, hj, ht⟩ := bnd ht
  cases ht
  have e0 : ρ[i]? = some (some (.lst (xs.map enc), k + 2)) := e0
  have hj' : ixN (xs.map enc).length n = some j := by rw [List.length_map]; exact hj
  have rk : r.k = k + 1 := b _ rfl
  have fin : sStoreO i fi fe ρ = .nx ((frzL r.e ρ).set i (some (.lst ((xs.map enc).set j r.d), k + 2))) := by
    unfold sStoreO ownL stE
    rw [e0, e]
    show (match fi ρ with | .ok q => storeOutO i r q ρ | .exn x => _ | .bad => _) = _
    rw [e']
    show storeOutO i r ⟨.int n, kq, eq, cq⟩ ρ = _
    unfold storeOutO
    rw [e0]
    simp only
    rw [hj']
    simp only
    rw [if_neg fun q => hi (c i q), if_pos (by unfold keepK; rw [rk]; simp)]
  refine ⟨_, fin, ?_⟩
  rw [← hS, a, map_set']
  exact (z.frz c).set i fun m q => by cases q; rfl
end
/-! ### return None, where lists of one's own are returned as well -/
def sRetNK (m : Nat) : FS := fun _ => .rt .non m
theorem ow_non {S : PA1} {H : Hp} : ∀ m, Ow S H m .non .non []
  | 0 => ⟨rfl, rfl⟩
  | _ + 1 => ⟨rfl, rfl⟩
section
variable {X : Cx} {W : WK} {e : Expr} {pos : Pos}
theorem s_retNK (m : Nat) : PS X (.Return none pos) (rdS W (sRetNK m)) := psI ps_retN fun Dn σ H ⟨S0, H0, ρ, F, E, p⟩ => p .non H [] E.same (fun a ha => by cases ha) (ow_non m)
theorem s_retNKc (m : Nat) (he : PE X e (rdE W (fC .non))) : PS X (.Return (some e) pos) (rdS W (sRetNK m)) :=
  psI (ps_ret he) fun Dn σ H ⟨S0, H0, ρ, F, E, p⟩ => ⟨S0, ρ, F, E.ee, fun v H' fp s n vr => by
    have hv : v = .non := vr.ow.1
    subst hv
    exact p .non H' [] (E.same.trans s) (fun a ha => by cases ha) (ow_non m)⟩
end
theorem sp_retNK {S : Spec} {m : Nat} : SpS S (sRetNK m) (Prt () (some m)) := fun ρ z => ⟨m, rfl, fun k q => by cases q; rfl⟩
theorem hx_opt {α : Type} [Enc α] {S : Spec} {i : Nat} {o : Option α} {v : α} {kk : Option Nat} (h : o = some v) (e : S[i]? = some (some (enc o, kk))) : S[i]? = some (some (enc v, kk)) := by subst h; exact e
end PyL

namespace PyL
open PySem PySem.Spec L2
open Enc (enc)
set_option autoImplicit false
/-! ### list comprehensions with two for -/
def compL2 (tg : FG) (it1 : FI) (tg1 : FG) (tt1 : FT) (te : FE) (vs1 : List Nat) (ρ : Ev) : List D → Res (List R)
  | [] => .ok []
  | d :: ds => match tg d ρ with
    | none => .bad
    | some ρ2 => (noX (it1 ρ2)).bind fun s => if s.c.isEmpty = true then (compL tg1 tt1 te (wipeE ρ2 vs1) s.ds).bind fun r1 => (compL2 tg it1 tg1 tt1 te vs1 ρ ds).bind fun rs => .ok (r1 ++ rs) else .bad
def fComp2 (dep : Nat) (it : FI) (tg : FG) (it1 : FI) (tg1 : FG) (tt1 : FT) (te : FE) (vs vs1 : List Nat) : FE := fun ρ => (it ρ).bind fun s => (compL2 tg it1 tg1 tt1 te vs1 (wipeE (frzL s.c ρ) vs) s.ds).bind (dispC dep s.c)
theorem EE.turn {S0 S1 : PA1} {ρ : Ev} {σ : St} {H H' : Hp} {F : FP} (E : EE S0 ρ σ H F) (k : ∀ b o, H b = some o → ¬ S0 b → H' b = some o) (h1 : ∀ a, S1 a → S0 a ∨ H a = none) (h2 : ∀ a, S1 a → TrM H' a) : EE S1 ρ σ H' F where
  len := E.len
  rep := fun i d k' h => by
    obtain ⟨v, e, o⟩ := E.rep i d k' h
    refine ⟨v, e, Ow.imp (fun b o q n => ⟨k b o q fun z => n (.inl z), fun z => n ?_⟩) k' d v _ (fun b o hb q => k b o q (E.apart i b hb)) o⟩
    rcases z with z | z
    · rcases h1 b z with z | z
      · exact .inl z
      · rw [z] at q; cases q
    · exact .inr z
  disj := E.disj
  trk := fun i a h => by
    obtain ⟨o, q, t⟩ := E.trk i a h
    exact ⟨o, k a o q (E.apart i a h), t⟩
  out := h2
  apart := fun i a h z => by
    rcases h1 a z with z | z
    · exact E.apart i a h z
    · obtain ⟨o, q, _⟩ := E.trk i a h
      rw [z] at q; cases q
/-- the inner loop -/
theorem comp_loopI {S0 S1 : PA1} {ρ2 : Ev} {F' F2 : FP} {σ2 : St} {H1 H4 : Hp} {e1 : List Nat} {J1 : L2.It} {ds1 : List D} {tg1 : FG} {tt1 : FT} {te : FE} {vs1 : List Nat} {done r1 : List R} {acc0 : List V} {fp0 : List Addr} {Dp : Addr} {Nx : Hp → Prop} (E : EE S1 ρ2 σ2 H4 F2) (j1 : JOk (inS S1 F2 e1) (inS S1 F2 []) J1 ds1 H4)
    (hc : compL tg1 tt1 te (wipeE ρ2 vs1) ds1 = .ok r1) (hz : done.length + r1.length ≤ sizeLine) (sm : Same H1 H4) (hD : H4 Dp = some (.lst acc0)) (nD : H1 Dp = none) (nDf : Dp ∉ fp0) (nfp : ∀ a ∈ fp0, H1 a = none) (vl : VRO S0 F' (Dp :: fp0) H4 done acc0 fp0)
    (hS1 : ∀ e a, inS S0 F' e a → inS S1 F2 e a) (hD1 : ∀ a ∈ Dp :: fp0, S1 a)
    (hN : ∀ H' acc fp, Same H1 H' → H' Dp = some (.lst acc) → Dp ∉ fp → (∀ a ∈ fp, H1 a = none) → VRO S0 F' (Dp :: fp) H' (done ++ r1) acc fp → Nx H') :
    ∃ W1 : Nat → Nat → Hp → Prop, (∃ m, W1 0 m H4) ∧ ∀ j k H, W1 j k H →
      (J1.stop j H ∧ Nx H) ∨ (J1.go j H ∧ ∃ Nx1 : Hp → Prop, (∀ H', Nx1 H' → ∃ k', k' < k ∧ W1 (j + 1) k' H') ∧ ∀ x H', J1.yld j H x H' → rdG vs1 tg1 x (L2.wipe σ2 vs1) H' fun σ3 H5 => L2.wipe σ3 vs1 = L2.wipe σ2 vs1 ∧ rdT W0 tt1 σ3 H5 fun b H6 =>
        if b = true then rdE W0 te σ3 H6 fun y H7 => ∃ acc, H7 Dp = some (.lst acc) ∧ acc.length < sizeLine ∧ Nx1 (upd H7 Dp (.lst (acc ++ [y]))) else Nx1 H6) := by
  refine ⟨fun j k H => k = ds1.length - j ∧ j ≤ ds1.length ∧ (∀ b o, b ≠ Dp → H4 b = some o → H b = some o) ∧ ∃ d1 left acc fpn, r1 = d1 ++ left ∧ compL tg1 tt1 te (wipeE ρ2 vs1) (ds1.drop j) = .ok left ∧ H Dp = some (.lst acc) ∧ Dp ∉ fpn ∧ (∀ a ∈ fpn, H4 a = none) ∧ VRO S0 F' (Dp :: (fp0 ++ fpn)) H (done ++ d1) acc (fp0 ++ fpn),
    ⟨ds1.length, by simp, Nat.zero_le _, fun _ _ _ q => q, [], r1, acc0, [], rfl, hc, hD, by simp, by simp, by simpa using vl⟩, ?_⟩
  rintro j k H ⟨rfl, hi, kp, d1, left, acc, fpn, ers, hl, hD0, nDn, nfn, vl0⟩
  have SD : S1 Dp := hD1 Dp List.mem_cons_self
  have ks : KeepS (inS S1 F2 e1) H4 H := fun b o q n => kp b o (fun z => n (.inl (z ▸ SD))) q
  obtain ⟨j2, j3⟩ := j1 H ks j
  by_cases hlt : j < ds1.length
  · refine .inr ⟨(j3 _ (List.getElem?_eq_getElem hlt)).1, fun H' => (∀ b o, b ≠ Dp → H4 b = some o → H' b = some o) ∧ ∃ d1 left acc fpn, r1 = d1 ++ left ∧ compL tg1 tt1 te (wipeE ρ2 vs1) (ds1.drop (j + 1)) = .ok left ∧ H' Dp = some (.lst acc) ∧ Dp ∉ fpn ∧ (∀ a ∈ fpn, H4 a = none) ∧ VRO S0 F' (Dp :: (fp0 ++ fpn)) H' (done ++ d1) acc (fp0 ++ fpn),
      fun H' h => ⟨ds1.length - (j + 1), by omega, rfl, hlt, h⟩, fun x H' y => ?_⟩
    obtain ⟨s2, rx⟩ := (j3 _ (List.getElem?_eq_getElem hlt)).2 x H' y
    rw [List.drop_eq_getElem_cons hlt] at hl
    unfold compL at hl
    have hD2 : H' Dp = some (.lst acc) := s2 _ _ hD0
    have vl2 : VRO S0 F' (Dp :: (fp0 ++ fpn)) H' (done ++ d1) acc (fp0 ++ fpn) := vl0.imp (fun _ _ _ q n => ⟨s2 _ _ q, n⟩) fun _ _ _ q => s2 _ _ q
    have kp2 : ∀ b o, b ≠ Dp → H4 b = some o → H' b = some o := fun b o h q => s2 _ _ (kp b o h q)
    have keepOut : ∀ a, S1 a → TrM H' a := fun a h => by
      obtain ⟨o, q, t⟩ := E.out a h
      by_cases z : a = Dp
      · rw [z]; exact ⟨_, hD2, trivial⟩
      · exact ⟨o, kp2 a o z q, t⟩
    have E2 : EE (fun a => S1 a ∨ a ∈ fpn) ρ2 σ2 H' F2 := E.turn (fun b o q n => kp2 b o (fun z => n (z ▸ SD)) q) (fun a h => h.elim .inl fun h => .inr (nfn a h)) fun a h => h.elim (keepOut a) fun h => vl2.there a (List.mem_append_right _ h)
    have E3 := E2.wipe vs1
    have rx3 : Rp (inS (fun a => (S1 a ∨ a ∈ fpn) ∨ ∃ i ∈ vs1, a ∈ F2 i) (cutF vs1 F2) []) H' ds1[j] x := by
      refine rx _ (fun b o q n => ⟨kp b o (fun z => n (.inl (z ▸ SD))) q, fun z => ?_⟩) fun b z => ?_
      · rcases z with ((z | z) | ⟨i, _, z⟩) | ⟨i, _, z⟩
        · exact n (.inl z)
        · have := nfn b z; rw [this] at q; cases q
        · exact n (.inr ⟨i, by simp, z⟩)
        · exact n (.inr ⟨i, by simp, (cutF_mem.mp z).2⟩)
      · have E2H : EE (fun a => S1 a ∨ a ∈ fpn) ρ2 σ2 H F2 := E.turn (fun b o q n => kp b o (fun z => n (z ▸ SD)) q) (fun a h => h.elim .inl fun h => .inr (nfn a h)) fun a h => h.elim (fun h => by
          obtain ⟨o, q, t⟩ := E.out a h
          by_cases z : a = Dp
          · rw [z]; exact ⟨_, hD0, trivial⟩
          · exact ⟨o, kp a o z q, t⟩) fun h => vl0.there a (List.mem_append_right _ h)
        obtain ⟨o, ho, _⟩ := (E2H.wipe vs1).inTr z
        exact ⟨o, ho⟩
    cases ht : tg1 ds1[j] (wipeE ρ2 vs1) with
    | none => rw [ht] at hl; cases hl
    | some ρ3 =>
      rw [ht] at hl
      simp only at hl
      refine ⟨_, _, _, ds1[j], E3, fun k hk => by simp [cutF, hk], rx3, ρ3, ht, fun σ3 E4 hl2 ha2 => ⟨(wipe_same hl2 ha2).trans wipe_wipe, ?_⟩⟩
      refine ⟨_, ρ3, _, E4, ?_⟩
      cases hb : tt1 ρ3 with
      | bad => rw [hb] at hl; cases hl
      | exn _ => rw [hb] at hl; cases hl
      | ok b =>
        intro H6 s3
        rw [hb] at hl
        have hl : (if b = true then (noX (te ρ3)).bind fun r => (compL tg1 tt1 te (wipeE ρ2 vs1) (ds1.drop (j + 1))).bind fun rs => .ok (r :: rs) else compL tg1 tt1 te (wipeE ρ2 vs1) (ds1.drop (j + 1))) = .ok left := hl
        cases b with
        | false =>
          rw [if_neg Bool.false_ne_true] at hl ⊢
          exact ⟨fun b o h q => s3 _ _ (kp2 b o h q), d1, left, acc, fpn, ers, hl, s3 _ _ hD2, nDn, nfn, vl2.imp (fun _ _ _ q n => ⟨s3 _ _ q, n⟩) fun _ _ _ q => s3 _ _ q⟩
        | true =>
          rw [if_pos rfl] at hl ⊢
          have E5 := E4.grow s3
          refine ⟨_, ρ3, _, E5, ?_⟩
          cases he : te ρ3 with
          | bad => rw [he] at hl; cases hl
          | exn _ => rw [he] at hl; cases hl
          | ok r =>
            intro y H7 f s4 nf vy
            rw [he] at hl
            have hl : (compL tg1 tt1 te (wipeE ρ2 vs1) (ds1.drop (j + 1))).bind (fun rs => .ok (r :: rs)) = .ok left := hl
            cases hr : compL tg1 tt1 te (wipeE ρ2 vs1) (ds1.drop (j + 1)) with
            | bad => rw [hr] at hl; cases hl
            | exn _ => rw [hr] at hl; cases hl
            | ok left' =>
              rw [hr] at hl
              cases hl
              have sm4 : Same H' H7 := s3.trans s4
              have hD4 : H7 Dp = some (.lst acc) := sm4 _ _ hD2
              have nfH : ∀ a ∈ f, H' a = none := fun a ha => s3.free (nf a ha)
              have nDf' : Dp ∉ f := fun z => by have := nfH Dp z; rw [hD2] at this; cases this
              have nf4 : ∀ a ∈ f, H4 a = none := fun a ha => by
                cases q : H4 a with
                | none => rfl
                | some o =>
                  have := nfH a ha
                  rw [kp2 a o (fun z => nDf' (z ▸ ha)) q] at this; cases this
              have fpf : ∀ a ∈ fp0 ++ fpn, a ∉ f := fun a ha z => by
                obtain ⟨o, ho, _⟩ := vl2.there a ha
                have := nfH a z
                rw [ho] at this; cases this
              have lenA : acc.length = done.length + d1.length := by rw [vl2.length, List.length_append]
              refine ⟨acc, hD4, ?_, ?_⟩
              · rw [lenA]
                rw [ers] at hz
                simp at hz
                omega
              · have su : ∀ b o, b ≠ Dp → H7 b = some o → upd H7 Dp (.lst (acc ++ [y])) b = some o := fun b o hb q => by rw [upd_ne hb]; exact q
                have nDa : Dp ∉ fp0 ++ fpn := fun z => (List.mem_append.mp z).elim nDf nDn
                refine ⟨fun b o h q => su b o h (sm4 _ _ (kp2 b o h q)), d1 ++ [r], left', acc ++ [y], fpn ++ f, by rw [ers]; simp, rfl, upd_same, by simp [nDn, nDf'], fun a ha => (List.mem_append.mp ha).elim (nfn a) (nf4 a), ?_⟩
                rw [← List.append_assoc, ← List.append_assoc]
                have neD : ∀ a ∈ fp0 ++ fpn, a ≠ Dp := fun a ha z => nDa (z ▸ ha)
                refine VRO.snoc ?_ (vl2.imp (fun e b o q n => ⟨su b o (fun z => n (.inr (by rw [z]; exact List.mem_cons_self))) (sm4 _ _ q), fun z => n ?_⟩) fun b o hb q => su b o (neD b hb) (sm4 _ _ q)) fpf
                · refine Ow.imp (fun b o q n => ⟨su b o (fun z => n (.inl (.inl (.inl (.inl (z ▸ SD)))))) q, fun z => n ?_⟩) _ _ _ _ (fun b o hb q => su b o (fun z => nDf' (z ▸ hb)) q) vy.ow
                  rcases z with z | z
                  · exact .inl (inS_wipe ((hS1 _ _ z).elim (fun z => .inl (.inl z)) .inr))
                  · rcases List.mem_cons.mp z with z | z
                    · exact .inl (.inl (.inl (.inl (z ▸ SD))))
                    · rcases List.mem_append.mp z with z | z
                      · rcases List.mem_append.mp z with z | z
                        · exact .inl (.inl (.inl (.inl (hD1 b (List.mem_cons_of_mem _ z)))))
                        · exact .inl (.inl (.inl (.inr z)))
                      · exact .inr z
                · rcases z with z | z
                  · exact .inl z
                  · rcases List.mem_cons.mp z with z | z
                    · exact .inr (by rw [z]; exact List.mem_cons_self)
                    · rcases List.mem_append.mp z with z | z
                      · exact .inr (List.mem_cons_of_mem _ z)
                      · have := nfH b z
                        rw [q] at this; cases this
  · have e : j = ds1.length := by omega
    subst e
    rw [List.drop_length] at hl
    cases hl
    rw [List.append_nil] at ers
    subst ers
    have sm' : Same H1 H := fun b o q => kp b o (ne_of_none q nD) (sm _ _ q)
    exact .inl ⟨j2 (Nat.le_refl _), hN H acc (fp0 ++ fpn) sm' hD0 (fun z => (List.mem_append.mp z).elim nDf nDn) (fun a ha => (List.mem_append.mp ha).elim (nfp a) fun z => sm.free (nfn a z)) vl0⟩
/-- the loop of a comprehension with two for -/
theorem comp_loop2 {S0 : PA1} {ρ : Ev} {F : FP} {σ : St} {H1 : Hp} {c e : List Nat} {J : L2.It} {ds : List D} {tg tg1 : FG} {it1 : FI} {tt1 : FT} {te : FE} {vs vs1 : List Nat} {rs : List R} {Qd : Addr → Hp → Prop} (E : EE S0 ρ σ H1 F) (j : JOk (inS S0 F e) (inS S0 F c) J ds H1)
    (hc : compL2 tg it1 tg1 tt1 te vs1 (wipeE (frzL c ρ) vs) ds = .ok rs) (hz : rs.length ≤ sizeLine) (hq : ∀ Dp H acc fp, Same H1 H → H1 Dp = none → (∀ a ∈ fp, H1 a = none) → H Dp = some (.lst acc) → Dp ∉ fp → VRO S0 (cutF c F) (Dp :: fp) H rs acc fp → Qd Dp H) (Dp : Addr) (nD : H1 Dp = none) :
    ∃ W : Nat → Nat → Hp → Prop, (∃ m, W 0 m (upd H1 Dp (.lst []))) ∧ ∀ i m H, W i m H →
      (J.stop i H ∧ Qd Dp H) ∨ (J.go i H ∧ ∃ Nx : Hp → Prop, (∀ H', Nx H' → ∃ m', m' < m ∧ W (i + 1) m' H') ∧ ∀ x H', J.yld i H x H' → rdG vs tg x (L2.wipe σ vs) H' fun σ2 H2 => L2.wipe σ2 vs = L2.wipe σ vs ∧ rdT W0 fYes σ2 H2 fun b H3 =>
        if b = true then rdI W0 it1 σ2 H3 fun J1 H4 => ∃ W1 : Nat → Nat → Hp → Prop, (∃ m, W1 0 m H4) ∧ ∀ j k H, W1 j k H →
          (J1.stop j H ∧ Nx H) ∨ (J1.go j H ∧ ∃ Nx1 : Hp → Prop, (∀ H', Nx1 H' → ∃ k', k' < k ∧ W1 (j + 1) k' H') ∧ ∀ x H', J1.yld j H x H' → rdG vs1 tg1 x (L2.wipe σ2 vs1) H' fun σ3 H5 => L2.wipe σ3 vs1 = L2.wipe σ2 vs1 ∧ rdT W0 tt1 σ3 H5 fun b H6 =>
            if b = true then rdE W0 te σ3 H6 fun y H7 => ∃ acc, H7 Dp = some (.lst acc) ∧ acc.length < sizeLine ∧ Nx1 (upd H7 Dp (.lst (acc ++ [y]))) else Nx1 H6)
        else Nx H3) := by
  have E1 : EE S0 (frzL c ρ) σ H1 (cutF c F) := E.frzL c
  refine ⟨fun i m H => m = ds.length - i ∧ i ≤ ds.length ∧ Same H1 H ∧ ∃ done left acc fp, rs = done ++ left ∧ compL2 tg it1 tg1 tt1 te vs1 (wipeE (frzL c ρ) vs) (ds.drop i) = .ok left ∧ H Dp = some (.lst acc) ∧ Dp ∉ fp ∧ (∀ a ∈ fp, H1 a = none) ∧ VRO S0 (cutF c F) (Dp :: fp) H done acc fp,
    ⟨ds.length, by simp, Nat.zero_le _, same_upd nD, [], rs, [], [], rfl, hc, upd_same, by simp, by simp, ⟨rfl, rfl⟩⟩, ?_⟩
  rintro i m H ⟨rfl, hi, sm, done, left, acc, fp, ers, hl, hD, nDf, nfp, vl⟩
  obtain ⟨j1, j2⟩ := j H (KeepS.of sm) i
  by_cases hlt : i < ds.length
  · refine .inr ⟨(j2 _ (List.getElem?_eq_getElem hlt)).1, fun H' => Same H1 H' ∧ ∃ done left acc fp, rs = done ++ left ∧ compL2 tg it1 tg1 tt1 te vs1 (wipeE (frzL c ρ) vs) (ds.drop (i + 1)) = .ok left ∧ H' Dp = some (.lst acc) ∧ Dp ∉ fp ∧ (∀ a ∈ fp, H1 a = none) ∧ VRO S0 (cutF c F) (Dp :: fp) H' done acc fp,
      fun H' h => ⟨ds.length - (i + 1), by omega, rfl, hlt, h⟩, fun x H' y => ?_⟩
    obtain ⟨s2, rx⟩ := (j2 _ (List.getElem?_eq_getElem hlt)).2 x H' y
    rw [List.drop_eq_getElem_cons hlt] at hl
    unfold compL2 at hl
    have sm2 : Same H1 H' := sm.trans s2
    have hD2 : H' Dp = some (.lst acc) := s2 _ _ hD
    have vl2 : VRO S0 (cutF c F) (Dp :: fp) H' done acc fp := vl.imp (fun _ _ _ q n => ⟨s2 _ _ q, n⟩) fun _ _ _ q => s2 _ _ q
    have E2 : EE (fun a => S0 a ∨ a ∈ Dp :: fp) (frzL c ρ) σ H' (cutF c F) := E1.ext sm2 (fun a h => h.elim .inl fun h => .inr ((List.mem_cons.mp h).elim (fun z => z ▸ nD) (nfp a))) fun a h => h.elim (fun h => (E1.out a h).grow sm2) fun h => (List.mem_cons.mp h).elim (fun z => z ▸ ⟨_, hD2, trivial⟩) (vl2.there a)
    have E3 := E2.wipe vs
    have rx3 : Rp (inS (fun a => (S0 a ∨ a ∈ Dp :: fp) ∨ ∃ i ∈ vs, a ∈ cutF c F i) (cutF vs (cutF c F)) []) H' ds[i] x := by
      refine rx _ (fun b o q n => ⟨sm _ _ q, fun z => ?_⟩) fun b z => ?_
      · rcases z with ((z | z) | ⟨k, _, z⟩) | ⟨k, _, z⟩
        · exact n (.inl z)
        · rcases List.mem_cons.mp z with z | z
          · exact ne_of_none q nD z
          · exact ne_of_none q (nfp b z) rfl
        · obtain ⟨z1, z2⟩ := cutF_mem.mp z
          exact n (.inr ⟨k, z1, z2⟩)
        · obtain ⟨z1, z2⟩ := cutF_mem.mp (cutF_mem.mp z).2
          exact n (.inr ⟨k, z1, z2⟩)
      · have E2H : EE (fun a => S0 a ∨ a ∈ Dp :: fp) (frzL c ρ) σ H (cutF c F) := E1.ext sm (fun a h => h.elim .inl fun h => .inr ((List.mem_cons.mp h).elim (fun z => z ▸ nD) (nfp a))) fun a h => h.elim (fun h => (E1.out a h).grow sm) fun h => (List.mem_cons.mp h).elim (fun z => z ▸ ⟨_, hD, trivial⟩) (vl.there a)
        obtain ⟨o, ho, _⟩ := (E2H.wipe vs).inTr z
        exact ⟨o, ho⟩
    cases ht : tg ds[i] (wipeE (frzL c ρ) vs) with
    | none => rw [ht] at hl; cases hl
    | some ρ2 =>
      rw [ht] at hl
      simp only at hl
      refine ⟨_, _, _, ds[i], E3, fun k hk => by simp [cutF, hk], rx3, ρ2, ht, fun σ2 E4 hl2 ha2 => ⟨(wipe_same hl2 ha2).trans wipe_wipe, ?_⟩⟩
      refine ⟨_, ρ2, _, E4, ?_⟩
      intro H3 s3
      rw [if_pos rfl]
      have E5 := E4.grow s3
      refine ⟨_, ρ2, _, E5, ?_⟩
      cases hs : it1 ρ2 with
      | bad => rw [hs] at hl; cases hl
      | exn _ => rw [hs] at hl; cases hl
      | ok s =>
        intro J1 H4 s4 jk
        rw [hs] at hl
        have hl : (if s.c.isEmpty = true then (compL tg1 tt1 te (wipeE ρ2 vs1) s.ds).bind fun r1 => (compL2 tg it1 tg1 tt1 te vs1 (wipeE (frzL c ρ) vs) (ds.drop (i + 1))).bind fun rs => .ok (r1 ++ rs) else .bad) = .ok left := hl
        split at hl
        · rename_i hem
          have hem : s.c = [] := by simpa using hem
          rw [hem] at jk
          cases h1 : compL tg1 tt1 te (wipeE ρ2 vs1) s.ds with
          | bad => rw [h1] at hl; cases hl
          | exn _ => rw [h1] at hl; cases hl
          | ok r1 =>
            rw [h1] at hl
            have hl : (compL2 tg it1 tg1 tt1 te vs1 (wipeE (frzL c ρ) vs) (ds.drop (i + 1))).bind (fun rs => .ok (r1 ++ rs)) = .ok left := hl
            cases hr : compL2 tg it1 tg1 tt1 te vs1 (wipeE (frzL c ρ) vs) (ds.drop (i + 1)) with
            | bad => rw [hr] at hl; cases hl
            | exn _ => rw [hr] at hl; cases hl
            | ok left' =>
              rw [hr] at hl
              cases hl
              have s34 : Same H' H4 := s3.trans s4
              refine comp_loopI (E5.grow s4) jk h1 (by
                have := congrArg List.length ers
                rw [List.length_append, List.length_append] at this
                omega) (sm2.trans s34) (s34 _ _ hD2) nD nDf nfp (vl2.imp (fun _ _ _ q n => ⟨s34 _ _ q, n⟩) fun _ _ _ q => s34 _ _ q) (fun e a z => inS_wipe (z.elim (fun z => .inl (.inl z)) .inr)) (fun a ha => .inl (.inr ha)) fun H9 acc9 fp9 a1 a2 a3 a4 a5 => ⟨a1, done ++ r1, left', acc9, fp9, by rw [ers]; simp, rfl, a2, a3, a4, a5⟩
        · cases hl
  · have e : i = ds.length := by omega
    subst e
    rw [List.drop_length] at hl
    cases hl
    rw [List.append_nil] at ers
    subst ers
    exact .inl ⟨j1 (Nat.le_refl _), hq Dp H acc fp sm nD nfp hD nDf vl⟩
theorem compL_nx {tg : FG} {tt : FT} {te : FE} : ∀ (ds : List D) (ρ : Ev) x, compL tg tt te ρ ds ≠ .exn x := by
  intro ds
  induction ds with
  | nil => intro ρ x h; cases h
  | cons d ds ih =>
    intro ρ x h
    unfold compL at h
    cases ht : tg d ρ with
    | none => rw [ht] at h; cases h
    | some ρ2 =>
      rw [ht] at h
      simp only at h
      cases hb : tt ρ2 with
      | bad => rw [hb] at h; cases h
      | exn _ => rw [hb] at h; cases h
      | ok b =>
        rw [hb] at h
        have h : (if b = true then (noX (te ρ2)).bind fun r => (compL tg tt te ρ ds).bind fun rs => .ok (r :: rs) else compL tg tt te ρ ds) = .exn x := h
        cases b with
        | false => rw [if_neg Bool.false_ne_true] at h; exact ih ρ x h
        | true =>
          rw [if_pos rfl] at h
          cases he : te ρ2 with
          | bad => rw [he] at h; cases h
          | exn _ => rw [he] at h; cases h
          | ok r =>
            rw [he] at h
            have h : (compL tg tt te ρ ds).bind (fun rs => .ok (r :: rs)) = .exn x := h
            cases hr : compL tg tt te ρ ds with
            | bad => rw [hr] at h; cases h
            | exn y => exact ih ρ y hr
            | ok rs => rw [hr] at h; cases h
theorem rd_lc2 {dep : Nat} {W : WK} {it it1 : FI} {tg tg1 : FG} {tt1 : FT} {te : FE} {vs vs1 : List Nat} {σ : St} {H : Hp} {Q : VK} (h : rdE W (fComp2 dep it tg it1 tg1 tt1 te vs vs1) σ H Q) : tLc2 (rdI W it) (rdG vs tg) (rdT W0 fYes) (rdI W0 it1) (rdG vs1 tg1) (rdT W0 tt1) (rdE W0 te) vs vs1 σ H Q := by
  obtain ⟨S0, ρ, F, E, p⟩ := h
  refine ⟨S0, ρ, F, E, ?_⟩
  unfold fComp2 at p
  cases q : it ρ with
  | bad => rw [q] at p; exact p.elim
  | exn x => rw [q] at p; exact p
  | ok s =>
    rw [q] at p
    intro J H1 sm j Dp nD
    have p : Post W S0 F σ H Q ((compL2 tg it1 tg1 tt1 te vs1 (wipeE (frzL s.c ρ) vs) s.ds).bind (dispC dep s.c)) := p
    have nx : ∀ (ds : List D) (ρ : Ev) x, compL2 tg it1 tg1 tt1 te vs1 ρ ds ≠ .exn x := by
      intro ds
      induction ds with
      | nil => intro ρ x h; cases h
      | cons d ds ih =>
        intro ρ x h
        unfold compL2 at h
        cases ht : tg d ρ with
        | none => rw [ht] at h; cases h
        | some ρ2 =>
          rw [ht] at h
          simp only at h
          cases hb : it1 ρ2 with
          | bad => rw [hb] at h; cases h
          | exn _ => rw [hb] at h; cases h
          | ok s =>
            rw [hb] at h
            have h : (if s.c.isEmpty = true then (compL tg1 tt1 te (wipeE ρ2 vs1) s.ds).bind fun r1 => (compL2 tg it1 tg1 tt1 te vs1 ρ ds).bind fun rs => .ok (r1 ++ rs) else .bad) = .exn x := h
            split at h
            · cases h1 : compL tg1 tt1 te (wipeE ρ2 vs1) s.ds with
              | bad => rw [h1] at h; cases h
              | exn y => exact (compL_nx _ _ _ h1).elim
              | ok r1 =>
                rw [h1] at h
                have h : (compL2 tg it1 tg1 tt1 te vs1 ρ ds).bind (fun rs => .ok (r1 ++ rs)) = .exn x := h
                cases hr : compL2 tg it1 tg1 tt1 te vs1 ρ ds with
                | bad => rw [hr] at h; cases h
                | exn y => exact ih ρ y hr
                | ok rs => rw [hr] at h; cases h
            · cases h
    cases hc : compL2 tg it1 tg1 tt1 te vs1 (wipeE (frzL s.c ρ) vs) s.ds with
    | bad => rw [hc] at p; exact p.elim
    | exn x => exact (nx _ _ _ hc).elim
    | ok rs =>
      rw [hc] at p
      have p : Post W S0 F σ H Q (dispC dep s.c rs) := p
      unfold dispC at p
      split at p
      · rename_i hz
        refine comp_loop2 (Qd := fun Dp H => Q (.ref Dp) H) (E.grow sm) j hc hz (fun Dp H2 acc fp s2 nD nfp hD nDf vl => ?_) Dp nD
        have s12 := sm.trans s2
        have n0 : ∀ a ∈ fp, H a = none := fun a ha => sm.free (nfp a ha)
        have nD0 : H Dp = none := sm.free nD
        have cv : ∀ {e : List Nat} {a : Addr}, inS S0 F (s.c ++ e) a → inS S0 (cutF s.c F) e a := fun h => inS_cut.mpr h
        have hE : ∀ r ∈ rs, ∀ i ∈ r.e, i ∈ esL rs := fun r h => esL_mem h
        have nfpE : ∀ e, ∀ a ∈ Dp :: fp, ¬ inS S0 F e a := fun e a ha z => E.fresh z ((List.mem_cons.mp ha).elim (fun q => q ▸ nD0) (n0 a))
        -- owned so deep
        have key : ∃ fq, (∀ a ∈ fq, H a = none) ∧ Ow (fun a => inS S0 F (s.c ++ esL rs) a ∨ a ∈ fq) H2 (hDep dep rs + 1) (.lst (rs.map (·.d))) (.ref Dp) fq := by
          by_cases hd : hDep dep rs = 0
          · refine ⟨[Dp], fun a ha => by rw [List.mem_singleton.mp ha]; exact nD0, ?_⟩
            rw [hd]
            exact ⟨Dp, acc, [], rfl, hD, all_zero (vl.rp (E := esL rs) (fun a z => z.elim (fun z => .inl (cv z)) fun z => .inr (by rw [List.mem_singleton.mp z]; exact List.mem_cons_self)) (fun a ha z => z.elim (nfpE _ a (List.mem_cons_of_mem _ ha)) fun z => nDf ((List.mem_singleton.mp z) ▸ ha)) hE), rfl, by simp⟩
          · refine ⟨Dp :: fp, fun a ha => (List.mem_cons.mp ha).elim (fun q => q ▸ nD0) (n0 a), Dp, acc, fp, rfl, hD, ?_, rfl, nDf⟩
            have al := vl.all (m := hDep dep rs) (E := esL rs) (fun r h => (hDep_sc r h).elim .inl fun z => z.elim .inr fun z => absurd z hd) hE
            exact al.mono (fun b o q n => ⟨q, fun z => n (z.elim (fun z => .inl (cv z)) .inr)⟩) (Same.refl _)
        obtain ⟨fq, nq, o⟩ := key
        have nqE : ∀ e, ∀ a ∈ fq, ¬ inS S0 F e a := fun e a ha z => E.fresh z (nq a ha)
        simp only at p
        split at p
        · rename_i ha
          have E2 := E.grow s12
          have tr := Ow.there _ _ _ _ o
          exact p _ H2 fq s12 nq (VR.of (Ow.af (fun a z => z.elim (fun z => E2.inTr z) (tr a)) _ _ _ _ ha o) (nqE _))
        · exact p _ H2 fq s12 nq (VR.of o (nqE _))
      · exact p.elim

section
variable {X : Cx} {W : WK}
theorem e_comp2 {dep : Nat} {elt tg iter tg1 iter1 : Expr} {ifs1 : List Expr} {scope : Scope} {own : List (Str × Nat)} {vs1 : List Nat} {pos : Pos} {it it1 : FI} {g g1 : FG} {tt1 : FT} {te : FE} (hc : X.calm = true) (hN : X.N.Nodup) (hi : PI X tg iter (rdI W it)) (ok : BlkOk X.N X.env.scope scope own) (hv : ∀ i ∈ vs1, i ∈ own.map (·.2))
    (hg : ∀ (s : Shared) (H : Hp) (C : Addr) (cl : List (Str × Addr)) (fp : List Addr), PG (X.blk s H scope (compEnvC scope cl C X.env) fp) tg (rdG (own.map (·.2)) g))
    (hi1 : ∀ (s : Shared) (H : Hp) (C : Addr) (cl : List (Str × Addr)) (fp : List Addr), PI (X.blk s H scope (compEnvC scope cl C X.env) fp) tg1 iter1 (rdI W0 it1))
    (hg1 : ∀ (s : Shared) (H : Hp) (C : Addr) (cl : List (Str × Addr)) (fp : List Addr), PG (X.blk s H scope (compEnvC scope cl C X.env) fp) tg1 (rdG vs1 g1)) (ht1 : ∀ (s : Shared) (H : Hp) (C : Addr) (cl : List (Str × Addr)) (fp : List Addr), PTs (X.blk s H scope (compEnvC scope cl C X.env) fp) ifs1 (rdT W0 tt1))
    (he : ∀ (s : Shared) (H : Hp) (C : Addr) (cl : List (Str × Addr)) (fp : List Addr), PE (X.blk s H scope (compEnvC scope cl C X.env) fp) elt (rdE W0 te)) (hs : ∀ x, foldedSetIterable iter X.env x = pure x := by intro _; rfl) (hs1 : ∀ env x, foldedSetIterable iter1 env x = pure x := by intro _ _; rfl) :
    PE X (.ListComp elt [⟨tg, iter, [], 0⟩, ⟨tg1, iter1, ifs1, 0⟩] scope pos) (rdE W (fComp2 dep it g it1 g1 tt1 te (own.map (·.2)) vs1)) :=
  peI (pe_lc2 hc hN hi ok hv hg (fun _ _ _ _ _ => ts_nil) hi1 hg1 ht1 he hs hs1) fun _ _ _ h => rd_lc2 h
end
theorem s_setLc2 {X : Cx} {W : WK} {i dep : Nat} {y : Str} {py : Pos} {elt tg iter tg1 iter1 : Expr} {ifs1 : List Expr} {scope : Scope} {own : List (Str × Nat)} {vs1 : List Nat} {pos spos : Pos} {it it1 : FI} {g g1 : FG} {tt1 : FT} {te : FE} (hc : X.calm = true) (hN : X.N.Nodup) (hy : X.N[i]? = some y) (hyl : X.env.scope.names.lookup y = some .local)
    (hsw : swapsWith (.ListComp elt [⟨tg, iter, [], 0⟩, ⟨tg1, iter1, ifs1, 0⟩] scope pos) (some (.Name y py)) spos.line X.env = pure true) (hi : PI X tg iter (rdI W it)) (ok : BlkOk X.N X.env.scope scope own) (hv : ∀ i ∈ vs1, i ∈ own.map (·.2))
    (hg : ∀ (s : Shared) (H : Hp) (C : Addr) (cl : List (Str × Addr)) (fp : List Addr), PG (X.blk s H scope (compEnvC scope cl C X.env) fp) tg (rdG (own.map (·.2)) g))
    (hi1 : ∀ (s : Shared) (H : Hp) (C : Addr) (cl : List (Str × Addr)) (fp : List Addr), PI (X.blk s H scope (compEnvC scope cl C X.env) fp) tg1 iter1 (rdI W0 it1))
    (hg1 : ∀ (s : Shared) (H : Hp) (C : Addr) (cl : List (Str × Addr)) (fp : List Addr), PG (X.blk s H scope (compEnvC scope cl C X.env) fp) tg1 (rdG vs1 g1)) (ht1 : ∀ (s : Shared) (H : Hp) (C : Addr) (cl : List (Str × Addr)) (fp : List Addr), PTs (X.blk s H scope (compEnvC scope cl C X.env) fp) ifs1 (rdT W0 tt1))
    (he : ∀ (s : Shared) (H : Hp) (C : Addr) (cl : List (Str × Addr)) (fp : List Addr), PE (X.blk s H scope (compEnvC scope cl C X.env) fp) elt (rdE W0 te)) (hs : ∀ x, foldedSetIterable iter X.env x = pure x := by intro _; rfl) (hs1 : ∀ env x, foldedSetIterable iter1 env x = pure x := by intro _ _; rfl) :
    PS X (.Assign [.Name y py] (.ListComp elt [⟨tg, iter, [], 0⟩, ⟨tg1, iter1, ifs1, 0⟩] scope pos) spos) (rdS W (sSet i (fComp2 dep it g it1 g1 tt1 te (own.map (·.2)) vs1))) :=
  psI (ps_setLc2 hc hN hy hyl hsw hi ok hv hg (fun _ _ _ _ _ => ts_nil) hi1 hg1 ht1 he hs hs1) fun Dn σ H ⟨S0, H0, ρ, F, E, p⟩ => rd_lc2 (ps_bind E p fun r v H1 fp s n vr E1 p1 => set_post E s n vr p1)
/-! ### typed -/
def zFlt {α β : Type} (f : α → Option (List β)) : List α → Option (List β)
  | [] => some []
  | x :: xs => (f x).bind fun ys => (zFlt f xs).bind fun zs => some (ys ++ zs)
theorem GvL.app {kk : Option Nat} {E C : List Nat} : ∀ {rs qs : List R} {ds es : List D}, GvL kk E C rs ds → GvL kk E C qs es → GvL kk E C (rs ++ qs) (ds ++ es)
  | [], _, [], _, _, h => h
  | r :: rs, _, d :: ds, _, h, h' => ⟨h.1, GvL.app h.2 h'⟩
  | [], _, _ :: _, _, h, _ => h.elim
  | _ :: _, _, [], _, h, _ => h.elim
section
variable {S : Spec} {α β γ : Type} [Enc α] [Enc β] [Enc γ] {kk : Option Nat} {E C Ei Ci : List Nat}
theorem compL2_t {tg tg1 : FG} {it1 : FI} {tt1 : FT} {te : FE} {vs1 : List Nat} {ρ : Ev} {f : α → Option (List γ)} : ∀ {xs : List α} {ys : List γ}, (∀ x ∈ xs, ∀ l, f x = some l → ∃ ρ2 s rs, tg (enc x) ρ = some ρ2 ∧ it1 ρ2 = .ok s ∧ s.c = [] ∧ compL tg1 tt1 te (wipeE ρ2 vs1) s.ds = .ok rs ∧ GvL kk E C rs (l.map enc)) → zFlt f xs = some ys →
    ∃ rs, compL2 tg it1 tg1 tt1 te vs1 ρ (xs.map enc) = .ok rs ∧ GvL kk E C rs (ys.map enc)
  | [], ys, _, h => by cases h; exact ⟨[], rfl, trivial⟩
  | x :: xs, ys, hb, h => by
    unfold zFlt at h
    obtain ⟨l, hl, h⟩ := bnd h
    obtain ⟨zs, hz, h⟩ := bnd h
    cases h
    obtain ⟨ρ2, s, r1, e1, e2, e3, e4, g⟩ := hb x List.mem_cons_self l hl
    obtain ⟨rs, e5, g5⟩ := compL2_t (fun y hy => hb y (List.mem_cons_of_mem _ hy)) hz
    refine ⟨r1 ++ rs, ?_, by rw [List.map_append]; exact g.app g5⟩
    rw [List.map_cons]
    unfold compL2
    rw [e1]
    simp only [e2, noX, bd_ok, e3, List.isEmpty_nil, if_true, e4, e5]
/-- a comprehension with two for, whose items are wholly new -/
theorem re_c2F [EncF γ] {dep : Nat} {it it1 : FI} {tg tg1 : FG} {tt1 : FT} {te : FE} {vs vs1 : List Nat} {xs : List α} {ys zs : List γ} {E1 : List Nat} {fi : α → Option (List β)} {fm : α → β → Option (Option γ)} {Sx : α → Spec} {Sy : α → β → Spec} (hd : EncF.dp γ ≤ dep) (hk : (∀ y : γ, scal (enc y) = true) ∨ kk = some dep) (hi : RI S it xs Ei Ci)
    (h1 : ∀ x, BG tg vs x (frzS Ci S) (Sx x)) (hi1 : ∀ x l, fi x = some l → RI (Sx x) it1 l E1 []) (h2 : ∀ x y, BG tg1 vs1 y (Sx x) (Sy x y)) (hb : ∀ x y o, fm x y = some o → RT (Sy x y) tt1 o.isSome ∧ ∀ z, o = some z → RE (Sy x y) te z kk E C)
    (e1 : zFlt (fun x => (fi x).bind fun l => zFilM (fm x) l) xs = some ys) (e2 : zLst ys = some zs) : RE S (fComp2 dep it tg it1 tg1 tt1 te vs vs1) zs (some (dep + 1)) [] [] := by
  unfold zLst at e2
  split at e2
  · rename_i hl
    cases e2
    intro ρ z
    obtain ⟨s, q1, q2, q3, q4⟩ := hi ρ z
    obtain ⟨rs, q5, gl⟩ := compL2_t (tg := tg) (it1 := it1) (tg1 := tg1) (tt1 := tt1) (te := te) (vs1 := vs1) (ρ := wipeE (frzL s.c ρ) vs) (kk := kk) (E := E) (C := C) (fun x hx l hl => by
      obtain ⟨m, hm, hl⟩ := bnd hl
      obtain ⟨ρ2, b1, b2⟩ := h1 x _ (z.frz q4)
      obtain ⟨s1, c1, c2, c3, c4⟩ := hi1 x m hm ρ2 b2
      have c5 : s1.c = [] := by
        cases h : s1.c with
        | nil => rfl
        | cons a t => have := c4 a (by rw [h]; exact List.mem_cons_self); cases this
      obtain ⟨r1, d1, d2⟩ := compL_t (tg := tg1) (tt := tt1) (te := te) (ρ := wipeE ρ2 vs1) (kk := kk) (E := E) (C := C) (fm := fm x) (xs := m) (ys := l) (fun y hy o ho => by
        obtain ⟨t1, t2⟩ := hb x y o ho
        obtain ⟨ρ3, u1, u2⟩ := h2 x y ρ2 b2
        exact ⟨ρ3, u1, t1 ρ3 u2, fun w hw => t2 w hw ρ3 u2⟩) hl
      exact ⟨ρ2, s1, r1, b1, c1, c5, by rw [c2]; exact d1, d2⟩) e1
    obtain ⟨a1, a2, a3⟩ := gl.all
    refine ⟨⟨enc ys, dep + 1, [], []⟩, ?_, rfl, fun m z => by cases z; rfl, fun j hj => (by cases hj), fun j hj => (by cases hj)⟩
    have e : fComp2 dep it tg it1 tg1 tt1 te vs vs1 ρ = dispC dep s.c rs := by
      show (it ρ).bind _ = _
      rw [q1, bd_ok, q2, q5, bd_ok]
    rw [e]
    have hl' : rs.length ≤ sizeLine := by have := congrArg List.length a1; rw [List.length_map, List.length_map] at this; omega
    have hh : hDep dep rs = dep := hdep_of fun r hr => by
      obtain ⟨d, hd, g⟩ := a2 r hr
      rcases hk with hk | hk
      · obtain ⟨y, _, rfl⟩ := List.mem_map.mp hd
        exact .inl (by rw [g.1]; exact hk y)
      · exact .inr (g.2.1 dep hk)
    unfold dispC
    rw [if_pos hl']
    simp only [hh, a1]
    exact if_pos (af_lst fun d hd' => by
      obtain ⟨y, _, rfl⟩ := List.mem_map.mp hd'
      exact af_up _ (EncF.ok y) hd)
  · cases e2
theorem ri_to {it : FI} {xs ys : List α} {E C : List Nat} (h : RI S it xs E C) (e : some xs = some ys) : RI S it ys E C := by cases e; exact h
theorem re_2f [EncF γ] {dep : Nat} {it it1 : FI} {tg tg1 : FG} {tt1 : FT} {te : FE} {vs vs1 : List Nat} {xs : List α} {ys zs : List γ} {E1 : List Nat} {fi : α → Option (List β)} {t : α → β → Option Bool} {h : α → β → Option γ} {Sx : α → Spec} {Sy : α → β → Spec} (hd : EncF.dp γ ≤ dep) (hk : (∀ y : γ, scal (enc y) = true) ∨ kk = some dep) (hi : RI S it xs Ei Ci)
    (h1 : ∀ x, BG tg vs x (frzS Ci S) (Sx x)) (hi1 : ∀ x l, fi x = some l → RI (Sx x) it1 l E1 []) (h2 : ∀ x y, BG tg1 vs1 y (Sx x) (Sy x y)) (ht : ∀ x y b, t x y = some b → RT (Sy x y) tt1 b) (he : ∀ x y z, h x y = some z → RE (Sy x y) te z kk E C)
    (e1 : zFlt (fun x => (fi x).bind fun l => zFilM (fun y => zSel (t x y) (h x y)) l) xs = some ys) (e2 : zLst ys = some zs) : RE S (fComp2 dep it tg it1 tg1 tt1 te vs vs1) zs (some (dep + 1)) [] [] :=
  re_c2F hd hk hi h1 hi1 h2 (fun x y o e => by
    obtain ⟨b, hb, e⟩ := bnd e
    rcases tif e with ⟨rfl, e⟩ | ⟨rfl, e⟩
    · obtain ⟨w, hw, e⟩ := bnd e
      cases e
      exact ⟨ht x y _ hb, fun z hz => by cases hz; exact he x y w hw⟩
    · cases e
      exact ⟨ht x y _ hb, fun z hz => (by cases hz)⟩) e1 e2
theorem re_2m [EncF γ] {dep : Nat} {it it1 : FI} {tg tg1 : FG} {te : FE} {vs vs1 : List Nat} {xs : List α} {ys zs : List γ} {E1 : List Nat} {fi : α → Option (List β)} {h : α → β → Option γ} {Sx : α → Spec} {Sy : α → β → Spec} (hd : EncF.dp γ ≤ dep) (hk : (∀ y : γ, scal (enc y) = true) ∨ kk = some dep) (hi : RI S it xs Ei Ci)
    (h1 : ∀ x, BG tg vs x (frzS Ci S) (Sx x)) (hi1 : ∀ x l, fi x = some l → RI (Sx x) it1 l E1 []) (h2 : ∀ x y, BG tg1 vs1 y (Sx x) (Sy x y)) (he : ∀ x y z, h x y = some z → RE (Sy x y) te z kk E C)
    (e1 : zFlt (fun x => (fi x).bind fun l => zMapM (fun y => h x y) l) xs = some ys) (e2 : zLst ys = some zs) : RE S (fComp2 dep it tg it1 tg1 fYes te vs vs1) zs (some (dep + 1)) [] [] :=
  re_c2F (fm := fun x y => (h x y).bind fun z => some (some z)) hd hk hi h1 hi1 h2 (fun x y o e => by
    obtain ⟨w, hw, e⟩ := bnd e
    cases e
    exact ⟨re_yes, fun z hz => by cases hz; exact he x y w hw⟩) (by rw [← e1]; congr 1; funext x; congr 1; funext l; exact zFilM_map) e2
end
end PyL

set_option maxHeartbeats 2000000
/-! x[i].append(v) in a list of lists of one's own, v a scalar -/
namespace PyL
open PySem PySem.Spec L2
open Enc (enc)
set_option autoImplicit false
def app2Out (i : Nat) (q r : R) (ρ : Ev) : Out := match ρ[i]?, q.d with
  | some (some (.lst ds, k + 2)), .int z => match ixN ds.length z with
    | some j => match ds[j]? with
      | some (.lst es) => if scal r.d = true ∧ es.length < sizeLine then .nx (ρ.set i (some (.lst (ds.set j (.lst (es ++ [r.d]))), k + 2))) else .bad
      | _ => .bad
    | none => .bad
  | _, _ => .bad
def sApp2 (i : Nat) (fi f : FE) : FS := own2 i (stE fi fun q => rowOk i q (stE f fun r => app2Out i q r))
section
variable {X : Cx} {W : WK} {st : Stmt} {fi fe : FE}
theorem s_app2 (i : Nat) (hp : PS X st (tDrop (tBM X.K "list" rAppend (tOp (rIxL X.K) (tVar i) (rdE W fi)) (tCons (rdE W fe) tNil)))) : PS X st (rdS W (sApp2 i fi fe)) := by
  refine psI hp fun Dn σ H ⟨S0, H0, ρ, F, E, p⟩ => ?_
  obtain ⟨⟨ds, k, hi⟩, p⟩ := own2_ok p
  obtain ⟨a, xs, fq, hv, ha, al, ef, nd⟩ := E.list hi
  refine ⟨.ref a, hv, ps_bind E p fun q w H2 fp2 s2 n2 vq E2 p2 => ?_⟩
  have hl := al.length
  have aF : a ∈ F i := by rw [ef]; exact List.mem_cons_self
  have fqF : ∀ b ∈ fq, b ∈ F i := fun b hb => by rw [ef]; exact List.mem_cons_of_mem _ hb
  have zq := vq.fz (E.ee.nin n2 _)
  obtain ⟨⟨z, j, es, ez, hj, hes⟩, p2⟩ := rowOk_ok hi p2
  obtain ⟨y, f, hy, py, hf, go⟩ := al.at hes
  obtain ⟨b, ys, fr, rfl, hb, al2, ef2, nd2⟩ := py
  have hj' : ixN xs.length z = some j := by rw [← hl]; exact hj
  refine ⟨a, xs, z, .ref b, rfl, zq.int ez, SqL.of (s2 _ _ ha), by unfold atI; rw [hj']; exact hy, .inl ⟨rfl, ys, SqL.of (s2 _ _ hb)⟩, ps_bind E2 p2 fun r v H3 fp3 s3 n3 vr E3 p3 => ?_⟩
  unfold app2Out at p3
  rw [hi, ez] at p3
  simp only [hj, hes] at p3
  split at p3
  · rename_i hs
    have s13 := s2.trans s3
    refine ⟨b, ys, v, rfl, rfl, s13 _ _ hb, by rw [← al2.length]; exact hs.2, ?_⟩
    have bf : b ∈ f := by rw [ef2]; exact List.mem_cons_self
    have bF : b ∈ F i := fqF b (hf b bf)
    have nab : a ≠ b := fun z => nd (z ▸ hf b bf)
    have kp : ∀ c o, c ≠ b → H c = some o → upd H3 b (.lst (ys ++ [v])) c = some o := fun c o hc q => by rw [upd_ne hc]; exact s13 _ _ q
    have rv : ∀ S' H', Ow S' H' k r.d v [] := fun S' H' => (scal_ow hs.1 vr.ow k).1
    have Sx : ∀ c, inS S0 F (i :: []) c ∨ c ∈ F i → inS S0 F [] c := fun c z => z.elim inS_sub fun z => .inr ⟨i, by simp, z⟩
    have al3 : AllF (Ow (fun c => inS S0 F (i :: []) c ∨ c ∈ F i) (upd H3 b (.lst (ys ++ [v]))) k) (es ++ [r.d]) (ys ++ [v]) (fr ++ []) :=
      AllF.snoc (rv _ _) (al2.imp fun d w g hg po => Ow.imp (fun c o q nn => ⟨kp c o (fun z => nn (z ▸ (.inr ⟨i, by simp, bF⟩))) q, fun z => nn (Sx c z)⟩) k d w g (fun c o hc q => kp c o (fun z => nd2 (z ▸ hg c hc)) q) po) fun c _ => by simp
    rw [List.append_nil] at al3
    obtain ⟨fq', al4, hfq'⟩ := go (Ow (fun c => inS S0 F (i :: []) c ∨ c ∈ F i) (upd H3 b (.lst (ys ++ [v]))) (k + 1)) (.lst (es ++ [r.d])) (.ref b) (b :: fr) (fun d w g hg hn po => Ow.imp (fun c o q nn => ⟨kp c o (fun z => nn (z ▸ (.inr ⟨i, by simp, bF⟩))) q, fun z => nn (Sx c z)⟩) (k + 1) d w g (fun c o hc q => kp c o (fun z => hn c hc (z ▸ bf)) q) po) ⟨b, ys ++ [v], fr, rfl, upd_same, al3, rfl, nd2⟩ (fun c hc => .inl (by rw [ef2]; exact hc))
    have sub4 : ∀ c ∈ fq', c ∈ fq := fun c hc => (hfq' c hc).elim (fun z => (List.mem_cons.mp z).elim (fun z => z ▸ hf b bf) fun z => hf c (by rw [ef2]; exact List.mem_cons_of_mem _ z)) fun z => z.1
    have same_set : xs.set j (.ref b) = xs := by
      apply List.ext_getElem?
      intro m
      by_cases hm : m = j
      · subst hm
        rw [List.getElem?_set_self (List.getElem?_eq_some_iff.mp hy).1, hy]
      · rw [List.getElem?_set_ne (Ne.symm hm)]
    rw [same_set] at al4
    obtain ⟨F', E'⟩ : ∃ F', ER S0 H0 ((PyL.frzL [] ρ).set i (some (.lst (ds.set j (.lst (es ++ [r.d]))), k + 2))) σ (upd H3 b (.lst (ys ++ [v]))) F' := by
      refine ⟨_, E.mutate (d' := .lst (ds.set j (.lst (es ++ [r.d])))) (k' := k + 2) (e := []) (fp' := a :: fq') (o' := .lst (ys ++ [v])) hi hv (by simp) s13 bF trivial (fun c hc => .inl ((List.mem_cons.mp hc).elim (fun z => z ▸ aF) fun z => fqF c (sub4 c z))) ?_⟩
      refine ⟨a, xs, fq', rfl, by rw [upd_ne nab]; exact s13 _ _ ha, ?_, rfl, fun z => nd (sub4 a z)⟩
      exact al4.imp fun d w g hg po => Ow.imp (fun c o q nn => ⟨q, fun z => nn (z.imp id fun z => (List.mem_cons.mp z).elim (fun (z : c = a) => z ▸ aF) fun z => fqF c (sub4 c z))⟩) (k + 1) d w g (fun _ _ _ q => q) po
    exact p3 _ _ _ E'
  · exact p3.elim
end
section
variable {α β : Type} [Enc α] [Enc β] {S S' : Spec} {fi fe : FE} {i k : Nat} {kk k1 : Option Nat} {E C E1 C1 : List Nat}
def zApp2 {α : Type} (rows : List (List α)) (n : Int) (v : α) : Option (List (List α)) := (ixN rows.length n).bind fun j => rows[j]?.bind fun r => if r.length < sizeLine then some (rows.set j (r ++ [v])) else none
theorem sp_app2 {rows rows' : List (List α)} {v : α} {n : Int} (hx : S[i]? = some (some (enc rows, some (k + 2)))) (h : RE S fe v kk E C) (hs : scal (enc v) = true) (hn : RE S fi n k1 E1 C1) (ht : zApp2 rows n v = some rows') (hS : S.set i (some (enc rows', some (k + 2))) = S') : SpS S (sApp2 i fi fe) (Pnx S') := fun ρ z => by
  obtain ⟨k0, e0, hk0⟩ := z.2 i _ hx
  have hk0 : k0 = k + 2 := hk0 _ rfl
  subst hk0
  have e0 : ρ[i]? = some (some (.lst (rows.map enc), k + 2)) := e0
  obtain ⟨r, e, a, _⟩ := h ρ z
  obtain ⟨q, e2, a2, _⟩ := hn ρ z
  have a2 : q.d = .int n := a2
  unfold zApp2 at ht
  obtain ⟨j, hj, ht⟩ := bnd ht
  obtain ⟨row, hr, ht⟩ := bnd ht
  split at ht
  · rename_i hl
    cases ht
    have hj : ixN (rows.map (enc : List α → D)).length n = some j := by rw [List.length_map]; exact hj
    have hr : (rows.map (enc : List α → D))[j]? = some (.lst (row.map enc)) := by rw [List.getElem?_map, hr]; rfl
    have hl : (row.map (enc : α → D)).length < sizeLine := by rw [List.length_map]; exact hl
    refine ⟨ρ.set i (some (.lst ((rows.map enc).set j (.lst (row.map enc ++ [r.d]))), k + 2)), ?_, ?_⟩
    · unfold sApp2 own2
      simp only [e0]
      rw [stE_def e2]
      unfold rowOk
      simp only [e0, a2, hj, hr]
      rw [stE_def e]
      unfold app2Out
      simp only [e0, a2, hj, hr]
      rw [if_pos ⟨by rw [a]; exact hs, hl⟩]
    · have e1 : D.lst ((rows.map enc).set j (.lst (row.map enc ++ [r.d]))) = enc (rows.set j (row ++ [v])) := by
        rw [a]
        show _ = D.lst _
        rw [List.map_set]
        refine congrArg D.lst (congrArg _ ?_)
        show D.lst (row.map enc ++ [enc v]) = D.lst ((row ++ [v]).map enc)
        rw [List.map_append]; rfl
      rw [e1, ← hS]
      exact z.set i fun m q => by cases q; rfl
  · cases ht
end
end PyL

/-! sorted(set(x)), x a list of ints -/
namespace PyL
open PySem PySem.Spec PyProof.Rows L2
open Enc (enc)
section
variable {P : Program} {w : World} {A : Around} {E : Value → Shared → Prop} {s : Shared}
/-- a set object with nothing in it -/
abbrev bare0 (w : World) : Obj := { cls := .type "set", dict := none, data := .set #[] 0 (.fresh 0 0 (!w.params.followText "set-order")) }
/-- what filling the empty set at S from ns leaves: the set of ns, all else as it was -/
def Filled (w : World) (s : Shared) (S : Addr) (ns : List Int) (s2 : Shared) : Prop :=
  ∃ h' tk c, s2 = { s with heap := h', toks := tk } ∧ SetR w h' S (fun j => decide (j ∈ ns)) c ∧ c ≤ ns.length ∧ ∀ b o, b ≠ S → s.heap.get? b = some o → h'.get? b = some o
set_option maxHeartbeats 3200000 in
/-- the set's own __init__ with a list of ints -/
theorem fill_list {S l : Addr} {items : Array Value} (ns : List Int) (hh : A.handled = none) (hS : s.heap.get? S = some (bare0 w)) (hl : s.heap.IsList l items) (hit : IntsAre items.toList ns) (hb : ns.length + 1 < scanBound) :
    codeAny (model P w) A (.call (.builtin "set.__init__") ⟨[.ref S, .ref l], []⟩) (wants (fun r s2 => r = .none ∧ Filled w s S ns s2) E) s := by
  have hsz : items.size = ns.length := by rw [← Array.length_toList]; exact IntsAre.length hit
  refine codeAny_mono (codeAny_call_builtin (R := wants (fun r s2 => r = .none ∧ Filled w s S ns s2) E) F.called_set.init.plain F.entry_set_init (check_set_init_1 ⟨_, hS, rfl⟩ ?_)) fun r s2 h => h
  have hl0 := hl
  obtain ⟨⟨cls, dd, da, sl⟩, ho, hc, n, hd⟩ := hl
  simp only at hc hd
  subst hc hd
  have d1 := F.sub_list_set
  have d2 := F.sub_list_frozenset
  have d3 : (Value.type "list" == Value.type "dict") = false := by decide
  have nSl : S ≠ l := fun e => by
    rw [e, ho] at hS
    have e2 : Value.type "list" = Value.type "set" := congrArg Obj.cls (Option.some.inj hS)
    injection e2 with e2
    exact absurd e2 (by decide)
  unfold Builtin.«set.__init__» noKeywords Builtin.Frozenset.updateFrom
  generalize hPI : pyIter = PI
  wp_walk
  subst hPI
  refine wpAny_pyIter_list hl0 (wpAny_bind (wpAny_runValue ?_))
  have old : ∀ {b : Addr} {o : Obj}, s.heap.get? b = some o → b ≠ s.heap.objs.size := fun e => Nat.ne_of_lt (Heap.lt_size e)
  have W := Walks.list (prog := P) (w := w) (A := A.in1.in1) (by simp [hh]) s.heap.objs.size l (old ho) items
  refine set_update_ints W.toS S (fun h => ?_) ns hsz hb (fun i v hv => ?_) items.size 0 _ (by omega) (Nat.zero_le _) ?h1
    ?h0 fun s' c hm hc hR => ?_
  case h1 => exact ⟨⟨_, Heap.get?_push_size _ rfl, rfl, rfl⟩, hl0.push _⟩
  case h0 => exact ⟨0, Nat.le_refl 0, setR_new_at (Heap.get?_push_of_some _ hS)⟩
  · rcases List.mem_cons.mp h with e | e
    · exact old hS e
    · exact nSl (List.mem_singleton.mp e)
  · have hi : i < ns.length := by rw [← hsz]; exact (Array.getElem?_eq_some_iff.mp hv).1
    obtain ⟨t, e⟩ := IntsAre.int_at hit i v (by rw [Array.getElem?_toList]; exact hv)
    refine ⟨ns[i], t, List.getElem?_eq_getElem hi, ?_⟩
    rw [e, List.getD_eq_getElem?_getD, List.getElem?_eq_getElem hi] <;> rfl
  · obtain ⟨h', g2, d', tk, os'⟩ := s'
    cases (show g2 = s.gens from hm.gens)
    cases (show d' = s.drawn from hm.drawn)
    cases (show os' = s.os from hm.os)
    refine wpAny_pure (show wpAny _ _ (ret Value.none) _ _ _ from wpAny_pure ⟨rfl, h', tk, c, rfl, hR, by omega, fun b o nb e => ?_⟩)
    refine hm.heap b o (fun h => ?_) (Heap.get?_push_of_some _ e)
    rcases List.mem_cons.mp h with e2 | e2
    · exact nb e2
    · exact old e (List.mem_singleton.mp e2)
set_option maxHeartbeats 3200000 in
/-- set(x), x a list of ints -/
theorem call_set_listI {l : Addr} {items : Array Value} (ns : List Int) {Q : Value → Shared → Prop} (hh : A.handled = none) (hl : s.heap.IsList l items) (hit : IntsAre items.toList ns) (hb : ns.length + 1 < scanBound)
    (h : ∀ (h' : Heap) (tk c : Nat), SetR w h' s.heap.objs.size (fun j => decide (j ∈ ns)) c → c ≤ ns.length → (∀ b o, s.heap.get? b = some o → h'.get? b = some o) → Q (.ref s.heap.objs.size) { s with heap := h', toks := tk }) :
    wpAny (model P w) A (call (.type "set") [.ref l]) Q E s := by
  obtain ⟨c, tl, hmro⟩ := F.called_set.mro
  have m1 := F.called_set.made
  have m2 := F.called_set.sub
  have m3 := F.called_set.notType
  have m4 := F.called_set.canCreate
  have m5 := F.typeCall_set_1 (.ref l)
  refine wpAny_call (codeAny_of_tree (show wpAny _ _ (callAny (.type "set") _) _ _ _ from wpAny_pure ⟨Code.quiet_builtin _ (by decide +kernel), codeAny_builtin F.entry_type_call ?_⟩))
  rw [Around.under_plain (weight_type_call_type "set" [.ref l] []) rfl]
  repeat (any_goals (first | assumption | wp_step))
  refine codeAny_mono (code_set_led1 (.ref l) (E := E) (Q₁ := fun v t => v = .ref s.heap.objs.size ∧ t = { s with heap := s.heap.push (bare0 w) }) ⟨rfl, rfl⟩) fun r s1 hr => ?_
  match r, hr with
  | .error e, hr => exact hr
  | .ok (.ret v), hr =>
    obtain ⟨rfl, rfl⟩ := hr
    have hS : (s.heap.push (bare0 w)).get? s.heap.objs.size = some (bare0 w) := Heap.get?_push_size _ rfl
    have hT : Shared.TypeIs { s with heap := s.heap.push (bare0 w) } (.ref s.heap.objs.size) "set" := ⟨_, hS, rfl⟩
    have i1 := F.called_set.init.lookup
    have i2 := F.called_set.init.bind (.ref s.heap.objs.size)
    have hl2 : (s.heap.push (bare0 w)).IsList l items := hl.push _
    repeat (any_goals (first | assumption | wp_step))
    refine codeAny_mono (fill_list (E := E) (s := { s with heap := s.heap.push (bare0 w) }) ns (by simp [hh]) hS hl2 hit hb) fun r2 s2 hr2 => ?_
    match r2, hr2 with
    | .error e, hr2 => exact hr2
    | .ok (.ret v), hr2 =>
      obtain ⟨rfl, h', tk, c, rfl, hR, hc, kk⟩ := hr2
      repeat (any_goals (first | assumption | wp_step))
      exact h _ _ _ hR hc fun b o e => kk b o (Nat.ne_of_lt (Heap.lt_size e)) (Heap.get?_push_of_some _ e)
end

set_option autoImplicit false
section
variable {X : Cx}
def rSetOfI (K : PySem.W.Frag) (w : World) : List V → Hp → VK → Prop := fun xs H Q => ∃ (l : Addr) (ns : List Int), xs = [V.ref l] ∧ SqL K H l (ns.map V.int) ∧ ns.length < 64 ∧
  ∀ a c, H a = none → c ≤ ns.length → Q (.ref a) (upd H a (SetO w a (fun j => decide (j ∈ ns)) c))
theorem cr_setOfI (hc : X.calm = true) : CallR X (.type "set") (rSetOfI X.K X.w) := by
  intro pins s σ H xs us Q I r h
  obtain ⟨l, ns, rfl, hs, hl, q⟩ := h
  rw [Vals.ref1 r]
  obtain ⟨its, rv, pl, hz⟩ := I.list hs
  have hi : IntsAre its.toArray.toList ns := ints_of_vals rv
  refine call_set_listI ns (I.ok.hd hc) pl.isList hi (by unfold scanBound; omega) fun h' tk c R hcn k => ?_
  exact ⟨.ref _, upd H s.heap.objs.size (SetO X.w s.heap.objs.size (fun j => decide (j ∈ ns)) c), I.laid (t' := tk) k (Nat.le_refl _) (setO_new R), rfl, q _ c (I.hok.fresh (Nat.le_refl _)) hcn⟩
end
def gSortSetI (r : R) : Res R := match r.d with
  | .lst ds => match intsOf ds with
    | some ns => if ns.length < 64 then .ok ⟨.lst ((isort (ddI ns)).map .int), 1, [], []⟩ else .bad
    | none => .bad
  | _ => .bad
def fSortSetI (f : FE) : FE := fun ρ => (f ρ).bind gSortSetI
section
variable {X : Cx} {W : WK} {a b : Expr} {fa fb : FE} {p p2 q pos pos2 : Pos}
theorem e_sortSetI (hc : X.calm = true) (hg : Gl X "sorted") (hm : X.mg "sorted" = none) (hg2 : Gl X "set") (hm2 : X.mg "set" = none) (ha : PE X a (rdE W fa)) (na : starEach [a] X.env = (false, eval a X.env) :: starEach [] X.env := by rfl)
    (nb : starEach [.Call (.Name "set" p2) [a] [] q] X.env = (false, eval (.Call (.Name "set" p2) [a] [] q) X.env) :: starEach [] X.env := by rfl) : PE X (.Call (.Name "sorted" p) [.Call (.Name "set" p2) [a] [] q] [] pos) (rdE W (fSortSetI fa)) :=
  peI (pe_callB (cr_sortedSet hc) hg hm PyProof.Rows.boot_sorted (pa_cons (pe_callTy (cr_setOfI hc) hg2 hm2 PyProof.Rows.boot_set (pa_cons ha pa_nil na) (by decide) (by decide) na rfl) pa_nil nb) (by decide) (by decide) nb rfl) fun σ H Q ⟨S0, ρ, F, E, qq⟩ => post_bind E qq fun r v H1 fp s1 n1 v1 E1 p1 => by
    have z := v1.fz (E.nin n1 _)
    unfold gSortSetI at p1
    split at p1
    · rename_i ds e
      split at p1
      · rename_i ns hn
        split at p1
        · rename_i hl
          obtain ⟨l, xs, rfl, ha, lx⟩ := z.lst e
          rw [lx.ofInts hn] at ha
          refine ⟨l, ns, rfl, SqL.of ha, hl, fun A c nA hc2 => ?_⟩
          have smA : Same H1 (upd H1 A (SetO X.w A (fun j => decide (j ∈ ns)) c)) := same_upd nA
          refine ⟨A, _, c, rfl, upd_same, by omega, fun ms B pw hm hlen nB => ?_⟩
          have E2 := E1.grow smA
          have p2 := p1.grow smA
          have e1 : ms = isort (ddI ns) := by
            refine sorted_uniq (List.Perm.trans ?_ (isort_perm _).symm) (pw.imp fun h => Int.le_of_lt h) (isort_sorted _)
            refine (List.perm_ext_iff_of_nodup (pw.imp fun h => Int.ne_of_lt h) (ddI_nodup ns)).mpr fun m => ?_
            rw [hm, ddI_mem, decide_eq_true_eq]
          subst e1
          exact post_lst E2 p2 (RpL.ints _) B nB
        · exact p1.elim
      · exact p1.elim
    · exact p1.elim
end
def zSortSetI (ns : List Int) : Option (List Int) := if ns.length < 64 then some (isort (ddI ns)) else none
section
variable {S S' : Spec} {fa fb fc : FE} {i : Nat} {ka kb kc kk : Option Nat} {Ea Ca Eb Cb Ec Cc E C : List Nat}
theorem re_zSortSetI {ns v : List Int} (ha : RE S fa ns ka Ea Ca) (h : zSortSetI ns = some v) : RE S (fSortSetI fa) v (some 1) [] [] := by
  unfold zSortSetI at h
  split at h
  · rename_i hl
    cases h
    refine re_un ha fun ra g1 => ?_
    obtain ⟨k1, e1, c1, rfl, _⟩ := rd1 g1
    refine ⟨⟨.lst ((isort (ddI ns)).map .int), 1, [], []⟩, ?_, rfl, fun m q => by cases q; rfl, fun j hj => (by cases hj), fun j hj => (by cases hj)⟩
    show gSortSetI ⟨.lst (ns.map .int), k1, e1, c1⟩ = _
    unfold gSortSetI
    simp only [ints_map]
    rw [if_pos hl]
  · cases h
end
/-! ### bool(x) -/
def gBool := on1 fun r => match r.d with
  | .int i => okB (i != 0)
  | .bl k => okB k
  | _ => .bad
theorem ok_bool : BOk (fun xs H Q => (∃ i, xs = [.int i] ∧ Q (.bl (i != 0)) H) ∨ ∃ k, xs = [.bl k] ∧ Q (.bl k) H) gBool := by
  intro S0 ρ σ H F W rs vs Q E l p
  obtain ⟨r, v, rfl, z, p⟩ := on1_ok l p
  · skip
    split at p
    · rename_i i e
      exact .inl ⟨i, by rw [z.int e], okB_post p⟩
    · rename_i i e
      exact .inr ⟨i, by rw [z.bl e], okB_post p⟩
    · exact p.elim
section
variable {S : Spec} {fa : FE} {ka : Option Nat} {Ea Ca : List Nat}
theorem re_boolI {a : Int} (ha : RE S fa a ka Ea Ca) : RE S (fB gBool (fCons fa fNil)) (a != 0) (some 0) [] [] := re_b1 ha fun ra g1 => by
  obtain ⟨k1, e1, c1, rfl, _⟩ := rd1 g1
  exact ⟨_, rfl, gv0⟩
theorem re_boolB {a : Bool} (ha : RE S fa a ka Ea Ca) : RE S (fB gBool (fCons fa fNil)) a (some 0) [] [] := re_b1 ha fun ra g1 => by
  obtain ⟨k1, e1, c1, rfl, _⟩ := rd1 g1
  exact ⟨_, rfl, gv0⟩
end
end PyL

set_option maxHeartbeats 4000000
/-! errors of the program's own classes over ValueError, whose __init__ says super().__init__('..') and then stores its parameters -/
namespace PyL
open PySem PySem.Spec L2 PySem.W PySem.Calls PyProof.Rows PySem.HandSPX
set_option autoImplicit false

/-! ### the text of __init__ -/
def iniSup (m : Str) (j : Nat) (a1 a2 a3 a4 a5 a6 : Pos) : Stmt := .Expr (.Call (.Attribute (.Call (.Name "super" a1) [] [] a2) "__init__" a3) [.Constant (.str m) j a4] [] a5) a6
def iniFld (f : Str) (q1 q2 q3 q4 : Pos) : Stmt := .Assign [.Attribute (.Name "self" q1) f q2] (.Name f q3) q4
/-- what the text of __init__ says -/
structure IniT (fs : List Str) (params : Arguments) (body : List Stmt) (scope : Scope) : Prop where
  bind : ∀ (qn : Str) (kV doc pm cdv ct : Value) (an : Option Addr) (cc : Addr) (us : List Value), us.length = fs.length + 1 → bindArgs (ksFn "__init__" qn params body scope .none kV doc pm an cdv ct cc) ⟨us, []⟩ = pure ((PySem.Str.ofString "self" :: fs).zip us)
  kind : scope.kind = .function
  co : scope.isCoroutine = false
  gen : scope.isGenerator = false
  cell : ∀ x ∈ scope.names, x.2 ≠ .cell
  k1 : scope.names.lookup (PySem.Str.ofString "self") = some .local
  k2 : scope.names.lookup (PySem.Str.ofString "super") = some .globalImplicit
  k3 : scope.names.lookup (PySem.Str.ofString "__class__") = some .free
  kf : ∀ f ∈ fs, scope.names.lookup f = some .local ∧ (f == (PySem.Str.ofString "self" : Str)) = false ∧ (f == (PySem.Str.ofString "__debug__" : Str)) = false
  inter : ∀ (qe : Str) (L fI cda cc : Addr), interactive (ksEnv qe scope L fI (.ref cda) cc) = false
  hps : params.posonlyargs = []
  hpa : ∃ p1 ps, params.args = { arg := PySem.Str.ofString "self", annotation := none, pos := p1 } :: ps
  txt : ∃ (m : Str) (j : Nat) (a1 a2 a3 a4 a5 a6 : Pos) (rest : List Stmt), body = iniSup m j a1 a2 a3 a4 a5 a6 :: rest ∧ ((fs = [] ∧ rest = []) ∨ ∃ (f : Str) (q1 q2 q3 q4 : Pos), fs = [f] ∧ rest = [iniFld f q1 q2 q3 q4]) ∧
    ∀ (qe : Str) (L fI cda cc : Addr), ∃ pl : Sem Bool, eval (.Call (.Attribute (.Call (.Name "super" a1) [] [] a2) "__init__" a3) [.Constant (.str m) j a4] [] a5) (ksEnv qe scope L fI (.ref cda) cc) = (do
      let ov ← attributeBase (.Call (.Name "super" a1) [] [] a2) "__init__" (ksEnv qe scope L fI (.ref cda) cc) (eval (.Call (.Name "super" a1) [] [] a2) (ksEnv qe scope L fI (.ref cda) cc))
      standAt a3.atName
      let (f, first) ← holding [ov] (getMethod ov "__init__" pl)
      callWith a5 f first (backTo a5 (starEach [.Constant (.str m) j a4] (ksEnv qe scope L fI (.ref cda) cc))) [])

/-- the class of an error, as the top has written it: nm its name, fs its fields, C where it stands -/
structure ErrC (P : Program) (K : Frag) (mg : Str → Option Value) (nm : Str) (fs : List Str) (C : Addr) : Prop where
  gC : mg nm = some (.ref C)
  gS : mg "super" = none
  cls : ∃ nm' q N bs bm sn sub ab col dd k0 k1 k2 k3 k5, K.lookup C = some (excClassObj nm' q C N bs bm true sn sub ab col dd k0 k1 k2 k3 k5 "ValueError.__new__") ∧ refsVE bm = true
  sa : findIn K (.ref C) "__setattr__" = some (some (.builtin "object.__setattr__"))
  ga : findIn K (.ref C) "__getattribute__" = some (some (.builtin "BaseException.__getattribute__"))
  gg : findIn K (.ref C) "__getattr__" = some none
  noN : ∀ f ∈ fs, findIn K (.ref C) f = some none
  kC : keepIn K (.ref C) = true
  exC : subIn K (.ref C) (.type "BaseException") = some true
  veC : subIn K (.ref C) (.type "ValueError") = some true
  tyC : typeIn K (.ref C) = some (.type "type")
  hdC : hasDictIn K C = true
  slf : mroIn K C (.ref C) = some true
  opq : nsIn K cStatics "thirdparty.any" = some none
  sup : ks_superIn K C C "__init__" = some (some (.builtin "ValueError.__init__"))
  top : (P.main.scope.names.lookup ("super" : Str)).isSome = false
  ini : ∃ (fI cc cda : Addr) (params : Arguments) (body : List Stmt) (scope : Scope) (qn : Str) (oc kV doc pm ct : Value) (od an : Option Addr) (osl : Array (Option Value)) (cl ccl : Value) (cld cdd : Option Addr) (csl ccs : Array (Option Value)) (vs : Array Value) (file : Str) (tf : Tok),
    IniT fs params body scope ∧ findIn K (.ref C) "__init__" = some (some (.ref fI)) ∧ typeIn K (.ref fI) = some (.type "function") ∧
    K.lookup fI = some ⟨oc, od, .func (ksFn "__init__" qn params body scope .none kV doc pm an (.ref cda) ct cc), osl⟩ ∧ codeIn K (.ref cda) qn = true ∧
    K.lookup cc = some ⟨cl, cld, .cell (some (.ref C)), csl⟩ ∧ K.lookup cda = some ⟨ccl, cdd, .fields vs, ccs⟩ ∧ vs[2]? = some (.str file tf) ∧ ((P.main.file : Str) == file) = true

section
variable {prog : Program} {w : World} {A : Around} {E : Value → Shared → Prop} {h : Heap} {g : Array GenState} {d : Drawn} {t : Nat} {os : OsState}
variable {nm q : Str} {C N : Addr} {bs bm : List Value} {hdct : Bool} {sn : List Str} {sub : List Value} {ab : Bool} {col : Option Bool} {dd : Option Addr} {k0 k1 k2 k3 k5 : Option Value}
/-- the bound ValueError.__init__ is called: the args are laid anew -/
theorem call_mw {u e t0 : Addr} {rest : List Value} {Q : Value → Shared → Prop}
    (hC : h.get? C = some (excClassObj nm q C N bs bm hdct sn sub ab col dd k0 k1 k2 k3 k5 "ValueError.__new__")) (he : h.get? e = some (excO C t0)) (hu : h.get? u = some (kxs_mw "ValueError.__init__" e)) (hrest : rest.length ≤ sizeLine)
    (hq : ∀ h' t1, (∀ b o, b ≠ e → h.get? b = some o → h'.get? b = some o) → h'.get? e = some (excO C t1) → Q .none ⟨h', g, d, t, os⟩) :
    wpAny (model prog w) A (call (.ref u) rest) Q E ⟨h, g, d, t, os⟩ := by
  refine wpAny_call (codeAny_of_tree ?_)
  show wpAny _ A.in1 (callAny (.ref u) ⟨rest, []⟩) _ _ _
  simp only [callAny]
  refine wpAny_bind (wpAny_load hu ?_)
  simp only [kxs_mw, show (Value.type "method-wrapper" == Value.type "method" || Value.type "method-wrapper" == Value.type "builtin_function_or_method" || Value.type "method-wrapper" == Value.type "method-wrapper") = true by decide, if_true]
  refine W.KFB.if_so (by decide) ?_
  refine wpAny_bind (check_bound_init F.excBase_ValueError.toExcCallFacts hC he rfl ?_)
  refine wpAny_bind (wpAny_pure (wpAny_pure ?_))
  refine ⟨plainId_quiet F.excBase_ValueError.init.plain _, codeAny_builtin F.excBase_ValueError.initEntry ?_⟩
  exact exc_init_tree (cls := .ref C) (t0 := t0) (dv := none) (c2 := .none) (c3 := .none) (b4 := .bool false) he hrest fun h' k e' _ => hq h' _ k e'
end

/-- the module's and the built-in names, where they stand -/
structure GlobOk (mg : Str → Option Value) (h : Heap) : Prop where
  glob : h.Ns mainGlobals mg
  blt : ∃ mb, h.Ns builtinsNs mb ∧ ∀ x : Str, x ≠ "__name__" → mb x = bootBuiltins x
theorem GlobOk.keeps {mg : Str → Option Value} {h h' : Heap} (G : GlobOk mg h) (k : ∀ b o, h.get? b = some o → h'.get? b = some o) : GlobOk mg h' :=
  ⟨G.glob.keeps k, let ⟨mb, h1, h2⟩ := G.blt; ⟨mb, h1.keeps k, h2⟩⟩

section
variable {P : Program} {w : World} {A : Around} {E : Value → Shared → Prop} {h : Heap} {g : Array GenState} {d : Drawn} {t : Nat} {os : OsState} {K : Frag} {mg : Str → Option Value}
theorem super_ini {nm : Str} {fs : List Str} {C : Addr} (T : ErrC P K mg nm fs C) {fI cc cda L x t0 : Addr} {params : Arguments} {body : List Stmt} {scope : Scope} {qn qe : Str} {oc kV doc pm ct : Value} {od an : Option Addr} {osl : Array (Option Value)} {cl ccl : Value} {cld cdd : Option Addr} {csl ccs : Array (Option Value)} {vs : Array Value} {file : Str} {tf : Tok} {p1 : Pos} {ps : List Arg} {m : Str → Option Value} {body' : List Stmt}
    (X : K.In h) (G : GlobOk mg h) (hns : h.Ns L m) (hm : m (PySem.Str.ofString "self") = some (.ref x)) (hx : h.get? x = some (excO C t0)) (hnx : K.lookup x = none)
    (lk : K.lookup fI = some ⟨oc, od, .func (ksFn "__init__" qn params body scope .none kV doc pm an (.ref cda) ct cc), osl⟩) (hps : params.posonlyargs = []) (hpa : params.args = { arg := PySem.Str.ofString "self", annotation := none, pos := p1 } :: ps)
    (lc : K.lookup cc = some ⟨cl, cld, .cell (some (.ref C)), csl⟩) (la : K.lookup cda = some ⟨ccl, cdd, .fields vs, ccs⟩) (hvs : vs[2]? = some (.str file tf)) (hfile : ((P.main.file : Str) == file) = true)
    (hk : scope.kind = .function) (k1 : scope.names.lookup (PySem.Str.ofString "self") = some .local) (k2 : scope.names.lookup (PySem.Str.ofString "super") = some .globalImplicit) (k3 : scope.names.lookup (PySem.Str.ofString "__class__") = some .free)
    {mt : Str} {j : Nat} {a1 a2 a3 a4 a5 a6 : Pos} {Q : Flow → Shared → Prop} (hi : interactive (ksEnv qe scope L fI (.ref cda) cc) = false) {pl : Sem Bool}
    (hev : eval (.Call (.Attribute (.Call (.Name "super" a1) [] [] a2) "__init__" a3) [.Constant (.str mt) j a4] [] a5) (ksEnv qe scope L fI (.ref cda) cc) = (do
      let ov ← attributeBase (.Call (.Name "super" a1) [] [] a2) "__init__" (ksEnv qe scope L fI (.ref cda) cc) (eval (.Call (.Name "super" a1) [] [] a2) (ksEnv qe scope L fI (.ref cda) cc))
      standAt a3.atName
      let (f, first) ← holding [ov] (getMethod ov "__init__" pl)
      callWith a5 f first (backTo a5 (starEach [.Constant (.str mt) j a4] (ksEnv qe scope L fI (.ref cda) cc))) []))
    (hq : ∀ h' t1 tk, (∀ b o, b ≠ x → h.get? b = some o → h'.get? b = some o) → h'.get? x = some (excO C t1) → Q .next ⟨h', g, d, tk, os⟩) :
    _root_.PySem.wpAt (model P w) A (.func body' (ksEnv qe scope L fI (.ref cda) cc)) (exec (iniSup mt j a1 a2 a3 a4 a5 a6) (ksEnv qe scope L fI (.ref cda) cc)) Q E ⟨h, g, d, t, os⟩ := by
  obtain ⟨nm', q, N, bs, bm, sn, sub, ab, col, dd, k0, k1', k2', k3', k5, hC, hbm⟩ := T.cls
  have hcl : clsIn K C = some { name := nm', bases := bs, mro := .ref C :: bm, ns := N, qualname := q, hasDict := true, slotNames := sn, subclasses := sub, abstract := ab, collection := col, hasDel := false } := by unfold clsIn; rw [hC] <;> rfl
  obtain ⟨mb, hb1, hb2⟩ := G.blt
  obtain ⟨oD, hD1, hD2⟩ : ∃ oD, h.get? C = some oD ∧ ∃ cd, oD.data = .cls cd := ⟨_, X _ _ hC, _, rfl⟩
  obtain ⟨cdD, hD2⟩ := hD2
  have hxC : x ≠ C := fun z => by rw [z, hC] at hnx; cases hnx
  have I : PySem.W.InstAt h x (excO C t0) C none := ⟨hx, rfl, rfl, trivial⟩
  refine ks_wpAt_Expr_any ?_ hi rfl
  refine ks_wpAt_MethodCall (pl := pl) ?_ hev
  refine ks_wpAt_super_base (env := ksEnv qe scope L fI (.ref cda) cc) k2 k3 (by decide) rfl (X _ _ lk) rfl (ar := { arg := PySem.Str.ofString "self", annotation := none, pos := p1 }) (by show (params.posonlyargs ++ params.args).head? = _; rw [hps, hpa]; rfl) rfl (X _ _ la) rfl hvs hfile T.top ?_
  refine ks_loadName_global hk k2 (Calls.loadGlobal_builtin (env := ksEnv qe scope L fI (.ref cda) cc) G.glob T.gS hb1 ((hb2 _ (by decide)).trans (by rfl)) ⟨rfl, ?_⟩)
  refine wpAny_loadName_free hk k3 rfl ⟨_, X _ _ lc, rfl⟩ ?_
  refine wpAny_loadName_local hk k1 hns hm ?_
  refine ks_wpAny_isType_cls hD1 hD2 ⟨rfl, ?_⟩
  refine ks_wpAny_call_super hD1 hD2 hx rfl (fun c e => by cases e) (looks_mroIn X T.slf) (fun h1 e1 kk => ?_)
  have X1 : K.In h1 := X.keeps kk
  have hsup : alongIn K "__init__" (((Value.ref C :: bm).dropWhile (· != .ref C)).drop 1) = some (some (.builtin "ValueError.__init__")) := by
    have z := T.sup
    unfold ks_superIn at z
    rw [hcl] at z
    exact z
  have I1 : PySem.W.InstAt h1 x (excO C t0) C none := ⟨kk _ _ hx, rfl, rfl, trivial⟩
  refine kxs_getMethod kxs_ValueError e1 (looks_opaque X1 T.opq) (l₀ := Value.ref C :: bm) (fun A Q E s k q => wpAny_bind ((looks_clsIn X1 hcl) A _ E s k (wpAny_pure q))) rfl X1 hsup (I1.type.andThen (looks_subIn X1 T.veC)) hxC (by decide) ?_
  have k2 : ∀ b o, h1.get? b = some o → (h1.push (kxs_mw "ValueError.__init__" x)).get? b = some o := fun b o e => Heap.get?_push_of_some _ e
  refine kxs_callWith (first := []) (i := "ValueError.__init__") (x := x) rfl ?_
  refine evalArgs_plain ?_
  refine wpAny_mono (Q := fun us s' => us.length = 1 ∧ s'.heap = h1.push (kxs_mw "ValueError.__init__" x) ∧ s'.gens = g ∧ s'.drawn = d ∧ s'.os = os) (E := E) ?_ (fun us s' hs => ?_) fun _ _ z => z
  · show wpAny _ _ (spliced (backTo a5 (starEach [.Constant (.str mt) j a4] _))) _ _ _
    wp_walk
    first | exact ⟨rfl, rfl, rfl, rfl, rfl⟩ | trivial
  · obtain ⟨hl, e2, e3, e4, e5⟩ := hs
    obtain ⟨h2, g2, d2, tk2, os2⟩ := s'
    dsimp only at e2 e3 e4 e5
    subst e2 e3 e4 e5
    have hu : (h1.push (kxs_mw "ValueError.__init__" x)).get? h1.objs.size = some (kxs_mw "ValueError.__init__" x) := Heap.get?_push_at rfl rfl
    refine ⟨hu, ?_⟩
    refine call_mw (k2 _ _ (X1 _ _ hC)) (k2 _ _ (kk _ _ hx)) hu (by rw [List.nil_append, hl, sizeLine_eq]; omega) fun h3 t1 k3 e3 => ?_
    exact hq h3 t1 _ (fun b o hb e => k3 b o hb (k2 b o (kk b o e))) e3
end

/-- what __init__ leaves of a fresh error at x -/
structure ErrEnd (h h' : Heap) (x C : Addr) (d : Option Addr) (fs : List Str) (vs : List Value) : Prop where
  keep : ∀ b o, b ≠ x → h.get? b = some o → h'.get? b = some o
  obj : ∃ t1 : Addr, h'.get? x = some { cls := .ref C, dict := d, data := .fields #[.ref t1, .none, .none, .none, .bool false, .none] }
  dct : match d with
    | none => fs = []
    | some dx => h.objs.size ≤ dx ∧ dx ≠ x ∧ fs.length = 1 ∧ ∃ mA, h'.Ns1 dx mA ∧ ∀ y, mA y = (fs.zip vs).lookup y
section
variable {P : Program} {w : World} {A : Around} {R : Result → Shared → Prop} {s : Shared} {K : Frag} {mg : Str → Option Value} {nm : Str} {fs : List Str} {C : Addr}
theorem ldK {M : Model} {E : Value → Shared → Prop} {qn : Str} {scope : Scope} {L a cc : Addr} {cd : Value} {m : Str → Option Value} {x : Str} {pos : Pos} {v : Value} {Q : Value → Shared → Prop} (hn : s.heap.Ns L m) (hv : m x = some v) (hk : scope.kind = .function) (hl : scope.names.lookup x = some .local)
    (hd : (x == ("__debug__" : Str)) = false) (h : Q v s) : wpAny M A (eval (.Name x pos) (ksEnv qn scope L a cd cc)) Q E s := wpAny_Name (wpAny_loadName_local hk hl hn hv h) hd
theorem err_init (T : ErrC P K mg nm fs C) {x t0 fI : Addr} {vs : List Value} (hl : vs.length = fs.length) (X : K.In s.heap) (G : GlobOk mg s.heap) (hlim : s.heap.NoLimit) (hx : s.heap.get? x = some (excO C t0)) (hnx : K.lookup x = none) (hroom : A.depth < recursionLimit)
    (hfI : findIn K (.ref C) "__init__" = some (some (.ref fI))) (hq : ∀ h' tk d, ErrEnd s.heap h' x C d fs vs → R (.ok (.ret .none)) { s with heap := h', toks := tk }) : codeAny (model P w) A (.call (.ref fI) ⟨.ref x :: vs, []⟩) R s := by
  obtain ⟨fI', cc, cda, params, body, scope, qn, oc, kV, doc, pm, ct, od, an, osl, cl, ccl, cld, cdd, csl, ccs, us, file, tf, B, hf, tI, lk, hcd, lc, la, hvs, hfile⟩ := T.ini
  rw [hfI] at hf
  cases hf
  obtain ⟨nm', q, N, bs, bm, sn, sub, ab, col, dd, k0, k1, k2, k3, k5, hC, hbm⟩ := T.cls
  have hcl : clsIn K C = some { name := nm', bases := bs, mro := .ref C :: bm, ns := N, qualname := q, hasDict := true, slotNames := sn, subclasses := sub, abstract := ab, collection := col, hasDel := false } := by unfold clsIn; rw [hC] <;> rfl
  have hnoN := T.noN
  obtain ⟨p1, ps, hpa⟩ := B.hpa
  obtain ⟨mt, j, a1, a2, a3, a4, a5, a6, rest, rfl, hrest, hev⟩ := B.txt
  have hb := B.bind qn kV doc pm (.ref cda) ct an cc (.ref x :: vs) (by rw [List.length_cons, hl])
  have hloc : ∀ y ∈ (PySem.Str.ofString "self" :: fs).zip (Value.ref x :: vs), scope.names.lookup y.1 = some .local := fun y hy => by
    rcases List.mem_cons.mp (List.of_mem_zip hy).1 with e | e
    · rw [e]; exact B.k1
    · exact (B.kf _ e).1
  have hself : ∀ {fs : List Str} {vs : List Value}, (∀ f ∈ fs, (f == (PySem.Str.ofString "self" : Str)) = false) → ((PySem.Str.ofString "self" :: fs).zip (Value.ref x :: vs)).reverse.lookup (PySem.Str.ofString "self") = some (.ref x) := by
    intro fs vs hf
    rw [List.zip_cons_cons, List.reverse_cons, List.lookup_append]
    have : ((fs.zip vs).reverse).lookup (PySem.Str.ofString "self") = none := by
      rw [List.lookup_eq_none_iff]
      intro p hp
      have := hf p.1 (List.of_mem_zip (List.mem_reverse.mp hp)).1
      have e : p.1 ≠ PySem.Str.ofString "self" := by simpa using this
      simpa using fun z => e z.symm
    rw [this]
    simp [List.lookup]
  refine ks_codeAny_call_defAt (binds := (PySem.Str.ofString "self" :: fs).zip (Value.ref x :: vs)) hroom (X _ _ lk) rfl hlim (codeRec_of X hcd) rfl (BindsTo.of_eq hb) B.cell hloc (fun h1 hn kk => ?_) B.co B.gen B.kind
  refine ks_wpAt_execs_cons ?_
  obtain ⟨pl, hev⟩ := hev qn s.heap.objs.size fI cda cc
  refine super_ini (P := P) (body := iniSup mt j a1 a2 a3 a4 a5 a6 :: rest) T (X.keeps kk) (G.keeps kk) hn (hself fun f hf => (B.kf f hf).2.1) (kk _ _ hx) hnx (lk := lk) B.hps hpa lc la hvs hfile B.kind B.k1 B.k2 B.k3 (B.inter ..) hev fun h2 t1 tk k2 e2 => ?_
  rcases hrest with ⟨rfl, rfl⟩ | ⟨f, q1, q2, q3, q4, rfl, rfl⟩
  · exact wpAt_of_wpAny (wpAny_execs_nil (hq h2 tk none ⟨fun b o hb e => k2 b o hb (kk b o e), ⟨t1, e2⟩, rfl⟩))
  · cases vs with
    | nil => simp at hl
    | cons v vs =>
      cases vs with
      | cons _ _ => simp at hl
      | nil =>
        have bf := B.kf f (by simp)
        have hxL : s.heap.objs.size ≠ x := Nat.ne_of_gt (Heap.lt_size hx)
        have hn2 : h2.Ns s.heap.objs.size (fun y => ((PySem.Str.ofString "self" :: [f]).zip (Value.ref x :: [v])).reverse.lookup y) := by
          obtain ⟨o, es, ep, ho, r⟩ := hn
          exact ⟨o, es, ep, k2 _ _ hxL ho, r⟩
        have mself := hself (fs := [f]) (vs := [v]) fun g hg => by rw [List.mem_singleton.mp hg]; exact bf.2.1
        have mf : ((PySem.Str.ofString "self" :: [f]).zip (Value.ref x :: [v])).reverse.lookup f = some v := by
          show List.lookup f [(f, v), (PySem.Str.ofString "self", Value.ref x)] = some v
          rw [List.lookup_cons, beq_self_eq_true]
        have X2 : K.In h2 := fun a o e => k2 a o (fun z => by rw [z, hnx] at e; cases e) (kk _ _ (X a o e))
        refine wpAt_of_wpAny (wpAny_execs_cons (plainObj_wpAny_Assign_Attribute ?_))
        refine ldK hn2 mf B.kind bf.1 bf.2.2 (ldK hn2 mself B.kind B.k1 (by decide) ?_)
        refine set_plain X2 (ox := excO C t1) (od := none) ⟨e2, rfl, rfl, trivial⟩ T.sa ?_
        refine exc_osa X2 e2 hcl (show refsVE (.ref C :: bm) = true from hbm) rfl (hnoN f (by simp)) (fun h3 tk3 dx k3 dn dne hx3 hn3 => ?_)
        refine wpAny_execs_nil (hq h3 tk3 (some dx) ⟨fun b o hb e => k3 b o hb (k2 b o hb (kk b o e)), ⟨t1, hx3⟩, ?_, dne, rfl, _, hn3, fun y => ?_⟩)
        · have z : s.heap.objs.size < h2.objs.size := hn2.lt
          exact Nat.le_of_lt (Nat.lt_of_lt_of_le z dn)
        · show (if y = f then some v else none) = List.lookup y [(f, v)]
          by_cases hy : y = f
          · rw [if_pos hy, hy, List.lookup_cons, beq_self_eq_true]
          · have : (y == f) = false := by simpa using hy
            rw [if_neg hy, List.lookup_cons, this]
            rfl
end

/-- a made error -/
structure ErrMade (h h' : Heap) (e C : Addr) (d : Option Addr) (fs : List Str) (vs : List Value) : Prop where
  keep : ∀ b o, h.get? b = some o → h'.get? b = some o
  new : h.objs.size ≤ e
  obj : ∃ t1 : Addr, h'.get? e = some { cls := .ref C, dict := d, data := .fields #[.ref t1, .none, .none, .none, .bool false, .none] }
  dct : match d with
    | none => fs = []
    | some dx => h.objs.size ≤ dx ∧ dx ≠ e ∧ fs.length = 1 ∧ ∃ mA, h'.Ns1 dx mA ∧ ∀ y, mA y = (fs.zip vs).lookup y
section
variable {P : Program} {w : World} {A : Around} {R : Result → Shared → Prop} {s : Shared} {K : Frag} {mg : Str → Option Value} {nm : Str} {fs : List Str} {C : Addr}
theorem err_made (T : ErrC P K mg nm fs C) {vs : List Value} (hl : vs.length = fs.length) (hz : vs.length ≤ sizeLine) (X : K.In s.heap) (G : GlobOk mg s.heap) (hlim : s.heap.NoLimit) (hroom : A.depth + 1 < recursionLimit)
    (hq : ∀ h' tk e d, ErrMade s.heap h' e C d fs vs → R (.ok (.ret (.ref e))) { s with heap := h', toks := tk }) : codeAny (model P w) A (.call (.ref C) ⟨vs, []⟩) R s := by
  obtain ⟨fI, cc, cda, params, body, scope, qn, oc, kV, doc, pm, ct, od, an, osl, cl, ccl, cld, cdd, csl, ccs, us, file, tf, B, hf, tI, lk, hcd, lc, la, hvs, hfile⟩ := T.ini
  obtain ⟨nm', q, N, bs, bm, sn, sub, ab, col, dd, k0, k1, k2, k3, k5, hC, hbm⟩ := T.cls
  obtain ⟨hp, g, dr, tk, os⟩ := s
  have k : ∀ b o, hp.get? b = some o → ((hp.push (kdv_tup vs)).push (excO C hp.objs.size)).get? b = some o := fun b o e => Heap.get?_push_of_some _ (Heap.get?_push_of_some _ e)
  have hget : ((hp.push (kdv_tup vs)).push (excO C hp.objs.size)).get? (hp.objs.size + 1) = some (excO C hp.objs.size) := by heap_get
  have hnx : K.lookup (hp.objs.size + 1) = none := by
    cases e : K.lookup (hp.objs.size + 1) with
    | none => rfl
    | some o =>
      have z : hp.get? (hp.objs.size + 1) = some o := X _ _ e
      exact absurd (Nat.lt_of_succ_lt (Heap.lt_size z)) (Nat.lt_irrefl _)
  refine call_own F.excBase_ValueError (fun Y => refsVE_contains Y bm hbm) (X _ _ hC) (looks_findIn X hf) (fun self => bind_fn X self tI) hz ?_
  refine err_init (s := ⟨(hp.push (kdv_tup vs)).push (excO C hp.objs.size), g, dr, tk, os⟩) T hl (X.keeps k) (G.keeps k) (hlim.keeps k) hget hnx ?_ hf fun h' tk' d ⟨k', hx, hd⟩ => ?_
  · show A.depth + 1 < recursionLimit
    exact hroom
  · have old : ∀ b o, hp.get? b = some o → h'.get? b = some o := fun b o e => k' b o (Nat.ne_of_lt (Nat.lt_succ_of_lt (Heap.lt_size e))) (k b o e)
    refine ⟨rfl, hq h' tk' (hp.objs.size + 1) d ⟨old, Nat.le_succ _, hx, ?_⟩⟩
    cases d with
    | none => exact hd
    | some dx =>
      obtain ⟨dn, dne, h1, mA, hns, hm⟩ := hd
      have z : hp.objs.size + 1 + 1 ≤ dx := by
        first
          | (simpa only [Heap.size_push] using dn)
          | exact dn
          | (have q := dn; rw [Heap.size_push, Heap.size_push] at q; exact q)
      exact ⟨Nat.le_trans (Nat.le_trans (Nat.le_succ _) (Nat.le_succ _)) z, dne, h1, mA, hns, hm⟩
end
theorem relO_zip {fs : List Str} : ∀ {vs : List V} {us : List Value}, Vals vs us → ∀ f, RelO ((fs.zip vs).lookup f) ((fs.zip us).lookup f) := by
  induction fs with
  | nil => intro vs us r f; simp [RelO]
  | cons g fs ih =>
    intro vs us r f
    cases r with
    | nil => simp [RelO]
    | cons r1 r2 =>
      rw [List.zip_cons_cons, List.zip_cons_cons, List.lookup_cons, List.lookup_cons]
      split
      · exact r1
      · exact ih r2 f
section
variable {X : Cx} {C : Addr} {nm : Str} {fs : List Str}
/-- nm(..) -/
def tMkErr (C : Addr) (fs : List Str) (ta : TA) : L2.St → Hp → XK → Prop := fun σ H Q => ta σ H fun vs H1 => vs.length = fs.length ∧ fs.length ≤ 1 ∧ (fs = [] → Q (.ref C) none H1) ∧ (fs ≠ [] → ∀ d, H1 d = none → Q (.ref C) (some d) (upd H1 d (.xd (fs.zip vs))))
theorem made_mk (T : ErrC X.prog X.K X.mg nm fs C) {pins : List (Addr × Obj)} {σ : L2.St} {H1 : Hp} {Q : XK} {s1 : Shared} {us : List Value} {vs : List V} {k : Nat} (hr : Room k X.A) (I1 : Inv X pins σ H1 s1) (r1 : Vals vs us) (hl : vs.length = fs.length) (h1 : fs.length ≤ 1) (q0 : fs = [] → Q (.ref C) none H1) (q1 : fs ≠ [] → ∀ d, H1 d = none → Q (.ref C) (some d) (upd H1 d (.xd (fs.zip vs)))) :
    wpAny (model X.prog X.w) X.A (call (.ref C) us) (L2N.MkP X pins σ Q) X.xe s1 := by
  have hlim := I1.nolimit
  have G : GlobOk X.mg s1.heap := ⟨I1.mod.glob.keeps I1.bk, let ⟨mb, h1, h2⟩ := I1.mod.blt; ⟨mb, h1.keeps I1.bk, h2⟩⟩
  have hlu : us.length = fs.length := by rw [← Paired.length r1, hl]
  obtain ⟨hp, g, dr, tk, os⟩ := s1
  refine wpAny_call (err_made T hlu (by rw [hlu, sizeLine_eq]; omega) I1.kIn G hlim (by have := hr.dp; omega) fun h' tk' e d M => ?_)
  show L2N.MkP X pins σ Q (.ref e) ⟨h', g, dr, tk', os⟩
  obtain ⟨t1, hoe⟩ := M.obj
  obtain ⟨G', g1, g2⟩ := restrict h' fun b => decide (b ≠ e)
  have gk : ∀ b, b ≠ e → G'.get? b = h'.get? b := fun b hb => g1 b (decide_eq_true hb)
  have ge : G'.get? e = none := g2 e (by simp)
  have old : ∀ b o, hp.get? b = some o → G'.get? b = some o := fun b o q => (gk b (Nat.ne_of_lt (Nat.lt_of_lt_of_le (Heap.lt_size q) M.new))).trans (M.keep b o q)
  have up : ∀ b o, G'.get? b = some o → h'.get? b = some o := fun b o q => by
    by_cases hb : b = e
    · rw [hb, ge] at q; cases q
    · exact (gk b hb).symm.trans q
  have zn : ∀ d, L2N.Zn (.ref C) d { cls := .ref C, dict := d, data := .fields #[.ref t1, .none, .none, .none, .bool false, .none] } := fun d => ⟨rfl, rfl, fun vs hv => by cases hv; rfl⟩
  have hd := M.dct
  cases d with
  | none =>
    have J : Inv X pins σ H1 ⟨G', g, dr, tk', os⟩ := I1.kept (t' := tk') old
    exact ⟨e, _, _, ⟨G', g, dr, tk', os⟩, _, .ref C, none, rfl, J, up, ge, hoe, zn _, rfl, rfl, I1.hok.fresh M.new, rfl, I1.bare, raises_own T.exC T.tyC, q0 hd⟩
  | some dx =>
    obtain ⟨dn, dne, h1f, mA, hns, hm⟩ := hd
    have ob : ObjOk X.prog X.w (upd H1 dx (.xd (fs.zip vs))) G' dx (.xd (fs.zip vs)) :=
      ⟨mA, hns.at (fun o q => (gk dx dne).trans q), fun f => by rw [hm]; exact relO_zip r1 f⟩
    have J : Inv X pins σ (upd H1 dx (.xd (fs.zip vs))) ⟨G', g, dr, tk', os⟩ := I1.laid (t' := tk') old dn ob
    refine ⟨e, _, _, ⟨G', g, dr, tk', os⟩, _, .ref C, some dx, rfl, J, up, ge, hoe, zn _, rfl, rfl, ?_, rfl, I1.bare, raises_own T.exC T.tyC, q1 (fun z => by rw [z] at h1f; cases h1f) dx (I1.hok.fresh dn)⟩
    rw [upd_ne (Ne.symm dne)]
    exact I1.hok.fresh M.new
theorem pmk_err {a : Expr} {es : List Expr} {ta : TA} {p pos : Pos} {k : Nat} (T : ErrC X.prog X.K X.mg nm fs C) (hr : Room k X.A) (hg : Gl X nm) (ha : PA X (a :: es) ta) (hdb : (nm == ("__debug__" : Str)) = false := by decide)
    (he : starEach (a :: es) X.env = (false, eval a X.env) :: starEach es X.env := by rfl) (hpl : (backTo pos (starEach es X.env)).any (·.1) = false := by rfl) :
    L2N.PMk X (.Call (.Name nm p) (a :: es) [] pos) (tMkErr C fs ta) := by
  intro pins s σ H Q I h
  refine wpAny_Call_Name_kw (ld_glob I hg T.gC ?_ hdb)
  refine PySem.W.callWith_K (h₀ := X.base) I.ok.mod.kin T.kC (thn (ha.run pos pins s σ H _ I h) fun us s1 hh => ?_) he hpl
  obtain ⟨vs, H1, I1, r1, hl, h1, q0, q1⟩ := hh
  exact ⟨I1.kIn, made_mk T hr I1 r1 hl h1 q0 q1⟩
theorem pmk_err0 {p pos : Pos} {k : Nat} (T : ErrC X.prog X.K X.mg nm fs C) (hr : Room k X.A) (hg : Gl X nm) (hdb : (nm == ("__debug__" : Str)) = false := by decide) : L2N.PMk X (.Call (.Name nm p) [] [] pos) (tMkErr C fs tNil) := by
  intro pins s σ H Q I h
  obtain ⟨hl, h1, q0, q1⟩ := h
  refine wpAny_Call_Name_kw (ld_glob I hg T.gC ?_ hdb)
  exact PySem.W.callWith_K0 I.kIn T.kC (made_mk T hr I .nil hl h1 q0 q1)
end
end PyL

set_option maxHeartbeats 2000000
namespace PyL
open PySem PySem.Spec L2
set_option autoImplicit false

/-! ### wishes by the classes' names -/
def wk (mg : Str → Option Value) (Wx : WX) : WK := fun nm d σ H => ∀ C, mg nm = some (.ref C) → Wx (.ref C) d σ H
theorem RpL.len {S : PA1} {H : Hp} {ds : List D} {xs : List V} (h : RpL S H ds xs) : ds.length = xs.length := h.length

/-! ### raise nm(..) -/
def sRaise (nm : Str) (fs : List Str) (fa : FA) : FS := stA fa fun rs ρ => if rs.length = fs.length ∧ fs.length ≤ 1 then .ex ⟨nm, fs.zip (rs.map (·.d))⟩ ρ else .bad
theorem raise_post {X : Cx} {Wx : WX} {nm : Str} {fs : List Str} {C : Addr} (T : ErrC X.prog X.K X.mg nm fs C) {Dn : Ends} {σ : St} {H : Hp} {fa : FA} (h : rdS (wk X.mg Wx) (sRaise nm fs fa) Dn σ H) :
    tMkErr C fs (rdA (wk X.mg Wx) fa) σ H fun cls d H' => Wx cls d σ H' := by
  obtain ⟨S0, H0, ρ, F, E, p⟩ := h
  refine ps_abind E p fun rs vs H1 fp s1 n1 l1 E1 p1 => ?_
  have nin : ∀ e : List Nat, ∀ a ∈ fp, ¬ inS S0 F e a := fun e a ha z => E.ee.fresh z (n1 a ha)
  have fz := l1.fz nin
  have rp := fz.rp (E := esL rs) fun r h => esL_mem h
  have lrs : (rs.map (·.d)).length = vs.length := rp.length
  split at p1
  · rename_i hl
    obtain ⟨hl, h1⟩ := hl
    have hv : vs.length = fs.length := by rw [← lrs, List.length_map, hl]
    refine ⟨hv, h1, fun h0 => ?_, fun h0 d hd => ?_⟩
    · subst h0
      exact p1 σ H1 F E1 none ⟨[], [], rfl, rfl, by simp⟩ C T.gC
    · have sm := same_upd (o := .xd (fs.zip vs)) hd
      have E2 := E1.grow sm
      refine p1 σ _ F E2 (some d) ⟨fs.zip vs, vs, ⟨fun z => ?_, upd_same⟩, ?_, ?_⟩ C T.gC
      · obtain ⟨o, ho⟩ := E.old d z
        have := E1.same _ _ ho
        rw [hd] at this; cases this
      · have e : (fs.zip (rs.map (·.d))).map (·.2) = rs.map (·.d) := by
          have h := List.map_snd_zip (l₁ := fs) (l₂ := rs.map (·.d)) (by rw [List.length_map, hl]; exact Nat.le_refl _)
          exact h
        rw [e]
        exact RpL.imp (fun b o q n => ⟨sm _ _ q, fun z => n (.inl z)⟩) _ _ rp
      · cases fs with
        | nil => exact absurd rfl h0
        | cons f fs' =>
          cases fs' with
          | cons _ _ => simp at h1
          | nil =>
            cases vs with
            | nil => simp at hv
            | cons v vs' =>
              cases vs' with
              | cons _ _ => simp at hv
              | nil =>
                cases rs with
                | nil => simp at hl
                | cons r rs' =>
                  cases rs' with
                  | cons _ _ => simp at hl
                  | nil =>
                    intro q hq
                    have : q = (f, v) := by simpa using hq
                    subst this
                    simp [List.lookup]
  · exact p1.elim
section
variable {X : Cx} {Wx : WX} {nm : Str} {fs : List Str} {C : Addr} {fa : FA} {k : Nat} {p pos pos' : Pos} {e : Expr} {es : List Expr}
theorem s_raise (T : ErrC X.prog X.K X.mg nm fs C) (hr : Room k X.A) (hc : X.calm = true) (tk : L2N.Takes X Wx) (hg : Gl X nm) (ha : PA X (e :: es) (rdA (wk X.mg Wx) fa)) (hdb : (nm == ("__debug__" : Str)) = false := by decide)
    (he : starEach (e :: es) X.env = (false, eval e X.env) :: starEach es X.env := by rfl) (hpl : (backTo pos (starEach es X.env)).any (·.1) = false := by rfl) :
    PS X (.Raise (some (.Call (.Name nm p) (e :: es) [] pos)) none pos') (rdS (wk X.mg Wx) (sRaise nm fs fa)) :=
  psI (L2N.ps_raise hc tk (pmk_err T hr hg ha hdb he hpl)) fun _ _ _ h => raise_post T h
theorem tnil_of {W : WK} {σ : St} {H : Hp} {Q : List V → Hp → Prop} (h : rdA W fNil σ H Q) : tNil σ H Q := by
  obtain ⟨S0, ρ, F, E, p⟩ := h
  exact p [] H [] (Same.refl H) (fun a ha => by cases ha) (by first | exact ⟨rfl, rfl⟩ | exact rfl | trivial)
theorem s_raise0 (T : ErrC X.prog X.K X.mg nm fs C) (hr : Room k X.A) (hc : X.calm = true) (tk : L2N.Takes X Wx) (hg : Gl X nm) (hdb : (nm == ("__debug__" : Str)) = false := by decide) :
    PS X (.Raise (some (.Call (.Name nm p) [] [] pos)) none pos') (rdS (wk X.mg Wx) (sRaise nm fs fNil)) :=
  psI (L2N.ps_raise hc tk (pmk_err0 T hr hg hdb)) fun _ _ _ h => tnil_of (raise_post T h)
end

/-! ### calls that may raise -/
def spX (mg : Str → Option Value) (n : Nat) (sem : DS) : Sp := fun vs H Q E => ∃ (S : PA1) (ds : List D), vs.length = n ∧ RpL S H ds vs ∧ (∀ a, S a → TrM H a) ∧ match sem ds with
  | .ok dk => ∀ v H' fp, Same H H' → (∀ a ∈ fp, H a = none) → Ow (fun a => S a ∨ a ∈ fp) H' dk.2 dk.1 v fp → Q v H'
  | .exn x => ∀ H' d, Same H H' → repF S x.fs d H' → ∀ C, mg x.cls = some (.ref C) → E (.ref C) d H'
  | .bad => False
def callX (n : Nat) (sem : DS) (rs : List R) : Res R := if rs.length = n then match sem (rs.map (·.d)) with
    | .ok dk => .ok (if af dk.2 dk.1 then ⟨dk.1, dk.2, [], []⟩ else ⟨dk.1, dk.2, esL rs, esL rs⟩)
    | .exn x => .exn x
    | .bad => .bad
  else .bad
def fCallX (n : Nat) (sem : DS) (fa : FA) : FE := fun ρ => (fa ρ).bind (callX n sem)
theorem rd_callX {mg : Str → Option Value} {Wx : WX} {fa : FA} {n : Nat} {sem : DS} {σ : St} {H : Hp} {Q : VK} (h : rdE (wk mg Wx) (fCallX n sem fa) σ H Q) : tCallS (spX mg n sem) (WE Wx) (rdA (wk mg Wx) fa) σ H Q := by
  obtain ⟨S0, ρ, F, E, p⟩ := h
  refine post_args E p fun rs vs H1 fp s1 n1 l1 E1 p1 => ?_
  have fz := l1.fz fun e => E.nin n1 e
  have rp := fz.rp (E := esL rs) fun r h => esL_mem h
  unfold callX at p1
  split at p1
  · rename_i hl
    refine ⟨inS S0 F (esL rs), rs.map (·.d), by rw [← rp.length, List.length_map, hl], rp, fun a z => E1.inTr z, ?_⟩
    cases q : sem (rs.map (·.d)) with
    | bad => rw [q] at p1; exact p1.elim
    | exn x =>
      rw [q] at p1
      intro H2 d s2 r C hC
      have p1 : ∀ H', Same H H' → ∀ d, repF S0 x.fs d H' → wk mg Wx x.cls d σ H' := p1
      exact p1 H2 (s1.trans s2) d (r.mono fun _ z => .inl z) C hC
    | ok dk =>
      rw [q] at p1
      intro v H2 fp2 s2 n2 o
      have E2 := E1.grow s2
      have n0 : ∀ a ∈ fp2, H a = none := fun a ha => s1.free (n2 a ha)
      simp only at p1
      split at p1
      · rename_i haf
        exact p1 v H2 fp2 (s1.trans s2) n0 (VR.of (Ow.af (fun a z => z.elim (fun z => E2.inTr z) (Ow.there _ _ _ _ o a)) _ _ _ _ haf o) (E.nin n0 _))
      · exact p1 v H2 fp2 (s1.trans s2) n0 (VR.of o (E.nin n0 _))
  · exact p1.elim

section
variable {X : Cx} {Wx : WX} {k n : Nat} {f : Addr} {fd : FuncData} {ps : List Str} {sem : DS} {x : Str} {p pos : Pos} {e : Expr} {es : List Expr} {fa : FA}
theorem e_callX (F : FnOk X.prog X.w X.K X.mg X.base (L2N.CX X.prog X.w) k f fd ps (spX X.mg n sem)) (hr : Room k X.A) (tk : L2N.Takes X Wx) (hg : Gl X x) (hm : X.mg x = some (.ref f)) (hk : PySem.W.keepIn X.K (.ref f) = true) (hb : Binds X.K fd ps []) (ha : PA X (e :: es) (rdA (wk X.mg Wx) fa))
    (hdb : (x == ("__debug__" : Str)) = false := by decide) (he : starEach (e :: es) X.env = (false, eval e X.env) :: starEach es X.env := by rfl) (hpl : (backTo pos (starEach es X.env)).any (·.1) = false := by rfl) :
    PE X (.Call (.Name x p) (e :: es) [] pos) (rdE (wk X.mg Wx) (fCallX n sem fa)) :=
  peI (pe_callS F hr hg hm hk hb (fun σ => L2N.passAt tk σ) ha hdb he hpl) fun _ _ _ h => rd_callX h
end
section
variable {P : Program} {w : World} {K : PySem.W.Frag} {mg : Str → Option Value} {base : Heap}
theorem def_okX {x qual : Str} {st : Stmt} {f : Addr} {fd : FuncData} {N ps : List Str} {k n : Nat} {body : FS} (F : Fun K x qual st f fd) (S : FnScope N ps (defScope st)) (hn : ps.length = n) (hN : n ≤ N.length)
    (hbody : ∀ (cdv : Value) (A : Around) (outer : List PySem.Env) (s : Shared) (H : Hp) (E : XK), Room k (A.deeper (PyProof.Rows.envOfC qual (defScope st) s.heap.objs.size f cdv)) → (A.deeper (PyProof.Rows.envOfC qual (defScope st) s.heap.objs.size f cdv)).units + 65 < cLine →
      L2N.Takes (cxOf (L2N.CX P w) P w K mg base N qual (defScope st) f cdv A outer s H E) (fun cls d _ H => E cls d H) →
      PSs (cxOf (L2N.CX P w) P w K mg base N qual (defScope st) f cdv A outer s H E) (defBody st) (rdS (wk mg fun cls d _ H => E cls d H) body)) : FnOk P w K mg base (L2N.CX P w) (k + 1) f fd ps (spX mg n (dsem N.length n body)) := by
  obtain ⟨oc, od, kV, doc, pm, an, cdv, ct, osl, rfl, lk, hcd⟩ := F.ex
  refine fn_of lk hcd S (fun vs H Q E h => ?_) fun A outer s H vs Q E hr h => ?_
  · obtain ⟨_, _, hl, _⟩ := h
    rw [hl, hn]
  · obtain ⟨S', ds, hl, rp, hS, q⟩ := h
    have hu : (A.deeper (PyProof.Rows.envOfC qual (defScope st) s.heap.objs.size f cdv)).units + 65 < cLine := by have := hr.un; omega
    refine ⟨_, hbody cdv A outer s H E hr hu (L2N.takes_of rfl rfl rfl rfl), S', H, _, _, start_ee rp hl hN hS, ?_⟩
    have hdl : ds.length = n := by rw [rp.length, hl]
    unfold dsem at q
    rw [if_pos hdl] at q
    cases e : body (ds.map (fun d => some (d, 0)) ++ List.replicate (N.length - n) none) with
    | rt d k => rw [e] at q; exact q
    | nx ρ => rw [e] at q; exact fun σ H' F E => q .non H' [] E.same (fun a ha => by cases ha) ⟨rfl, rfl⟩
    | bk ρ => rw [e] at q; exact q.elim
    | ct ρ => rw [e] at q; exact q.elim
    | ex x ρ => rw [e] at q; exact fun σ H' F' E' d r C hC => q H' d E'.same r C hC
    | bad => rw [e] at q; exact q.elim
/-- a def that keeps its word, may be by an error -/
def CalX (P : Program) (w : World) (K : PySem.W.Frag) (mg : Str → Option Value) (base : Heap) (k : Nat) (x : Str) (n : Nat) (sem : DS) : Prop :=
  ∃ (f : Addr) (fd : FuncData) (ps : List Str), FnOk P w K mg base (L2N.CX P w) k f fd ps (spX mg n sem) ∧ mg x = some (.ref f) ∧ PySem.W.keepIn K (.ref f) = true ∧ Binds K fd ps []
theorem cal_mkX {g x : Str} {st : Stmt} {N ps : List Str} {k n : Nat} {body : FS} (T : TopG K mg g x st) (S : FnScope N ps (defScope st)) (hn : ps.length = n) (hN : n ≤ N.length)
    (hb : ∀ (kV doc pm : Value) (an : Option Addr) (cdv ct : Value) (us : List Value), us.length = ps.length → bindArgs (PySem.W.fnOf x x (defArgs st) (defBody st) (defScope st) .none kV doc pm an cdv ct) ⟨us, []⟩ = pure (ps.zip us))
    (hbody : ∀ (f : Addr) (cdv : Value) (A : Around) (outer : List PySem.Env) (s : Shared) (H : Hp) (E : XK), Room k (A.deeper (PyProof.Rows.envOfC x (defScope st) s.heap.objs.size f cdv)) → (A.deeper (PyProof.Rows.envOfC x (defScope st) s.heap.objs.size f cdv)).units + 65 < cLine →
      L2N.Takes (cxOf (L2N.CX P w) P w K mg base N x (defScope st) f cdv A outer s H E) (fun cls d _ H => E cls d H) →
      PSs (cxOf (L2N.CX P w) P w K mg base N x (defScope st) f cdv A outer s H E) (defBody st) (rdS (wk mg fun cls d _ H => E cls d H) body)) : CalX P w K mg base (k + 1) g n (dsem N.length n body) := by
  obtain ⟨f, fd, F, hm⟩ := T
  exact ⟨f, fd, ps, def_okX F S hn hN (hbody f), hm, F.kp, F.binds hb⟩
theorem TopF.g {x : Str} {st : Stmt} (T : TopF K mg x st) : TopG K mg x x st := T
theorem CalX.calD {k : Nat} {x : Str} {n : Nat} {sem : DS} (C : CalX P w K mg base k x n sem) : CalD P w K mg base k x n sem := by
  obtain ⟨f, fd, ps, F, hm, hk, hb⟩ := C
  refine ⟨f, fd, ps, ⟨fun vs H Q E h => F.len vs H Q (fun _ _ _ => False) ?_, fun A outer s H args us vs Q E hr e0 hb r h => ?_⟩, hm, hk, hb⟩
  · obtain ⟨S, ds, h1, h2, h3, h4⟩ := h
    refine ⟨S, ds, h1, h2, h3, ?_⟩
    cases q : sem ds with
    | ok dk => rw [q] at h4; exact h4
    | exn x => rw [q] at h4; exact h4.elim
    | bad => rw [q] at h4; exact h4.elim
  · have h' : spX mg n sem vs H Q fun _ _ _ => False := by
      obtain ⟨S, ds, h1, h2, h3, h4⟩ := h
      refine ⟨S, ds, h1, h2, h3, ?_⟩
      cases q : sem ds with
      | ok dk => rw [q] at h4; exact h4
      | exn x => rw [q] at h4; exact h4.elim
      | bad => rw [q] at h4; exact h4.elim
    refine codeAny_mono (F.run A outer s H args us vs Q (fun _ _ _ => False) hr e0 hb r h') fun rr s' hq => ?_
    cases rr with
    | error e =>
      obtain ⟨_, _, _, _, _, _, _, _, _, _, _, _, z⟩ := hq
      exact z.elim
    | ok fl => cases fl <;> exact hq
theorem e_calX {X : Cx} {Wx : WX} {k k' n : Nat} {sem : DS} {x : Str} {p pos : Pos} {e : Expr} {es : List Expr} {fa : FA} (C : CalX X.prog X.w X.K X.mg X.base k x n sem) (hr : Room k' X.A) (hk : k ≤ k') (tk : L2N.Takes X Wx) (hg : Gl X x) (ha : PA X (e :: es) (rdA (wk X.mg Wx) fa))
    (hdb : (x == ("__debug__" : Str)) = false := by decide) (he : starEach (e :: es) X.env = (false, eval e X.env) :: starEach es X.env := by rfl) (hpl : (backTo pos (starEach es X.env)).any (·.1) = false := by rfl) :
    PE X (.Call (.Name x p) (e :: es) [] pos) (rdE (wk X.mg Wx) (fCallX n sem fa)) := by
  obtain ⟨f, fd, ps, F, hm, hkp, hb⟩ := C
  exact e_callX F (hr.mono hk) tk hg hm hkp hb ha hdb he hpl
end
end PyL

set_option maxHeartbeats 2000000
namespace PyL
open PySem PySem.Spec L2
set_option autoImplicit false

/-! ### an error in a slot -/
def excD (a : Addr) (d : Option Addr) (x : Exn) : D := .exc a d x.cls (x.fs.map (·.1)) (x.fs.map (·.2))
theorem EE.clip {S0 : PA1} {ρ : Ev} {σ : St} {H : Hp} {F : FP} (E : EE S0 ρ σ H F) : EE S0 ρ σ H (fun j => if j < ρ.length then F j else []) := by
  have mem : ∀ {j a}, a ∈ (if j < ρ.length then F j else []) → a ∈ F j := fun {j a} h => by
    split at h
    · exact h
    · cases h
  refine ⟨E.len, fun i d k h => ?_, fun i j a h1 h2 => E.disj i j a (mem h1) (mem h2), fun i a h => E.trk i a (mem h), E.out, fun i a h => E.apart i a (mem h)⟩
  obtain ⟨v, e, o⟩ := E.rep i d k h
  have hi : i < ρ.length := (List.getElem?_eq_some_iff.mp h).1
  refine ⟨v, e, ?_⟩
  rw [if_pos hi]
  exact Ow.imp (fun b o q n => ⟨q, fun z => n (z.imp id fun ⟨j, h1, h2⟩ => ⟨j, h1, mem h2⟩)⟩) k d v _ (fun _ _ _ q => q) o
theorem ER.clip {S0 : PA1} {H0 : Hp} {ρ : Ev} {σ : St} {H : Hp} {F : FP} (E : ER S0 H0 ρ σ H F) : ER S0 H0 ρ σ H (fun j => if j < ρ.length then F j else []) :=
  ⟨E.ee.clip, fun i a h => E.new i a (by split at h <;> first | exact h | cases h), E.same, E.old⟩
def frzX (x : Exn) (ρ : Ev) : Ev := if x.fs.all (fun p => scal p.2) then ρ else frzL (List.range ρ.length) ρ
theorem RpL.scals {S S' : PA1} {H H' : Hp} : ∀ {ds : List D} {xs : List V}, (∀ d ∈ ds, scal d = true) → RpL S H ds xs → RpL S' H' ds xs
  | [], _, _, h => h
  | d :: ds, _, hs, ⟨x, r, e, p, q⟩ => ⟨x, r, e, scal_rp (hs d List.mem_cons_self) p, RpL.scals (fun d hd => hs d (List.mem_cons_of_mem _ hd)) q⟩
theorem repF.exc {S : PA1} {H : Hp} {x : Exn} {a : Addr} {d : Option Addr} (r : repF S x.fs d H) : Rp S H (excD a d x) (.ref a) := by
  obtain ⟨l, xs, h1, h2, h3⟩ := r
  exact ⟨rfl, l, xs, h1, h2, h3⟩
/-- the env of a suite -/
theorem ER.caught {S0 : PA1} {H0 : Hp} {ρ : Ev} {σ : St} {H : Hp} {F : FP} (E : ER S0 H0 ρ σ H F) {x : Exn} {d : Option Addr} (r : repF S0 x.fs d H) :
    ∃ F', ER S0 H0 (frzX x ρ) σ H F' ∧ repF (inS S0 F' []) x.fs d H := by
  unfold frzX
  have notx : ∀ {F' : FP}, (∀ i a, a ∈ F' i → TrM H a) → ∀ {p l}, H p = some (.xd l) → ¬ S0 p → ¬ inS S0 F' [] p := fun {F'} tr {p l} hp n z => by
    rcases z with z | ⟨j, _, z⟩
    · exact n z
    · obtain ⟨o, e, m⟩ := tr j p z
      rw [hp] at e; cases e; exact m
  split
  · rename_i hs
    refine ⟨F, E, ?_⟩
    obtain ⟨l, xs, h1, h2, h3⟩ := r
    refine ⟨l, xs, ?_, RpL.scals (fun d hd => ?_) h2, h3⟩
    · cases d with
      | none => exact h1
      | some p => exact ⟨notx E.ee.trk h1.2 h1.1, h1.2⟩
    · obtain ⟨q, hq, rfl⟩ := List.mem_map.mp hd
      exact (List.all_eq_true.mp hs) q hq
  · have E1 := E.clip.frzL (List.range ρ.length)
    refine ⟨_, E1, r.mono fun a z => ?_⟩
    rcases z with z | ⟨j, _, z⟩
    · exact z
    · obtain ⟨z1, z2⟩ := cutF_mem.mp z
      split at z2
      · rename_i hj
        exact absurd (List.mem_range.mpr hj) z1
      · cases z2
def putX (i : Option Nat) (d : D) (ρ : Ev) : Ev := match i with
  | none => ρ
  | some i => ρ.set i (some (d, 0))
def offX (i : Option Nat) (ρ : Ev) : Ev := match i with
  | none => ρ
  | some i => ρ.set i none
/-- behind a suite: its name goes -/
def dropX (i : Option Nat) : Out → Out
  | .nx ρ => .nx (offX i ρ)
  | .bk ρ => .bk (offX i ρ)
  | .ct ρ => .ct (offX i ρ)
  | .rt d k => .rt d k
  | .ex _ _ => .bad
  | .bad => .bad
abbrev SU := Addr → Option Addr → Str → FS
def suiteO (i : Option Nat) (g : SU) (x : Exn) (ρ : Ev) (a : Addr) (d : Option Addr) : Out := dropX i (g a d x.cls (putX i (excD a d x) (frzX x ρ)))
open Classical in
noncomputable def theOut (f : Addr → Option Addr → Out) : Out := if h : ∃ o, ∀ a d, f a d = o then h.choose else .bad
theorem theOut_eq {f : Addr → Option Addr → Out} {o : Out} (h : ∀ a d, f a d = o) : theOut f = o := by
  unfold theOut
  have hx : ∃ o, ∀ a d, f a d = o := ⟨o, h⟩
  rw [dif_pos hx]
  exact (hx.choose_spec 0 none).symm.trans (h 0 none)
theorem theOut_at {f : Addr → Option Addr → Out} (a : Addr) (d : Option Addr) : theOut f = .bad ∨ f a d = theOut f := by
  unfold theOut
  by_cases hx : ∃ o, ∀ a d, f a d = o
  · rw [dif_pos hx]; exact .inr (hx.choose_spec a d)
  · rw [dif_neg hx]; exact .inl rfl
noncomputable def sTry (f : FS) (i : Option Nat) (m : Str → Option Bool) (g : SU) : FS := fun ρ => match f ρ with
  | .ex x ρ' => match m x.cls with
    | some true => theOut (suiteO i g x ρ')
    | some false => .ex x ρ'
    | none => .bad
  | o => o
/-- the slot of a suite's name is emptied -/
theorem EE.off {S0 : PA1} {ρ : Ev} {σ : St} {H : Hp} {F : FP} (E : EE S0 ρ σ H F) (i : Nat) : EE S0 (ρ.set i none) (σ.set i none) H (cutF [i] F) where
  len := by rw [List.length_set, List.length_set]; exact E.len
  rep := fun j d k h => by
    by_cases hj : j = i
    · subst hj
      have hl : j < ρ.length := by
        have := (List.getElem?_eq_some_iff.mp h).1
        rwa [List.length_set] at this
      rw [List.getElem?_set_self hl] at h; cases h
    · rw [List.getElem?_set_ne (Ne.symm hj)] at h
      obtain ⟨v, e, o⟩ := E.rep j d k h
      refine ⟨v, by rw [List.getElem?_set_ne (Ne.symm hj)]; exact e, ?_⟩
      rw [show cutF [i] F j = F j by simp [cutF, hj]]
      refine Ow.imp (fun b o q n => ⟨q, fun z => n ?_⟩) k d v _ (fun _ _ _ q => q) o
      rcases z with z | ⟨m, _, z⟩
      · exact .inl z
      · exact .inr ⟨m, by simp, (cutF_mem.mp z).2⟩
  disj := fun a b c h1 h2 => E.disj a b c (cutF_mem.mp h1).2 (cutF_mem.mp h2).2
  trk := fun j a h => E.trk j a (cutF_mem.mp h).2
  out := E.out
  apart := fun j a h => E.apart j a (cutF_mem.mp h).2
theorem ER.off {S0 : PA1} {H0 : Hp} {ρ : Ev} {σ : St} {H : Hp} {F : FP} (E : ER S0 H0 ρ σ H F) (i : Nat) : ER S0 H0 (ρ.set i none) (σ.set i none) H (cutF [i] F) :=
  ⟨E.ee.off i, fun j a h => E.new j a (cutF_mem.mp h).2, E.same, E.old⟩
section
variable {X : Cx} {x n : Str} {c : Value} {i : Nat} {body suite : List Stmt} {b₀ : Stmt} {np pos pos' : Pos} {Wx : WX} {f : FS} {m : Str → Option Bool} {g : SU}
/-- the shape of the body's wish -/
theorem try_post {mg : Str → Option Value} {W1 : WX} {io : Option Nat} {S0 : PA1} {H0 : Hp} {Dn : Ends} {ρ : Ev} (p : PostS (wk mg Wx) S0 H0 Dn (sTry f io m g ρ))
    (hex : ∀ x ρ', f ρ = .ex x ρ' → ∀ σ H F, ER S0 H0 ρ' σ H F → ∀ d, repF S0 x.fs d H → ∀ C, mg x.cls = some (.ref C) → ((m x.cls = some true ∧ (theOut (suiteO io g x ρ') ≠ .bad ∧ PostS (wk mg Wx) S0 H0 Dn (theOut (suiteO io g x ρ')))) ∨ (m x.cls = some false ∧ Wx (.ref C) d σ H)) → W1 (.ref C) d σ H) :
    PostS (wk mg W1) S0 H0 Dn (f ρ) := by
  unfold sTry at p
  cases q : f ρ with
  | nx ρ => rw [q] at p; exact p
  | rt d k => rw [q] at p; exact p
  | bk ρ => rw [q] at p; exact p
  | ct ρ => rw [q] at p; exact p
  | bad => rw [q] at p; exact p
  | ex x ρ' =>
    rw [q] at p
    simp only at p
    intro σ H F E d r C hC
    refine hex x ρ' q σ H F E d r C hC ?_
    cases hm : m x.cls with
    | none => rw [hm] at p; exact p.elim
    | some b =>
      rw [hm] at p
      cases b with
      | true => exact .inl ⟨rfl, fun z => by rw [z] at p; exact p, p⟩
      | false => exact .inr ⟨rfl, p σ H F E d r C hC⟩
theorem s_tryAs (hs : X.stack = X.env :: X.outer) (hf : X.env.frame = some X.env.locals) (hN : X.N.Nodup) (hi : X.N[i]? = some n) (hln : X.env.kindOf n = some .local) (hc : Names X x c) (tk : L2N.Takes X Wx)
    (hm : ∀ nm b, m nm = some b → ∀ C, X.mg nm = some (.ref C) → PySem.W.exmOne X.K (.ref C) c = some b)
    (hb : ∀ (W : WX) (pn : List (Addr × Obj)) (xe : Value → Shared → Prop), L2N.Takes (X.tr pn xe) W → PassesOwn (model X.prog X.w) X.A X.env xe → PSs (X.tr pn xe) body (rdS (wk X.mg W) f))
    (hsu : ∀ (a : Addr) (oe : Obj) (nm : Str) (C : Addr) (d : Option Addr) (pn : List (Addr × Obj)), m nm = some true → X.mg nm = some (.ref C) → L2N.Zn (.ref C) d oe → (∃ vs, oe.data = .fields vs) → PSs (X.suite a ((a, oe) :: pn)) (b₀ :: suite) (rdS W0 (g a d nm))) :
    PS X (.Try body [.ExceptHandler (some (.Name x np)) (some n) (b₀ :: suite) pos'] [] [] pos) (rdS (wk X.mg Wx) (sTry f (some i) m g)) := by
  refine psI (L2N.ps_try_as (i := i) (ts := fun a cls d Dn σ H => ∃ nm C, cls = .ref C ∧ m nm = some true ∧ X.mg nm = some (.ref C) ∧ rdS W0 (g a d nm) Dn σ H) (tb := fun W => rdS (wk X.mg W) f) hs hf hN hi hln hc tk hb fun a oe cls d pn hz hv => ?_) fun Dn σ H ⟨S0, H0, ρ, F, E, p⟩ => ?_
  · refine ⟨fun pins s σ H D I h => ?_⟩
    obtain ⟨nm, C, rfl, h1, h2, h3⟩ := h
    exact (hsu a oe nm C d pn h1 h2 hz hv).run pins s σ H D I h3
  · refine ⟨S0, H0, ρ, F, E, try_post (g := g) (m := m) (io := some i) p fun x ρ' q σ' H' F' E' d r C hC o => ?_⟩
    rcases o with ⟨h1, h2, h3⟩ | ⟨h1, h2⟩
    · refine ⟨true, hm _ _ h1 C hC, fun _ a na => ⟨x.cls, C, rfl, h1, hC, ?_⟩, fun z => Bool.noConfusion z⟩
      obtain ⟨F1, E1, r1⟩ := E'.caught r
      obtain ⟨F2, E2, _⟩ := E1.setF (i := i) (repF.exc (a := a) r1)
      refine ⟨S0, H0, _, F2, E2, ?_⟩
      rcases theOut_at (f := suiteO (some i) g x ρ') a d with z | z
      · exact absurd z h2
      · rw [← z] at h3
        unfold suiteO at h3
        show PostS W0 S0 H0 _ (g a d x.cls (putX (some i) (excD a d x) (frzX x ρ')))
        revert h3
        generalize g a d x.cls (putX (some i) (excD a d x) (frzX x ρ')) = o
        intro h3
        cases o with
        | nx ρ => exact fun σ H F E => h3 _ _ _ (E.off i)
        | bk ρ => exact fun σ H F E => h3 _ _ _ (E.off i)
        | ct ρ => exact fun σ H F E => h3 _ _ _ (E.off i)
        | rt d k => exact h3
        | ex x ρ => exact h3.elim
        | bad => exact h3.elim
    · exact ⟨false, hm _ _ h1 C hC, fun z => Bool.noConfusion z, fun _ => h2⟩
theorem s_tryOn (hs : X.stack = X.env :: X.outer) (hf : X.env.frame = some X.env.locals) (hc : Names X x c) (tk : L2N.Takes X Wx)
    (hm : ∀ nm b, m nm = some b → ∀ C, X.mg nm = some (.ref C) → PySem.W.exmOne X.K (.ref C) c = some b)
    (hb : ∀ (W : WX) (pn : List (Addr × Obj)) (xe : Value → Shared → Prop), L2N.Takes (X.tr pn xe) W → PassesOwn (model X.prog X.w) X.A X.env xe → PSs (X.tr pn xe) body (rdS (wk X.mg W) f))
    (hsu : ∀ (a : Addr) (oe : Obj) (nm : Str) (C : Addr) (d : Option Addr) (pn : List (Addr × Obj)), m nm = some true → X.mg nm = some (.ref C) → L2N.Zn (.ref C) d oe → (∃ vs, oe.data = .fields vs) → PSs (X.suite a ((a, oe) :: pn)) (b₀ :: suite) (rdS W0 (g a d nm))) :
    PS X (.Try body [.ExceptHandler (some (.Name x np)) none (b₀ :: suite) pos'] [] [] pos) (rdS (wk X.mg Wx) (sTry f none m g)) := by
  refine psI (L2N.ps_try_many (l := [(c, fun a cls d Dn σ H => ∃ nm C, cls = .ref C ∧ m nm = some true ∧ X.mg nm = some (.ref C) ∧ rdS W0 (g a d nm) Dn σ H)]) (tb := fun W => rdS (wk X.mg W) f) hs hf tk hb (.cons hc (fun a oe cls d pn hz hv => ?_) .nil)) fun Dn σ H ⟨S0, H0, ρ, F, E, p⟩ => ?_
  · refine ⟨fun pins s σ H D I h => ?_⟩
    obtain ⟨nm, C, rfl, h1, h2, h3⟩ := h
    exact (hsu a oe nm C d pn h1 h2 hz hv).run pins s σ H D I h3
  · refine ⟨S0, H0, ρ, F, E, try_post (g := g) (m := m) (io := none) p fun x ρ' q σ' H' F' E' d r C hC o => ?_⟩
    rcases o with ⟨h1, h2, h3⟩ | ⟨h1, h2⟩
    · refine ⟨true, hm _ _ h1 C hC, fun _ a na => ⟨x.cls, C, rfl, h1, hC, ?_⟩, fun z => Bool.noConfusion z⟩
      obtain ⟨F1, E1, r1⟩ := E'.caught r
      refine ⟨S0, H0, _, F1, E1, ?_⟩
      rcases theOut_at (f := suiteO none g x ρ') a d with z | z
      · exact absurd z h2
      · rw [← z] at h3
        unfold suiteO at h3
        show PostS W0 S0 H0 _ (g a d x.cls (putX none (excD a d x) (frzX x ρ')))
        revert h3
        generalize g a d x.cls (putX none (excD a d x) (frzX x ρ')) = o
        intro h3
        cases o with
        | nx ρ => exact h3
        | bk ρ => exact h3
        | ct ρ => exact h3
        | rt d k => exact h3
        | ex x ρ => exact h3.elim
        | bad => exact h3.elim
    · exact ⟨false, hm _ _ h1 C hC, fun z => Bool.noConfusion z, fun _ => h2⟩
end
end PyL

set_option maxHeartbeats 2000000
namespace PyL
open PySem PySem.Spec L2
set_option autoImplicit false

/-! ### an error's field, isinstance of an error -/
/-- what a suite must know of the class at C with the fields fs -/
structure ErrK (K : PySem.W.Frag) (fs : List Str) (C : Addr) : Prop where
  xf : XfC K C
  no : ∀ f ∈ fs, PySem.W.findIn K (.ref C) f = some none
  cl : (PySem.W.clsIn K C).isSome = true
  ha : PySem.W.findIn K (.ref C) "__class__" = some (some (.builtin "object.__class__"))
  hn : PySem.W.specialIn K (.builtin "object.__class__") "__get__" = some (some (.builtin "getset_descriptor.__get__"))
  ht : PySem.W.takesIn K (.builtin "object.__class__") = some true
  hm : PySem.W.mroIn K C (.type "object") = some true
def fFld (fs : List Str) (a : Addr) (d : Option Addr) (nm : Str) (i : Nat) (f : Str) : FE := fun ρ => match ρ[i]? with
  | some (some (.exc a' d' nm' ns ds, _)) => if a' = a ∧ d' = d ∧ nm' = nm ∧ f ∈ fs then match (ns.zip ds).lookup f with
      | some dv => .ok ⟨dv, 0, [], []⟩
      | none => .bad
    else .bad
  | _ => .bad
theorem RpL.zipl {S : PA1} {H : Hp} {f : Str} {dv : D} : ∀ {ns : List Str} {ds : List D} {xs : List V}, RpL S H ds xs → (ns.zip ds).lookup f = some dv → ∃ x, (f, x) ∈ ns.zip xs ∧ Rp S H dv x
  | [], _, _, _, h => by simp at h
  | _ :: _, [], _, _, h => by simp at h
  | n :: ns, d :: ds, _, ⟨x, r, e, p, q⟩, h => by
    subst e
    rw [List.zip_cons_cons, List.lookup_cons] at h
    split at h
    · rename_i hb
      cases h
      have : f = n := by simpa using hb
      subst this
      exact ⟨x, by simp, p⟩
    · obtain ⟨y, hy, py⟩ := q.zipl h
      exact ⟨y, by rw [List.zip_cons_cons]; exact List.mem_cons_of_mem _ hy, py⟩
theorem Ow.exc {S : PA1} {H : Hp} {k : Nat} {a : Addr} {d : Option Addr} {c : Str} {ns : List Str} {ds : List D} {v : V} {fp : List Addr} (h : Ow S H k (.exc a d c ns ds) v fp) : Rp S H (.exc a d c ns ds) v := by
  cases k with
  | zero => exact h.1
  | succ k => exact h.1
section
variable {X : Cx} {W : WK} {a C : Addr} {oe : Obj} {d : Option Addr} {nm : Str} {fs : List Str} {pn : List (Addr × Obj)} {i : Nat} {f y : Str} {pos p' : Pos}
theorem e_fld (T : ErrK X.K fs C) (hz : L2N.Zn (.ref C) d oe) (hv : ∃ vs, oe.data = .fields vs) (he : PE (X.suite a ((a, oe) :: pn)) (.Name y p') (tVar i)) (hb : attributeBase (.Name y p') f X.env (eval (.Name y p') X.env) = eval (.Name y p') X.env := by rfl) :
    PE (X.suite a ((a, oe) :: pn)) (.Attribute (.Name y p') f pos) (rdE W (fFld fs a d nm i f)) := by
  by_cases hno : f ∈ fs
  · refine peI (pe_xf T.xf (T.no f hno) hz.zc hv he hb) fun σ H Q ⟨S0, ρ, F, E, p⟩ => ?_
    unfold fFld at p
    split at p
    · rename_i a' d' nm' ns ds k hr
      obtain ⟨v, hσ, ow⟩ := E.rep i _ _ hr
      obtain ⟨rfl, l, xs, x1, x2, x3⟩ := ow.exc
      split at p
      · rename_i hc
        obtain ⟨rfl, rfl, rfl, _⟩ := hc
        split at p
        · rename_i dv hl
          obtain ⟨x, hx, px⟩ := x2.zipl hl
          have lk := x3 _ hx
          refine ⟨_, hσ, rfl, rfl, ?_⟩
          cases d' with
          | none => rw [show l = [] from x1] at lk; cases lk
          | some dd =>
            refine ⟨dd, l, x, rfl, x1.2, lk, ?_⟩
            exact p x H [] (Same.refl H) (fun a ha => by cases ha) ⟨⟨Rp.imp (fun b o q n => ⟨q, fun z => z.elim n (fun z => by cases z)⟩) _ _ px, rfl⟩, ItD.of px⟩
        · exact p.elim
      · exact p.elim
    · exact p.elim
  · refine ⟨fun pins s σ H Q I h => ?_⟩
    obtain ⟨S0, ρ, F, E, p⟩ := h
    unfold fFld at p
    split at p
    · rw [if_neg fun z => hno z.2.2.2] at p
      exact p.elim
    · exact p.elim
/-- isinstance(y, T): it tells the answer by the error's class -/
def fIsX (it : Str → Option Bool) (a : Addr) (d : Option Addr) (nm : Str) (i : Nat) : FE := fun ρ => match ρ[i]? with
  | some (some (.exc a' d' nm' ns ds, _)) => if a' = a ∧ d' = d ∧ nm' = nm then match it nm with
      | some b => okB b
      | none => .bad
    else .bad
  | _ => .bad
def rIsX (K : PySem.W.Frag) (D a : Addr) (d : Option Addr) : List V → Hp → VK → Prop := fun xs H Q => ∃ (c : V) (cv : Value) (b : Bool), xs = [.ref a, c] ∧ (∀ u, RelV c u → u = cv) ∧ PySem.W.kitOne K (.ref D) cv = some b ∧ (∀ p, d = some p → ∃ l, H p = some (.xd l)) ∧ Q (.bl b) H
theorem call_isX (T : ErrK X.K fs C) (hz : L2N.Zn (.ref C) d oe) (hf : ∃ vs, oe.data = .fields vs) : CallR (X.suite a ((a, oe) :: pn)) (.builtin "isinstance") (rIsX X.K C a d) := by
  intro pins s σ H xs us Q I r h
  obtain ⟨c, cv, b, rfl, hcv, e, hd, q⟩ := h
  cases r with
  | cons rx rr =>
    cases rr with
    | cons rt rr =>
      cases rr
      cases rx
      have ec := hcv _ rt
      subst ec
      obtain ⟨hget, _⟩ := I.pin (a, oe) (List.mem_append.mpr (.inl List.mem_cons_self))
      obtain ⟨vs, hv⟩ := hf
      obtain ⟨od, J⟩ : ∃ od, PySem.W.InstAt s.heap a oe C od := by
        obtain ⟨oc, odd, oda, osl⟩ := oe
        obtain ⟨h1, h2, _⟩ := hz
        dsimp only at h1 h2 hv
        subst h1 h2 hv
        cases odd with
        | none => exact ⟨none, hget, rfl, rfl, trivial⟩
        | some p =>
          obtain ⟨l, hl⟩ := hd p rfl
          have hx : ObjOk X.prog X.w H s.heap p (.xd l) := I.hok p _ hl
          obtain ⟨mA, ⟨o, es, ep, ho, _⟩, _⟩ := hx
          exact ⟨some o, hget, rfl, rfl, ho⟩
      exact PySem.W.kia_one (PySem.W.kitx_exc T.cl T.xf.ga T.xf.gg T.xf.exC T.ha T.hn T.ht T.hm) I.kIn J e (fun z => nomatch z) fun tk => ⟨.bl b, H, I.kept (t' := tk) fun _ _ z => z, rfl, q⟩
theorem e_isX {it : Str → Option Bool} {T' : Str} {c : V} {cv : Value} {p pt : Pos} (T : ErrK X.K fs C) (hz : L2N.Zn (.ref C) d oe) (hv : ∃ vs, oe.data = .fields vs) (hg : Gl X "isinstance") (hm : X.mg "isinstance" = none) (he : PE (X.suite a ((a, oe) :: pn)) (.Name y p') (tVar i)) (ht : PE (X.suite a ((a, oe) :: pn)) (.Name T' pt) (tC c)) (hc : ∀ u, RelV c u → u = cv)
    (hit : ∀ b, it nm = some b → PySem.W.kitOne X.K (.ref C) cv = some b)
    (h1 : starEach [.Name y p', .Name T' pt] X.env = (false, eval (.Name y p') X.env) :: starEach [.Name T' pt] X.env := by rfl) (h2 : starEach [.Name T' pt] X.env = (false, eval (.Name T' pt) X.env) :: starEach [] X.env := by rfl)
    (hpl : (backTo pos (starEach [.Name T' pt] X.env)).any (·.1) = false := by rfl) : PE (X.suite a ((a, oe) :: pn)) (.Call (.Name "isinstance" p) [.Name y p', .Name T' pt] [] pos) (rdE W (fIsX it a d nm i)) :=
  peI (pe_callB (X := X.suite a ((a, oe) :: pn)) (call_isX T hz hv) hg hm PyProof.Rows.boot_isinstance (pa_cons he (pa_cons ht pa_nil h2) h1) (by decide) (by decide) h1 hpl) fun σ H Q ⟨S0, ρ, F, E, q⟩ => by
    unfold fIsX at q
    split at q
    · rename_i a' d' nm' ns ds k hr
      obtain ⟨v, hσ, ow⟩ := E.rep i _ _ hr
      obtain ⟨rfl, l, xs, x1, x2, x3⟩ := ow.exc
      split at q
      · rename_i hcc
        obtain ⟨rfl, rfl, rfl⟩ := hcc
        split at q
        · rename_i b hb
          refine ⟨_, hσ, c, cv, b, rfl, hc, hit b hb, fun p hp => ?_, okB_post q⟩
          subst hp
          exact ⟨l, x1.2⟩
        · exact q.elim
      · exact q.elim
    · exact q.elim
end

/-! ### defs called within a suite -/
def CalH (P : Program) (w : World) (K : PySem.W.Frag) (mg : Str → Option Value) (base : Heap) (k : Nat) (x : Str) (n : Nat) (sem : DS) : Prop :=
  ∃ (f : Addr) (fd : FuncData) (ps : List Str), L2H.FnH P w K mg base CX0 k f fd ps (spD n sem) ∧ mg x = some (.ref f) ∧ PySem.W.keepIn K (.ref f) = true ∧ Binds K fd ps []
section
variable {P : Program} {w : World} {K : PySem.W.Frag} {mg : Str → Option Value} {base : Heap}
theorem cal_mkH {g x : Str} {st : Stmt} {N ps : List Str} {k n : Nat} {body : FS} (T : TopG K mg g x st) (S : FnScope N ps (defScope st)) (hn : ps.length = n) (hN : n ≤ N.length)
    (hb : ∀ (kV doc pm : Value) (an : Option Addr) (cdv ct : Value) (us : List Value), us.length = ps.length → bindArgs (PySem.W.fnOf x x (defArgs st) (defBody st) (defScope st) .none kV doc pm an cdv ct) ⟨us, []⟩ = pure (ps.zip us))
    (hbody : ∀ (f : Addr) (cdv : Value) (A : Around) (outer : List PySem.Env) (s : Shared) (H : Hp) (E : XK) (p : Addr × Obj), L2H.RoomH k (A.deeper (PyProof.Rows.envOfC x (defScope st) s.heap.objs.size f cdv)) → (A.deeper (PyProof.Rows.envOfC x (defScope st) s.heap.objs.size f cdv)).units + 65 < cLine →
      L2H.HotC (L2H.cxH CX0 P w K mg base N x (defScope st) f cdv A outer s H E p).nox →
      PSs (L2H.cxH CX0 P w K mg base N x (defScope st) f cdv A outer s H E p).nox (defBody st) (rdS W0 body)) : CalH P w K mg base (k + 1) g n (dsem N.length n body) := by
  obtain ⟨f, fd, F, hm⟩ := T
  have hbd := F.binds hb
  have hkp := F.kp
  obtain ⟨oc, od, kV, doc, pm, an, cdv, ct, osl, rfl, lk, hcd⟩ := F.ex
  refine ⟨f, _, ps, L2H.fn_ofH lk hcd S (fun vs H Q E h => ?_) fun A outer s H vs Q E p hot hr h => ?_, hm, hkp, hbd⟩
  · obtain ⟨_, _, hl, _⟩ := h
    rw [hl, hn]
  · obtain ⟨S', ds, hl, rp, hS, q⟩ := h
    have hu : (A.deeper (PyProof.Rows.envOfC x (defScope st) s.heap.objs.size f cdv)).units + 65 < cLine := by have := hr.un; omega
    have hc : L2H.HotC (L2H.cxH CX0 P w K mg base N x (defScope st) f cdv A outer s H E p).nox := ⟨p, hot, List.mem_singleton.mpr rfl⟩
    have hb2 := hbody f cdv A outer s H E p hr hu hc
    refine ⟨_, hb2.nox, S', H, _, _, start_ee rp hl hN hS, ?_⟩
    have hdl : ds.length = n := by rw [rp.length, hl]
    unfold dsem at q
    rw [if_pos hdl] at q
    cases e : body (ds.map (fun d => some (d, 0)) ++ List.replicate (N.length - n) none) with
    | rt d k => rw [e] at q; exact q
    | nx ρ => rw [e] at q; exact fun σ H' F E => q .non H' [] E.same (fun a ha => by cases ha) ⟨rfl, rfl⟩
    | bk ρ => rw [e] at q; exact q.elim
    | ct ρ => rw [e] at q; exact q.elim
    | ex x ρ => rw [e] at q; exact q.elim
    | bad => rw [e] at q; exact q.elim
theorem e_calH {X : Cx} {W : WK} {k k' n : Nat} {sem : DS} {x : Str} {p pos : Pos} {e : Expr} {es : List Expr} {fa : FA} (C : CalH X.prog X.w X.K X.mg X.base k x n sem) (hr : L2H.RoomH k' X.A) (hk : k ≤ k') (hc : L2H.HotC X) (hg : Gl X x) (ha : PA X (e :: es) (rdA W fa))
    (hdb : (x == ("__debug__" : Str)) = false := by decide) (he : starEach (e :: es) X.env = (false, eval e X.env) :: starEach es X.env := by rfl) (hpl : (backTo pos (starEach es X.env)).any (·.1) = false := by rfl) :
    PE X (.Call (.Name x p) (e :: es) [] pos) (rdE W (fCall n sem fa)) := by
  obtain ⟨f, fd, ps, F, hm, hkp, hb⟩ := C
  refine peI (L2H.pe_callH (E := fun _ _ _ _ => False) ⟨F.len, fun A outer s H args us vs Q E p hr => F.run A outer s H args us vs Q E p (hr.mono hk)⟩ hr hc hg hm hkp hb (fun σ pins H s e s' I h => h.elim) ha hdb he hpl) fun σ H Q h => ?_
  have := rd_call (E' := fun _ _ _ => False) h
  unfold tCall at this
  simp only [List.append_nil] at this
  exact this
theorem hot_suite {X : Cx} {a C : Addr} {oe : Obj} {d : Option Addr} {pn : List (Addr × Obj)} (hz : L2N.Zn (.ref C) d oe) (hv : ∃ vs, oe.data = .fields vs) : L2H.HotC (X.suite a ((a, oe) :: pn)) :=
  let ⟨vs, e⟩ := hv
  ⟨(a, oe), ⟨rfl, vs, e, hz.2.2 vs e⟩, List.mem_cons_self⟩
theorem room_suite {X : Cx} {k : Nat} {a : Addr} {pn : List (Addr × Obj)} (hr : Room k X.A) : L2H.RoomH k (X.suite a pn).A := ⟨hr.dp, hr.un⟩
end
end PyL

set_option maxHeartbeats 2000000
namespace PyL
open PySem PySem.Spec L2
open Enc (enc)
set_option autoImplicit false

/-! ### typed: answers that may be an error -/
inductive Ex (α : Type) where
  | ok (a : α) | exn (x : Exn)
def zOk {α : Type} (o : Option (Ex α)) : Option α := match o with
  | some (.ok a) => some a
  | _ => none
theorem zOk_some {α : Type} {o : Option (Ex α)} {a : α} (h : zOk o = some a) : o = some (.ok a) := by
  unfold zOk at h
  split at h
  · cases h; rfl
  · cases h
section
variable {α τ σ : Type} [Enc α] [Enc τ]
def DRX (o : Res (D × Nat)) (v : Ex τ) (kk : Option Nat) : Prop := match v with
  | .ok v => DR o (enc v) kk
  | .exn x => o = .exn x
def PrtX (v : Ex τ) (kk : Option Nat) : Out → Prop := match v with
  | .ok v => Prt v kk
  | .exn x => fun o => ∃ ρ, o = .ex x ρ
def PlpX (Sf : σ → Spec) (kk : Option Nat) : Ctl σ (Ex τ) → Out → Prop
  | .go s => Pgo (Sf s)
  | .stop s => fun o => ∃ ρ', o = .bk ρ' ∧ Env ρ' (Sf s)
  | .ret r => PrtX r kk
variable {S S' S2 : Spec} {f g : FS} {kk : Option Nat} {P Q : Out → Prop}
theorem sp_imp (h : SpS S f P) (k : ∀ o, P o → Q o) : SpS S f Q := fun ρ z => k _ (h ρ z)
theorem sp_okX {v : τ} (h : SpS S f (Prt v kk)) : SpS S f (PrtX (.ok v) kk) := h
theorem sp_okLX {Sf : σ → Spec} {v : τ} (h : SpS S f (Prt v kk)) : SpS S f (PlpX Sf kk (.ret (.ok v))) := h
theorem prtX_seq {v : Ex τ} (h : SpS S f (PrtX v kk)) : SpS S (sSeq f g) (PrtX v kk) := fun ρ z => by
  have q := h ρ z
  rw [ap_seq]
  cases v with
  | ok v =>
    obtain ⟨k, e, hk⟩ := q
    rw [e]; exact ⟨k, rfl, hk⟩
  | exn x =>
    obtain ⟨ρ', e⟩ := q
    rw [e]; exact ⟨ρ', rfl⟩
theorem sp_brkX {Sf : σ → Spec} {s : σ} (h : Sub S (Sf s)) : SpS S sBrk (PlpX (τ := τ) Sf kk (.stop s)) := fun ρ z => ⟨ρ, rfl, h.env z⟩
theorem sp_brkSX {Sf : σ → Spec} {s : σ} (h : Sub S (Sf s)) : SpS S (sSeq sBrk g) (PlpX (τ := τ) Sf kk (.stop s)) := fun ρ z => ⟨ρ, rfl, h.env z⟩
theorem plpX_c {Sf : σ → Spec} {s : σ} (h : Sub S (Sf s)) : ∀ ρ', Env ρ' S → PlpX (τ := τ) Sf kk (.go s) (.nx ρ') := fun ρ' z => ⟨ρ', .inl rfl, h.env z⟩
theorem sp_cntX {Sf : σ → Spec} {s : σ} (h : Sub S (Sf s)) : SpS S sCnt (PlpX (τ := τ) Sf kk (.go s)) := fun ρ z => ⟨ρ, .inr rfl, h.env z⟩
theorem sp_cntSX {Sf : σ → Spec} {s : σ} (h : Sub S (Sf s)) : SpS S (sSeq sCnt g) (PlpX (τ := τ) Sf kk (.go s)) := fun ρ z => ⟨ρ, .inr rfl, h.env z⟩
theorem prtX_end {r : Ex τ} {o : Out} (h : PrtX r kk o) : (∃ d k, o = .rt d k) ∨ ∃ x ρ, o = .ex x ρ := by
  cases r with
  | ok v => obtain ⟨k, e, _⟩ := h; exact .inl ⟨_, _, e⟩
  | exn x => obtain ⟨ρ, e⟩ := h; exact .inr ⟨_, _, e⟩
theorem forL_cX {tg : FG} {vs : List Nat} {body : FS} {fm : α → σ → Option (Ctl σ (Ex τ))} {Sf : σ → Spec} : ∀ {xs : List α} {s : σ} {o : σ ⊕ Ex τ} {ρ : Ev}, (∀ x s c, x ∈ xs → fm x s = some c → ∃ S2, BG tg vs x (Sf s) S2 ∧ SpS S2 body (PlpX Sf kk c)) → Env ρ (Sf s) → zForC fm xs s = some o →
    match o with
    | .inl s1 => ∃ ρ', forL tg vs body ρ (xs.map enc) = .nx ρ' ∧ Env ρ' (Sf s1)
    | .inr r => PrtX r kk (forL tg vs body ρ (xs.map enc))
  | [], s, o, ρ, _, z, h => by cases h; exact ⟨ρ, rfl, z⟩
  | x :: xs, s, o, ρ, hb, z, h => by
    unfold zForC at h
    obtain ⟨c, h1, h⟩ := bnd h
    obtain ⟨S2, b1, b2⟩ := hb x s c List.mem_cons_self h1
    obtain ⟨ρ2, e2, z2⟩ := b1 ρ z
    have b3 := b2 ρ2 z2
    rw [List.map_cons]
    unfold forL
    simp only [e2]
    cases c with
    | go s' =>
      obtain ⟨ρ3, e3, z3⟩ := b3
      have := forL_cX (xs := xs) (fun y u u' hy => hb y u u' (List.mem_cons_of_mem _ hy)) z3 h
      rcases e3 with e3 | e3 <;> simp only [e3] <;> exact this
    | stop s' =>
      cases h
      obtain ⟨ρ3, e3, z3⟩ := b3
      simp only [e3]
      exact ⟨ρ3, rfl, z3⟩
    | ret r =>
      cases h
      have b3 : PrtX r kk (body ρ2) := b3
      rcases prtX_end b3 with ⟨d, k, e⟩ | ⟨x, ρ', e⟩
      · rw [e] at b3; simp only [e]; exact b3
      · rw [e] at b3; simp only [e]; exact b3
theorem for_cX {E C : List Nat} {it : FI} {tg : FG} {vs : List Nat} {body : FS} {xs : List α} {fm : α → σ → Option (Ctl σ (Ex τ))} {Sf : σ → Spec} {s0 : σ} {o : σ ⊕ Ex τ} (hi : RI S it xs E C) (h0 : Sub (frzS (E ++ C) S) (Sf s0)) (hb : ∀ x s c, x ∈ xs → fm x s = some c → ∃ S2, BG tg vs x (Sf s) S2 ∧ SpS S2 body (PlpX Sf kk c)) (h : zForC fm xs s0 = some o) : SpS S (sFor it tg vs body) (match o with
    | .inl s1 => Pnx (Sf s1)
    | .inr r => PrtX r kk) := fun ρ z => by
  obtain ⟨w, e1, e2, e3, e4⟩ := hi ρ z
  have key := forL_cX (tg := tg) (vs := vs) (body := body) (kk := kk) (ρ := frzL (w.e ++ w.c) ρ) hb (h0.env (z.frz fun i hi => by
    rcases List.mem_append.mp hi with hi | hi
    · exact List.mem_append_left _ (e3 i hi)
    · exact List.mem_append_right _ (e4 i hi))) h
  rw [ap_for, e1, st_ok, e2]
  cases o with
  | inl s1 => exact key
  | inr r => exact key
theorem sp_forCsX {E C : List Nat} {fg : FS} {it : FI} {tg : FG} {vs : List Nat} {body : FS} {xs : List α} {fm : α → σ → Option (Ctl σ (Ex τ))} {Sf : σ → Spec} {s0 : σ} {o : σ ⊕ Ex τ} (hi : RI S it xs E C) (h0 : Sub (frzS (E ++ C) S) (Sf s0)) (hb : ∀ x s c, x ∈ xs → fm x s = some c → ∃ S2, BG tg vs x (Sf s) S2 ∧ SpS S2 body (PlpX Sf kk c)) (h : zForC fm xs s0 = some o)
    (k1 : ∀ s1, o = .inl s1 → SpS (Sf s1) fg P) (k2 : ∀ r, o = .inr r → ∀ w, PrtX r kk w → P w) : SpS S (sSeq (sFor it tg vs body) fg) P := fun ρ z => by
  have q := for_cX (kk := kk) hi h0 hb h
  cases o with
  | inl s1 => exact sp_seq (S' := Sf s1) q (k1 s1 rfl) ρ z
  | inr r =>
    have q : SpS S _ (PrtX r kk) := q
    exact k2 r rfl _ (prtX_seq q ρ z)
theorem sp_forClX {E C : List Nat} {it : FI} {tg : FG} {vs : List Nat} {body : FS} {xs : List α} {fm : α → σ → Option (Ctl σ (Ex τ))} {Sf : σ → Spec} {s0 : σ} {o : σ ⊕ Ex τ} (hi : RI S it xs E C) (h0 : Sub (frzS (E ++ C) S) (Sf s0)) (hb : ∀ x s c, x ∈ xs → fm x s = some c → ∃ S2, BG tg vs x (Sf s) S2 ∧ SpS S2 body (PlpX Sf kk c)) (h : zForC fm xs s0 = some o)
    (k1 : ∀ s1, o = .inl s1 → ∀ ρ', Env ρ' (Sf s1) → P (.nx ρ')) (k2 : ∀ r, o = .inr r → ∀ w, PrtX r kk w → P w) : SpS S (sFor it tg vs body) P := fun ρ z => by
  have q := for_cX (kk := kk) hi h0 hb h ρ z
  cases o with
  | inl s1 =>
    obtain ⟨ρ', e, z'⟩ := q
    rw [e]
    exact k1 s1 rfl ρ' z'
  | inr r => exact k2 r rfl _ q
theorem whileL_cX {t : FT} {body : FS} {tm : σ → Option Bool} {fm : σ → Option (Ctl σ (Ex τ))} {Sf : σ → Spec} (ht : ∀ s b, tm s = some b → RT (Sf s) t b) (hb : ∀ s c, tm s = some true → fm s = some c → SpS (Sf s) body (PlpX Sf kk c)) : ∀ {n : Nat} {s : σ} {o : σ ⊕ Ex τ} {ρ : Ev}, Env ρ (Sf s) → zWhileC tm fm n s = some o →
    match o with
    | .inl s1 => ∃ ρ', whileL t body n ρ = .nx ρ' ∧ Env ρ' (Sf s1)
    | .inr r => PrtX r kk (whileL t body n ρ)
  | 0, _, _, _, _, h => by cases h
  | n + 1, s, o, ρ, z, h => by
    unfold zWhileC at h
    obtain ⟨b, h1, h⟩ := bnd h
    have q := ht s b h1 ρ z
    unfold whileL
    rw [q]
    rcases tif h with ⟨rfl, h⟩ | ⟨rfl, h⟩
    · obtain ⟨c, h2, h⟩ := bnd h
      have b3 := hb s c h1 h2 ρ z
      simp only [if_true]
      cases c with
      | go s' =>
        obtain ⟨ρ2, e2, z2⟩ := b3
        have := whileL_cX ht hb z2 h
        rcases e2 with e2 | e2 <;> simp only [e2] <;> exact this
      | stop s' =>
        cases h
        obtain ⟨ρ3, e3, z3⟩ := b3
        simp only [e3]
        exact ⟨ρ3, rfl, z3⟩
      | ret r =>
        cases h
        have b3 : PrtX r kk (body ρ) := b3
        rcases prtX_end b3 with ⟨d, k, e⟩ | ⟨x, ρ', e⟩
        · rw [e] at b3; simp only [e]; exact b3
        · rw [e] at b3; simp only [e]; exact b3
    · cases h
      exact ⟨ρ, rfl, z⟩
theorem while_cX {t : FT} {n : Nat} {body : FS} {tm : σ → Option Bool} {fm : σ → Option (Ctl σ (Ex τ))} {Sf : σ → Spec} {s0 : σ} {o : σ ⊕ Ex τ} (h0 : Sub S (Sf s0)) (ht : ∀ s b, tm s = some b → RT (Sf s) t b) (hb : ∀ s c, tm s = some true → fm s = some c → SpS (Sf s) body (PlpX Sf kk c)) (h : zWhileC tm fm n s0 = some o) : SpS S (sWhile n t body) (match o with
    | .inl s1 => Pnx (Sf s1)
    | .inr r => PrtX r kk) := fun ρ z => by
  have := whileL_cX ht hb (n := n) (kk := kk) (h0.env z) h
  cases o with
  | inl s1 => exact this
  | inr r => exact this
theorem sp_whileCsX {fg : FS} {t : FT} {n : Nat} {body : FS} {tm : σ → Option Bool} {fm : σ → Option (Ctl σ (Ex τ))} {Sf : σ → Spec} {s0 : σ} {o : σ ⊕ Ex τ} (h0 : Sub S (Sf s0)) (ht : ∀ s b, tm s = some b → RT (Sf s) t b) (hb : ∀ s c, tm s = some true → fm s = some c → SpS (Sf s) body (PlpX Sf kk c)) (h : zWhileC tm fm n s0 = some o)
    (k1 : ∀ s1, o = .inl s1 → SpS (Sf s1) fg P) (k2 : ∀ r, o = .inr r → ∀ w, PrtX r kk w → P w) : SpS S (sSeq (sWhile n t body) fg) P := fun ρ z => by
  have q := while_cX (kk := kk) h0 ht hb h
  cases o with
  | inl s1 => exact sp_seq (S' := Sf s1) q (k1 s1 rfl) ρ z
  | inr r =>
    have q : SpS S _ (PrtX r kk) := q
    exact k2 r rfl _ (prtX_seq q ρ z)
theorem sp_whileClX {t : FT} {n : Nat} {body : FS} {tm : σ → Option Bool} {fm : σ → Option (Ctl σ (Ex τ))} {Sf : σ → Spec} {s0 : σ} {o : σ ⊕ Ex τ} (h0 : Sub S (Sf s0)) (ht : ∀ s b, tm s = some b → RT (Sf s) t b) (hb : ∀ s c, tm s = some true → fm s = some c → SpS (Sf s) body (PlpX Sf kk c)) (h : zWhileC tm fm n s0 = some o)
    (k1 : ∀ s1, o = .inl s1 → ∀ ρ', Env ρ' (Sf s1) → P (.nx ρ')) (k2 : ∀ r, o = .inr r → ∀ w, PrtX r kk w → P w) : SpS S (sWhile n t body) P := fun ρ z => by
  have q := while_cX (kk := kk) h0 ht hb h ρ z
  cases o with
  | inl s1 =>
    obtain ⟨ρ', e, z'⟩ := q
    rw [e]
    exact k1 s1 rfl ρ' z'
  | inr r => exact k2 r rfl _ q
/-! defs -/
theorem dr_fnX {N n : Nat} {body : FS} {ds : List D} {S0 : Spec} {v : Ex τ} (hl : ds.length = n) (hS : ds.map (fun d => some (d, some 0)) ++ List.replicate (N - n) none = S0) (h : SpS S0 body (PrtX v kk)) : DRX (dsem N n body ds) v kk := by
  have q := h _ (hS ▸ env_fn)
  cases v with
  | ok v => exact dr_fn hl hS fun ρ z => h ρ z
  | exn x =>
    obtain ⟨ρ, e⟩ := q
    show dsem N n body ds = .exn x
    rw [ds_eq hl, e]; rfl
theorem dr_fnNX {N n : Nat} {body : FS} {ds : List D} {S0 : Spec} {v : Ex τ} (hl : ds.length = n) (hS : ds.map (fun d => some (d, some 0)) ++ List.replicate (N - n) none = S0) (h : SpS S0 (sSeq body sRetN) (PrtX v kk)) : DRX (dsem N n body ds) v kk := by
  cases v with
  | ok v => exact dr_fnN hl hS fun ρ z => h ρ z
  | exn x =>
    obtain ⟨ρ, e⟩ := h _ (hS ▸ env_fn)
    show dsem N n body ds = .exn x
    rw [ds_eq hl]
    rw [ap_seq] at e
    revert e
    generalize body _ = o
    intro e
    cases o with
    | nx ρ => exact nomatch e
    | rt d k => exact nomatch e
    | bk ρ => exact nomatch e
    | ct ρ => exact nomatch e
    | ex y ρ => cases e; rfl
    | bad => exact nomatch e
/-- the call raises nothing -/
theorem drx_ok {o : Res (D × Nat)} {t : Option (Ex τ)} {v : τ} (h : ∀ {r : Ex τ}, t = some r → DRX o r kk) (e : zOk t = some v) : DR o (enc v) kk := h (zOk_some e)
end
section
variable {α τ σ : Type} [Enc α] [Enc τ] {S S' S2 : Spec} {f g : FS} {kk ka m' : Option Nat} {E C : List Nat} {P Q : Out → Prop} {A : FA} {ds : List D} {fe : FE}
/-! what raises -/
def RX (S : Spec) (f : FE) (x : Exn) : Prop := ∀ ρ, Env ρ S → f ρ = .exn x
def Pex (x : Exn) (S' : Spec) : Out → Prop := fun o => ∃ ρ', o = .ex x ρ' ∧ Env ρ' S'
theorem rx_call {n : Nat} {sem : DS} {x : Exn} (h : sem ds = .exn x) (hn : ds.length = n) (t : RA S A ds m' E) : RX S (fCallX n sem A) x := fun ρ z => by
  obtain ⟨rs, e, a, b, c⟩ := t ρ z
  have hl : rs.length = n := by rw [← hn, ← a, List.length_map]
  show (A ρ).bind (callX n sem) = _
  rw [e]
  show callX n sem rs = _
  unfold callX
  rw [if_pos hl, a, h]
theorem re_callX {n : Nat} {sem : DS} {v : α} (h : RE S (fCall n sem A) v kk E C) : RE S (fCallX n sem A) v kk E C := fun ρ z => by
  obtain ⟨r, e, g⟩ := h ρ z
  refine ⟨r, ?_, g⟩
  have e : (A ρ).bind (callR n sem) = .ok r := e
  show (A ρ).bind (callX n sem) = _
  cases q : A ρ with
  | bad => rw [q] at e; cases e
  | exn x => rw [q] at e; cases e
  | ok rs =>
    rw [q] at e
    have e : callR n sem rs = .ok r := e
    show callX n sem rs = .ok r
    unfold callR at e
    unfold callX
    split
    · rename_i hl
      rw [if_pos hl] at e
      cases q2 : sem (rs.map (·.d)) with
      | ok dk => rw [q2] at e; exact e
      | exn x => rw [q2] at e; cases e
      | bad => rw [q2] at e; cases e
    · rename_i hl
      rw [if_neg hl] at e; cases e
theorem rx_isN {neg : Bool} {x : Exn} (h : RX S fe x) : RX S (fIsN neg fe) x := fun ρ z => by show (fe ρ).bind _ = _; rw [h ρ z]; rfl
theorem px_set {i : Nat} {x : Exn} (h : RX S fe x) : SpS S (sSet i fe) (Pex x S) := fun ρ z => ⟨ρ, by show stE fe _ ρ = _; unfold stE; rw [h ρ z], z⟩
theorem px_expr {x : Exn} (h : RX S fe x) : SpS S (sExpr fe) (Pex x S) := fun ρ z => ⟨ρ, by show stE fe _ ρ = _; unfold stE; rw [h ρ z], z⟩
theorem px_ret {x : Exn} (h : RX S fe x) : SpS S (sRet fe) (Pex x S) := fun ρ z => ⟨ρ, by show stE fe _ ρ = _; unfold stE; rw [h ρ z], z⟩
theorem px_setT {is : List Nat} {x : Exn} (h : RX S fe x) : SpS S (sSetT is fe) (Pex x S) := fun ρ z => ⟨ρ, by unfold sSetT; show stE fe _ ρ = _; unfold stE; rw [h ρ z], z⟩
theorem px_if {x : Exn} {g' : FS} (h : RX S fe x) : SpS S (sIf (fTest fe) g g') (Pex x S) := fun ρ z => ⟨ρ, by
  have e : fTest fe ρ = .exn x := by show (fe ρ).bind _ = _; rw [h ρ z]; rfl
  show stT (fTest fe) _ ρ = _; unfold stT; rw [e], z⟩
theorem px_raise {nm : Str} {fs : List Str} {vs : List D} (h : RA S A vs none E) (hl : vs.length = fs.length) (h1 : fs.length ≤ 1) : SpS S (sRaise nm fs A) (Pex ⟨nm, fs.zip vs⟩ S) := fun ρ z => by
  obtain ⟨rs, e, a, b, c⟩ := h ρ z
  refine ⟨ρ, ?_, z⟩
  show stA A _ ρ = _
  unfold stA
  rw [e]
  have : rs.length = fs.length := by rw [← hl, ← a, List.length_map]
  show (if rs.length = fs.length ∧ fs.length ≤ 1 then Out.ex ⟨nm, fs.zip (rs.map (·.d))⟩ ρ else .bad) = _
  rw [if_pos ⟨this, h1⟩, a]
theorem px_seq {x : Exn} (h : SpS S f (Pex x S')) : SpS S (sSeq f g) (Pex x S') := fun ρ z => by
  obtain ⟨ρ', e, z'⟩ := h ρ z
  refine ⟨ρ', ?_, z'⟩
  rw [ap_seq, e]; rfl
theorem px_X {x : Exn} (h : SpS S f (Pex x S')) : SpS S f (PrtX (τ := τ) (.exn x) kk) := fun ρ z => by
  obtain ⟨ρ', e, _⟩ := h ρ z
  exact ⟨ρ', e⟩
theorem px_L {Sf : σ → Spec} {x : Exn} (h : SpS S f (Pex x S')) : SpS S f (PlpX (τ := τ) Sf kk (.ret (.exn x))) := fun ρ z => px_X (τ := τ) (kk := kk) h ρ z

/-! ### try -/
variable {io : Option Nat} {m : Str → Option Bool} {gs : SU} {x : Exn} {rest : FS}
theorem sp_tryN (h : SpS S f (Pnx S')) : SpS S (sTry f io m gs) (Pnx S') := fun ρ z => by
  obtain ⟨ρ', e, z'⟩ := h ρ z
  exact ⟨ρ', by unfold sTry; rw [e], z'⟩
theorem sp_tryR {v : τ} (h : SpS S f (Prt v kk)) : SpS S (sTry f io m gs) (Prt v kk) := fun ρ z => by
  obtain ⟨k, e, hk⟩ := h ρ z
  exact ⟨k, by unfold sTry; rw [e], hk⟩
theorem sp_tryP (h : SpS S f (Pex x S')) (hm : m x.cls = some false) : SpS S (sTry f io m gs) (Pex x S') := fun ρ z => by
  obtain ⟨ρ', e, z'⟩ := h ρ z
  exact ⟨ρ', by unfold sTry; rw [e]; simp only [hm], z'⟩
def putS (io : Option Nat) (d : D) (S : Spec) : Spec := match io with
  | none => S
  | some i => S.set i (some (d, some 0))
def offS (io : Option Nat) (S : Spec) : Spec := match io with
  | none => S
  | some i => S.set i none
theorem env_put {ρ : Ev} {d : D} (z : Env ρ S) : Env (putX io d ρ) (putS io d S) := by
  cases io with
  | none => exact z
  | some i => exact z.set i fun m q => by cases q; rfl
theorem env_off {ρ : Ev} (z : Env ρ S) : Env (offX io ρ) (offS io S) := by
  cases io with
  | none => exact z
  | some i => exact z.none i
theorem off_put {ρ : Ev} {d : D} : offX io (putX io d ρ) = offX io ρ := by
  cases io with
  | none => rfl
  | some i => show (ρ.set i _).set i none = _; rw [List.set_set]; rfl
def SuS (io : Option Nat) (x : Exn) (Sx : Addr → Option Addr → Spec) (g : Addr → Option Addr → FS) (rest : FS) (P : Out → Prop) : Prop :=
  ∀ ρ, (∀ a d, Env (putX io (excD a d x) ρ) (Sx a d)) → ∃ o, (∀ a d, dropX io (g a d (putX io (excD a d x) ρ)) = o) ∧ P (o.then rest)
theorem env_frzX {ρ : Ev} {n : Nat} (hn : S.length = n) (z : Env ρ S) : Env (frzX x ρ) (frzS (List.range n) S) := by
  unfold frzX
  split
  · have := z.frz (e := []) (E := List.range n) (fun i h => by cases h)
    exact this
  · refine z.frz fun i hi => ?_
    rw [z.1, hn] at hi
    exact hi
theorem sp_tryX {n : Nat} {Sx : Addr → Option Addr → Spec} (h : SpS S f (Pex x S')) (hm : m x.cls = some true) (hn : S'.length = n) (hS : ∀ a d, putS io (excD a d x) (frzS (List.range n) S') = Sx a d) (hs : SuS io x Sx (fun a d => gs a d x.cls) rest P) : SpS S (sSeq (sTry f io m gs) rest) P := fun ρ z => by
  obtain ⟨ρ', e, z'⟩ := h ρ z
  obtain ⟨o, h1, h2⟩ := hs (frzX x ρ') fun a d => hS a d ▸ env_put (env_frzX hn z')
  have : sTry f io m gs ρ = o := by
    unfold sTry
    rw [e]
    simp only [hm]
    exact theOut_eq fun a d => h1 a d
  rw [ap_seq, this]
  exact h2
theorem then_nil (o : Out) : o.then sNil = o := by cases o <;> rfl
theorem sp_tryXl {n : Nat} {Sx : Addr → Option Addr → Spec} (h : SpS S f (Pex x S')) (hm : m x.cls = some true) (hn : S'.length = n) (hS : ∀ a d, putS io (excD a d x) (frzS (List.range n) S') = Sx a d) (hs : SuS io x Sx (fun a d => gs a d x.cls) sNil P) : SpS S (sTry f io m gs) P := fun ρ z => by
  have := sp_tryX h hm hn hS hs ρ z
  rw [ap_seq, then_nil] at this
  exact this
/-! a suite's rows -/
variable {Sx Sy : Addr → Option Addr → Spec} {gf gg gh : Addr → Option Addr → FS} {ge : Addr → Option Addr → FE} {gt : Addr → Option Addr → FT} {v : α} {b : Bool} {j k : Nat}
theorem seq_assoc {a c d : FS} : sSeq (sSeq a c) d = sSeq a (sSeq c d) := by
  funext ρ
  rw [ap_seq, ap_seq, ap_seq]
  cases a ρ with
  | nx ρ' => show (c ρ').then d = sSeq c d ρ'; rw [ap_seq]
  | _ => rfl
theorem seq_nil {a : FS} : sSeq a sNil = a := by
  funext ρ
  rw [ap_seq, then_nil]
theorem su_assoc (h : SuS io x Sx (fun a d => sSeq (gf a d) (sSeq (gg a d) (gh a d))) rest P) : SuS io x Sx (fun a d => sSeq (sSeq (gf a d) (gg a d)) (gh a d)) rest P := by
  have e : (fun a d => sSeq (sSeq (gf a d) (gg a d)) (gh a d)) = fun a d => sSeq (gf a d) (sSeq (gg a d) (gh a d)) := by funext a d; exact seq_assoc
  rw [e]; exact h
theorem su_one (h : SuS io x Sx (fun a d => sSeq (gf a d) sNil) rest P) : SuS io x Sx gf rest P := by
  have e : gf = fun a d => sSeq (gf a d) sNil := by funext a d; exact seq_nil.symm
  rw [e]; exact h
theorem su_skip (h : SuS io x Sx gf rest P) : SuS io x Sx (fun a d => sSeq sNil (gf a d)) rest P := h
theorem put_comm {ρ : Ev} {e : D} {s : Slot} (hj : io ≠ some j) : (putX io e ρ).set j s = putX io e (ρ.set j s) := by
  cases io with
  | none => rfl
  | some i =>
    have : i ≠ j := fun z => hj (by rw [z])
    exact List.set_comm _ _ this
theorem su_set (hj : io ≠ some j) (h : ∀ a d, RE (Sx a d) (ge a d) v (some k) [] C) (hS : ∀ a d, (Sx a d).set j (some (enc v, some k)) = Sy a d) (hk : SuS io x Sy gg rest P) : SuS io x Sx (fun a d => sSeq (sSet j (ge a d)) (gg a d)) rest P := fun ρ z => by
  obtain ⟨o, h1, h2⟩ := hk (ρ.set j (some (enc v, k))) fun a d => by
    rw [← put_comm hj, ← hS]
    exact (z a d).set j fun m q => by cases q; rfl
  refine ⟨o, fun a d => ?_, h2⟩
  obtain ⟨r, e, a1, a2, a3, _⟩ := h a d _ (z a d)
  have e0 : r.e = [] := List.eq_nil_iff_forall_not_mem.mpr fun i hi => by have := a3 i hi; cases this
  rw [← h1 a d]
  show dropX io (sSeq (sSet j (ge a d)) (gg a d) _) = _
  rw [ap_seq, ap_set, e, st_ok, a1, a2 k rfl, e0, ← put_comm hj]
  rfl
theorem su_nil (hS : ∀ a d, offS io (Sx a d) = S2) (hk : SpS S2 rest P) : SuS io x Sx (fun _ _ => sNil) rest P := fun ρ z => by
  refine ⟨.nx (offX io ρ), fun a d => ?_, ?_⟩
  · show Out.nx (offX io (putX io (excD a d x) ρ)) = _
    rw [off_put]
  · show P (rest (offX io ρ))
    refine hk _ ?_
    have := env_off (io := io) (z 0 none)
    rw [off_put, hS] at this
    exact this
theorem su_nilE (hS : ∀ a d, offS io (Sx a d) = S2) (hk : ∀ ρ', Env ρ' S2 → P (.nx ρ')) : SuS io x Sx (fun _ _ => sNil) sNil P := su_nil hS fun ρ z => hk ρ z
end
def sRetS (f : FE) : FS := stE f fun r _ => if scal r.d then .rt r.d 0 else .bad
theorem s_retS {X : Cx} {W : WK} {e : Expr} {fe : FE} {pos : Pos} (he : PE X e (rdE W fe)) : PS X (.Return (some e) pos) (rdS W (sRetS fe)) :=
  psI (s_ret he) fun Dn σ H ⟨S0, H0, ρ, F, E, p⟩ => by
    refine ⟨S0, H0, ρ, F, E, ?_⟩
    have p : PostS W S0 H0 Dn (stE fe (fun r _ => if scal r.d then .rt r.d 0 else .bad) ρ) := p
    show PostS W S0 H0 Dn (stE fe (fun r _ => .rt r.d r.k) ρ)
    unfold stE at p ⊢
    cases q : fe ρ with
    | ok r =>
      rw [q] at p
      simp only at p ⊢
      split at p
      · rename_i hs
        intro v H fp sm n o
        exact p v H [] sm (fun a ha => by cases ha) (Ow.imp (fun b o q n => ⟨q, n⟩) _ _ _ _ (fun _ _ _ q => q) (scal_ow hs o 0 (S' := fun a => S0 a ∨ a ∈ []) (H' := H)).1)
      · exact p.elim
    | exn x => rw [q] at p; exact p
    | bad => rw [q] at p; exact p
section
variable {α τ σ : Type} [Enc α] [Enc τ] {S S' S2 : Spec} {kk : Option Nat} {E C : List Nat} {P Q : Out → Prop} {io : Option Nat} {x : Exn} {rest : FS} {Sx Sy : Addr → Option Addr → Spec} {gf gg gh : Addr → Option Addr → FS} {ge : Addr → Option Addr → FE} {gt : Addr → Option Addr → FT} {v : α} {b : Bool} {i j k : Nat}
theorem su_ret (h : ∀ a d, RE (Sx a d) (ge a d) v kk E C) (hs : scal (enc v) = true) (hP : P (.rt (enc v) 0)) : SuS io x Sx (fun a d => sRetS (ge a d)) rest P := fun ρ z => by
  refine ⟨.rt (enc v) 0, fun a d => ?_, hP⟩
  obtain ⟨r, e, a1, _⟩ := h a d _ (z a d)
  show dropX io (stE (ge a d) _ _) = _
  unfold stE
  rw [e]
  simp only
  rw [a1, if_pos hs]
  rfl
theorem su_retS (h : ∀ a d, RE (Sx a d) (ge a d) v kk E C) (hs : scal (enc v) = true) (hP : P (.rt (enc v) 0)) : SuS io x Sx (fun a d => sSeq (sRetS (ge a d)) (gg a d)) rest P := fun ρ z => by
  obtain ⟨o, h1, h2⟩ := su_ret (io := io) (x := x) (rest := rest) h hs hP ρ z
  refine ⟨o, fun a d => ?_, h2⟩
  rw [← h1 a d]
  show dropX io (sSeq (sRetS (ge a d)) (gg a d) _) = dropX io (sRetS (ge a d) _)
  rw [ap_seq]
  obtain ⟨r, e, a1, _⟩ := h a d _ (z a d)
  have : sRetS (ge a d) (putX io (excD a d x) ρ) = .rt (enc v) 0 := by
    show stE (ge a d) _ _ = _
    unfold stE
    rw [e]
    simp only
    rw [a1, if_pos hs]
  rw [this]; rfl
theorem su_if_t (ht : ∀ a d, RT (Sx a d) (gt a d) b) (hb : b = true) (h : SuS io x Sx gf rest P) : SuS io x Sx (fun a d => sIf (gt a d) (gf a d) (gg a d)) rest P := fun ρ z => by
  obtain ⟨o, h1, h2⟩ := h ρ z
  refine ⟨o, fun a d => ?_, h2⟩
  rw [← h1 a d]
  show dropX io (sIf (gt a d) (gf a d) (gg a d) _) = _
  rw [ap_if, ht a d _ (z a d), st_ok, hb]; rfl
theorem su_if_f (ht : ∀ a d, RT (Sx a d) (gt a d) b) (hb : b = false) (h : SuS io x Sx gg rest P) : SuS io x Sx (fun a d => sIf (gt a d) (gf a d) (gg a d)) rest P := fun ρ z => by
  obtain ⟨o, h1, h2⟩ := h ρ z
  refine ⟨o, fun a d => ?_, h2⟩
  rw [← h1 a d]
  show dropX io (sIf (gt a d) (gf a d) (gg a d) _) = _
  rw [ap_if, ht a d _ (z a d), st_ok, hb]; rfl
theorem su_ifs_t (ht : ∀ a d, RT (Sx a d) (gt a d) b) (hb : b = true) (h : SuS io x Sx (fun a d => sSeq (gf a d) (gh a d)) rest P) : SuS io x Sx (fun a d => sSeq (sIf (gt a d) (gf a d) (gg a d)) (gh a d)) rest P := fun ρ z => by
  obtain ⟨o, h1, h2⟩ := h ρ z
  refine ⟨o, fun a d => ?_, h2⟩
  rw [← h1 a d]
  show dropX io (sSeq (sIf (gt a d) (gf a d) (gg a d)) (gh a d) _) = dropX io (sSeq _ (gh a d) _)
  rw [ap_seq, ap_if, ht a d _ (z a d), st_ok, hb, ap_seq]; rfl
theorem su_ifs_f (ht : ∀ a d, RT (Sx a d) (gt a d) b) (hb : b = false) (h : SuS io x Sx (fun a d => sSeq (gg a d) (gh a d)) rest P) : SuS io x Sx (fun a d => sSeq (sIf (gt a d) (gf a d) (gg a d)) (gh a d)) rest P := fun ρ z => by
  obtain ⟨o, h1, h2⟩ := h ρ z
  refine ⟨o, fun a d => ?_, h2⟩
  rw [← h1 a d]
  show dropX io (sSeq (sIf (gt a d) (gf a d) (gg a d)) (gh a d) _) = dropX io (sSeq _ (gh a d) _)
  rw [ap_seq, ap_if, ht a d _ (z a d), st_ok, hb, ap_seq]; rfl
/-! the error's field and class -/
def zFld (fs : List Str) (x : Exn) (f : Str) : Option D := if f ∈ fs then x.fs.lookup f else none
theorem zip_map {f : Str} : ∀ {l : List (Str × D)}, ((l.map (·.1)).zip (l.map (·.2))).lookup f = l.lookup f
  | [] => rfl
  | (a, b) :: l => by
    rw [List.map_cons, List.map_cons, List.zip_cons_cons, List.lookup_cons, List.lookup_cons, zip_map (l := l)]
theorem re_fld {fs : List Str} {a : Addr} {d : Option Addr} {f : Str} {dv : D} (hi : S[i]? = some (some (excD a d x, some 0))) (h : zFld fs x f = some dv) : RE S (fFld fs a d x.cls i f) dv (some 0) [] [] := fun ρ z => by
  obtain ⟨k, e, hk⟩ := z.2 i _ hi
  unfold zFld at h
  split at h
  · rename_i hf
    refine ⟨⟨dv, 0, [], []⟩, ?_, rfl, fun m q => by cases q; rfl, fun j hj => (by cases hj), fun j hj => (by cases hj)⟩
    unfold fFld
    rw [e]
    show (if a = a ∧ d = d ∧ x.cls = x.cls ∧ f ∈ fs then _ else _) = _
    rw [if_pos ⟨rfl, rfl, rfl, hf⟩, zip_map, h]
  · cases h
theorem re_isX {it : Str → Option Bool} {a : Addr} {d : Option Addr} {b : Bool} (hi : S[i]? = some (some (excD a d x, some 0))) (h : it x.cls = some b) : RE S (fIsX it a d x.cls i) b (some 0) [] [] := fun ρ z => by
  obtain ⟨k, e, hk⟩ := z.2 i _ hi
  refine ⟨⟨.bl b, 0, [], []⟩, ?_, rfl, fun m q => by cases q; rfl, fun j hj => (by cases hj), fun j hj => (by cases hj)⟩
  unfold fIsX
  rw [e]
  show (if a = a ∧ d = d ∧ x.cls = x.cls then _ else _) = _
  rw [if_pos ⟨rfl, rfl, rfl⟩, h]
  rfl
theorem prt0 {v : τ} : Prt v none (.rt (enc v) 0) := ⟨0, rfl, fun m q => by cases q⟩
end
/-! wishes -/
theorem PostS.mono {W W' : WK} {S0 : PA1} {H0 : Hp} {Dn : Ends} (h : ∀ n d σ H, W n d σ H → W' n d σ H) : ∀ {o : Out}, PostS W S0 H0 Dn o → PostS W' S0 H0 Dn o
  | .nx _, p => p
  | .bk _, p => p
  | .ct _, p => p
  | .rt _ _, p => p
  | .ex _ _, p => fun σ H F E d r => h _ _ _ _ (p σ H F E d r)
  | .bad, p => p
theorem rdS_mono {W W' : WK} {f : FS} {Dn : Ends} {σ : L2.St} {H : Hp} (h : ∀ n d σ H, W n d σ H → W' n d σ H) (p : rdS W f Dn σ H) : rdS W' f Dn σ H :=
  let ⟨S0, H0, ρ, F, E, q⟩ := p
  ⟨S0, H0, ρ, F, E, q.mono h⟩
theorem takes0N {X : Cx} : L2N.Takes X fun _ _ _ _ => False := fun u s' h => by
  obtain ⟨_, _, _, _, _, _, _, _, _, _, _, _, _, _, _, _, z⟩ := h
  exact z.elim
/-- a try in a def that lets nothing out -/
theorem s_no {X : Cx} {st : Stmt} {f : FS} (h : PS X st (rdS (wk X.mg fun _ _ _ _ => False) f)) : PS X st (rdS W0 f) := psI h fun _ _ _ p => rdS_mono (fun _ _ _ _ z => z.elim) p
theorem tb_nil {β : Type} {Q : Str → β → Prop} : ∀ nm b, List.lookup nm ([] : List (Str × β)) = some b → Q nm b := fun _ _ h => nomatch h
theorem tb_cons {β : Type} {Q : Str → β → Prop} {n : Str} {c : β} {l : List (Str × β)} (h : Q n c) (t : ∀ nm b, List.lookup nm l = some b → Q nm b) : ∀ nm b, List.lookup nm ((n, c) :: l) = some b → Q nm b := fun nm b hb => by
  rw [List.lookup_cons] at hb
  split at hb
  · rename_i e
    cases hb
    have : nm = n := by simpa using e
    subst this
    exact h
  · exact t nm b hb
theorem s_retSN {X : Cx} {W : WK} {pos : Pos} : PS X (.Return none pos) (rdS W (sRetS (fC .non))) :=
  psI s_retN fun Dn σ H ⟨S0, H0, ρ, F, E, p⟩ => ⟨S0, H0, ρ, F, E, p⟩
/-- the def __init__ of a class's text -/
def clsInit : Stmt → Stmt
  | .ClassDef (body := b) .. => b.headD (.Pass ⟨0, 0, 0, 0⟩)
  | s => s
end PyL

set_option maxHeartbeats 2000000
/-! walks over lists and tuples while an error is handled -/
namespace PyL
open PySem PySem.Spec L2 PyProof.Rows HotX
set_option autoImplicit false
section
variable {prog : Program} {w : World} {A : Around} {E : Value → Shared → Prop} {s : Shared}
/-- StopIteration, raised while x1 is handled -/
theorem stop_hot {α : Type} {x1 : Addr} {Q : α → Shared → Prop} (hot : HotAt A x1 s.heap)
    (hE : ∀ h' a, (∀ b o, s.heap.get? b = some o → h'.get? b = some o) → (⟨h', s.gens, s.drawn, s.toks, s.os⟩ : Shared).TypeIs (.ref a) "StopIteration" → E (.ref a) { s with heap := h' }) :
    wpAny (model prog w) A ((newExc (.type "StopIteration") []) >>= fun v => (raiseNew v : Sem α)) Q E s := by
  obtain ⟨hh, o1, vs1, g1, d1, c1⟩ := hot
  unfold newExc newTuple
  refine wpAny_bind (wpAny_bind (wpAny_newObj_type (wpAny_bind (m := firstArgMember _ _) (wpAny_of_eq (a := Value.none) (by first | rfl | (simp only [firstArgMember]; rfl)) (wpAny_newObj_type ?_ (by size_fits)))) (by size_fits)))
  have up : ∀ {h : Heap} {o : Obj} {b : Addr} {u : Obj}, h.get? b = some u → (h.push o).get? b = some u := fun e => Heap.get?_push_of_some _ e
  have sz := Heap.get?_push_size (s.heap.push { cls := .type "tuple", data := .seq ([] : List Value).toArray }) (o := { cls := .type "StopIteration", dict := none, data := .fields (#[.ref s.heap.objs.size, .none, .none, .none, .bool false, .none] ++ #[Value.none]) }) rfl
  refine raiseNew_hot ⟨hh, o1, vs1, up (up g1), d1, c1⟩ (Nat.ne_of_lt (Heap.lt_size (up g1))) (Heap.get?_push_size _ rfl) rfl (by first | (simp; done) | (simp; omega) | (simp only [Array.size_append]; simp; omega)) ?_
  refine hE _ _ (fun b o e => ?_) ⟨_, Heap.get?_update_self _ (Heap.get?_push_size _ rfl) rfl, rfl⟩
  exact (Heap.get?_update_other _ _ (Nat.ne_of_gt (Heap.lt_size (up e)))).trans (up (up e))
theorem hot_but {x1 it : Addr} {h h' : Heap} (hot : HotAt A x1 h) (hne : x1 ≠ it) (k : ∀ b o, b ≠ it → h.get? b = some o → h'.get? b = some o) : HotAt A x1 h' :=
  let ⟨hh, o, vs, g, d, c⟩ := hot
  ⟨hh, o, vs, k _ _ hne g, d, c⟩
theorem list_end_hot {it l x1 : Addr} {i : Nat} {items : Array Value} {Q : Option Value → Shared → Prop} (hot : HotAt A x1 s.heap) (hit : s.heap.IsListIter it l i) (hl : s.heap.IsList l items) (hx : items[i]? = none)
    (hQ : ∀ h', (∀ b o, b ≠ it → s.heap.get? b = some o → h'.get? b = some o) → Q none { s with heap := h' }) : wpAny (model prog w) A (pyNext (.ref it)) Q E s := by
  obtain ⟨o, ho, hc, hd⟩ := id hit
  obtain ⟨ol, hol, _, nl, hdl⟩ := hl
  have hne : x1 ≠ it := fun z => by
    obtain ⟨_, o1, vs1, g1, d1, c1⟩ := hot
    rw [z, ho] at g1; cases g1
    rw [hd] at d1; cases d1
    simp at c1
  unfold pyNext
  refine wpAny_bind (wpAny_attempt (wpAny_callSpecial?_slot (name := Str.ofString "__next__") hit.typeIs slot_listiter_next (wpAny_call_entry slot_listiter_next hit.typeIs entry_listiter_next ?_ (args_listiter_next _))))
  show wpAny _ _ (field (.ref it) 0 >>= _) _ _ s
  refine wpAny_bind (wpAny_field ho hd (x := .ref l) rfl ?_)
  show wpAny _ _ (if (Value.ref l == Value.none) = true then _ else _) _ _ s
  rw [if_neg (show ¬ ((Value.ref l == Value.none) = true) from nofun)]
  refine wpAny_bind (wpAny_field ho hd (x := .int i 0) rfl (wpAny_bind (wpAny_seqItems hol hdl ?_)))
  simp only [Int.toNat_natCast, hx]
  refine wpAny_bind (wpAny_rule (wpAny_bind (wpAny_setField ho hd (by simp) ?_)))
  refine stop_hot (A := A.in1) (hot_but (A := A.in1) hot hne fun b u hb e => (Heap.get?_update_other _ _ (Ne.symm hb)).trans e) fun h' a k t => ?_
  exact wpAny_bind (wpAny_isInstance (T := "StopIteration") (b := true) t isSubtype_stop (wpAny_pure (hQ h' fun b u hb e => k b u ((Heap.get?_update_other _ _ (Ne.symm hb)).trans e))))
theorem tuple_end_hot {it l x1 : Addr} {i : Nat} {items : Array Value} {Q : Option Value → Shared → Prop} (hot : HotAt A x1 s.heap) (hit : s.heap.IsTupleIter it l i) (hl : s.heap.IsTuple l items) (hx : items[i]? = none)
    (hQ : ∀ h', (∀ b o, b ≠ it → s.heap.get? b = some o → h'.get? b = some o) → Q none { s with heap := h' }) : wpAny (model prog w) A (pyNext (.ref it)) Q E s := by
  obtain ⟨o, ho, hc, hd⟩ := id hit
  obtain ⟨ol, hol, _, nl, hdl⟩ := hl
  have hne : x1 ≠ it := fun z => by
    obtain ⟨_, o1, vs1, g1, d1, c1⟩ := hot
    rw [z, ho] at g1; cases g1
    rw [hd] at d1; cases d1
    simp at c1
  unfold pyNext
  refine wpAny_bind (wpAny_attempt (wpAny_callSpecial?_slot (name := Str.ofString "__next__") hit.typeIs F.slot_tuple_iterator_next (wpAny_call_entry F.slot_tuple_iterator_next hit.typeIs F.entry_tuple_iterator_next ?_ (F.args_tuple_iterator_next_1 _))))
  show wpAny _ _ (field (.ref it) 0 >>= _) _ _ s
  refine wpAny_bind (wpAny_field ho hd (x := .ref l) rfl ?_)
  show wpAny _ _ (if (Value.ref l == Value.none) = true then _ else _) _ _ s
  rw [if_neg (show ¬ ((Value.ref l == Value.none) = true) from nofun)]
  refine wpAny_bind (wpAny_field ho hd (x := .int i 0) rfl (wpAny_bind (wpAny_seqItems hol hdl ?_)))
  simp only [Int.toNat_natCast, hx]
  refine wpAny_bind (wpAny_rule (wpAny_bind (wpAny_setField ho hd (by simp) ?_)))
  refine stop_hot (A := A.in1) (hot_but (A := A.in1) hot hne fun b u hb e => (Heap.get?_update_other _ _ (Ne.symm hb)).trans e) fun h' a k t => ?_
  exact wpAny_bind (wpAny_isInstance (T := "StopIteration") (b := true) t isSubtype_stop (wpAny_pure (hQ h' fun b u hb e => k b u ((Heap.get?_update_other _ _ (Ne.symm hb)).trans e))))
end

/-- what an iterator gives while an error is handled (it stands at x1, told at each step) -/
structure TurnQ (P : Program) (w : World) (K : PySem.W.Frag) (tg : Expr) (J : L2.It) (it : Addr) (tn : Nat → Heap → Prop) : Prop where
  ob : ∀ {i h}, tn i h → ∃ o, h.get? it = some o ∧ ∀ v, o.data ≠ .cell v
  kp : ∀ {i h h'}, tn i h → (∀ o, h.get? it = some o → h'.get? it = some o) → tn i h'
  nx : ∀ {X : Cx}, X.prog = P → X.w = w → X.K = K → ∀ {i : Nat} {pins : List (Addr × Obj)} {s : Shared} {σ : L2.St} {H : Hp} {E : Value → Shared → Prop}, Inv X pins σ H s → FpOk X pins H it → tn i s.heap → J.go i H →
    wpAny (model P w) X.A (pyNext (.ref it)) (fun r s1 => ∃ u, r = some u ∧
      wpAny (model P w) X.A (letOwnedTupleGo tg (.ref it) u) (fun _ s2 => ∃ x H', Inv X pins σ H' s2 ∧ RelV x u ∧ J.yld i H x H' ∧ tn (i + 1) s2.heap ∧ H' it = none) E s1) E s
  dn : ∀ {X : Cx}, X.prog = P → X.w = w → X.K = K → ∀ {i : Nat} {pins : List (Addr × Obj)} {s : Shared} {σ : L2.St} {H : Hp} {E : Value → Shared → Prop}, (∃ x1, HotAt X.A x1 s.heap) → Inv X pins σ H s → FpOk X pins H it → tn i s.heap → J.stop i H →
    wpAny (model P w) X.A (pyNext (.ref it)) (fun r s1 => r = none ∧ Inv X pins σ H s1) E s
  me : ∀ {A : Around} {i : Nat} {s : Shared} {Q : Value → Shared → Prop} {E : Value → Shared → Prop}, tn i s.heap → Q (.ref it) s → wpAny (model P w) A (pyIter (.ref it)) Q E s
theorem turnQ_list {P : Program} {w : World} {K : PySem.W.Frag} {tg : Expr} (a it : Addr) : TurnQ P w K tg (Itl K a) it (fun i h => h.IsListIter it a i) where
  ob := fun ⟨o, e, _, d⟩ => ⟨o, e, fun v z => by rw [d] at z; cases z⟩
  kp := fun st k => st.at fun o e => k o e
  nx := by
    intro X hP hw hK i pins s σ H E I ⟨f0, f1, _, f3, f4, f5⟩ st ⟨xs, x, hq, hx⟩
    subst hP hw hK
    obtain ⟨its, rv, p, _⟩ := I.list hq
    obtain ⟨u, hu, ru⟩ := rv.get hx
    refine wpAny_pyNext_list_item st p.isList (x := u) (by simpa using hu) fun h' st' sb => ⟨u, rfl, ?_⟩
    obtain ⟨o, e, c, d⟩ := id st'
    exact go_of (s := { s with heap := h' }) e c d (by decide) ⟨x, H, I.turned (t' := s.toks) (fun b o hb q => (sb.2 b hb).trans q) f0 f1 f3 f4 f5, ru, ⟨rfl, fun ys hy => by rw [I.list_inj hy hq]; exact hx⟩, st', f0⟩
  dn := by
    intro X hP hw hK i pins s σ H E ⟨x1, hot⟩ I ⟨f0, f1, _, f3, f4, f5⟩ st ⟨xs, hq, hx⟩
    subst hP hw hK
    obtain ⟨its, rv, p, _⟩ := I.list hq
    have hl := rv.length
    exact list_end_hot hot st p.isList (by simp; omega) fun h' eb => ⟨rfl, I.turned (t' := s.toks) eb f0 f1 f3 f4 f5⟩
  me := fun st h => wpAny_pyIter_listiter st h
theorem turnQ_tup {P : Program} {w : World} {K : PySem.W.Frag} {tg : Expr} (a it : Addr) : TurnQ P w K tg (Itt K a) it (fun i h => h.IsTupleIter it a i) where
  ob := fun ⟨o, e, _, d⟩ => ⟨o, e, fun v z => by rw [d] at z; cases z⟩
  kp := fun st k => st.at fun o e => k o e
  nx := by
    intro X hP hw hK i pins s σ H E I ⟨f0, f1, _, f3, f4, f5⟩ st ⟨xs, x, hq, hx⟩
    subst hP hw hK
    obtain ⟨its, rv, p, _⟩ := I.tuple hq
    obtain ⟨u, hu, ru⟩ := rv.get hx
    refine wpAny_pyNext_tuple_item st (show s.heap.IsTuple a its.toArray from p) (x := u) (by simpa using hu) fun h' st' sb => ⟨u, rfl, ?_⟩
    obtain ⟨o, e, c, d⟩ := id st'
    exact go_of (s := { s with heap := h' }) e c d (by decide) ⟨x, H, I.turned (t' := s.toks) (fun b o hb q => (sb.2 b hb).trans q) f0 f1 f3 f4 f5, ru, ⟨rfl, fun ys hy => by rw [I.tuple_inj hy hq]; exact hx⟩, st', f0⟩
  dn := by
    intro X hP hw hK i pins s σ H E ⟨x1, hot⟩ I ⟨f0, f1, _, f3, f4, f5⟩ st ⟨xs, hq, hx⟩
    subst hP hw hK
    obtain ⟨its, rv, p, _⟩ := I.tuple hq
    have hl := rv.length
    exact tuple_end_hot hot st (show s.heap.IsTuple a its.toArray from p) (by simp; omega) fun h' eb => ⟨rfl, I.turned (t' := s.toks) eb f0 f1 f3 f4 f5⟩
  me := fun st h => wpAny_pyIter_tupleiter st h
theorem turnQ_rng {P : Program} {w : World} {K : PySem.W.Frag} {tg : Expr} (it : Addr) (lo : Int) (n : Nat) : TurnQ P w K tg (Itr lo n) it (fun i h => IsRangeIter h it (lo + (i : Nat) * 1) ((n : Int) - (i : Nat)) 1) where
  ob := fun st => ⟨_, st, fun v z => by cases (show Data.fields _ = Data.cell v from z)⟩
  kp := fun st k => k _ st
  nx := by
    intro X hP hw hK i pins s σ H E I ⟨f0, f1, _, f3, f4, f5⟩ st hg
    subst hP hw hK
    have hlt : i < n := hg
    refine wpAny_pyNext_range_item st (by omega) fun h' st' sb => ⟨_, rfl, ?_⟩
    have e1 : lo + ((i : Nat) : Int) * 1 + 1 = lo + ((i + 1 : Nat) : Int) * 1 := by omega
    have e2 : (n : Int) - ((i : Nat) : Int) - 1 = (n : Int) - ((i + 1 : Nat) : Int) := by omega
    rw [e1, e2] at st'
    exact go_of (s := { s with heap := h', toks := s.toks + 1 }) (n := "range_iterator") st' rfl rfl (by decide) ⟨.int (lo + i), H, I.turned (t' := s.toks + 1) (fun b o hb e => (sb.2 b hb).trans e) f0 f1 f3 f4 f5, ⟨s.toks, by rw [Int.mul_one]⟩, ⟨rfl, rfl⟩, st', f0⟩
  dn := by
    intro X hP hw hK i pins s σ H E ⟨x1, hot⟩ I ⟨f0, f1, _, f3, f4, f5⟩ st hg
    subst hP hw hK
    exact pyNext_range_end_hot hot st (by have : n ≤ i := hg; omega) fun h' eb => ⟨rfl, I.turned (t' := s.toks) (fun b o _ e => eb b o e) f0 f1 f3 f4 f5⟩
  me := fun st h => wpAny_pyIter_rangeiter st h
/-- an iterable, evaluated while an error is handled -/
structure PIQ (X : Cx) (tg iter : Expr) (wi : TI) : Prop where
  run : ∀ (pins : List (Addr × Obj)) (s : Shared) (σ : L2.St) (H : Hp) (R : L2.It → Hp → Prop), Inv X pins σ H s → wi σ H R →
    wpAny (model X.prog X.w) X.A (eval iter X.env) (fun v s1 => wpAny (model X.prog X.w) X.A (pyIter v) (fun itv s2 => ∃ (it : Addr) (tn : Nat → Heap → Prop) (J : L2.It) (H' : Hp), itv = .ref it ∧ Inv X pins σ H' s2 ∧ TurnQ X.prog X.w X.K tg J it tn ∧ tn 0 s2.heap ∧ FpOk X pins H' it ∧ R J H') X.xe s1) X.xe s
theorem TurnQ.hot {P : Program} {w : World} {K : PySem.W.Frag} {tg : Expr} {J : L2.It} {it : Addr} {tn : Nat → Heap → Prop} (T : TurnQ P w K tg J it tn) : L2H.TurnH P w K tg J [it] it tn where
  mem := by simp
  obj := fun i h st b hb => by rw [List.mem_singleton.mp hb]; exact T.ob st
  keep := fun i h h' st k => T.kp st (k it (by simp))
  item := fun X h1 h2 h3 _ i pins s σ H E I f st g => wpAny_mono (T.nx h1 h2 h3 I (f it (by simp)) st g) (fun r s1 ⟨u, e, h⟩ => ⟨u, e, wpAny_mono h (fun _ s2 ⟨x, H', a, b, c, d, z⟩ => ⟨x, H', a, b, c, d, fun q hq => by rw [List.mem_singleton.mp hq]; exact z⟩) fun _ _ z => z⟩) fun _ _ z => z
  done := fun X h1 h2 h3 hc i pins s σ H E I f st g => T.dn h1 h2 h3 (hc.at I) I (f it (by simp)) st g
  self := fun A i s Q E st h => T.me st h
theorem PIQ.hot {X : Cx} {tg iter : Expr} {wi : TI} (h : PIQ X tg iter wi) : L2H.PIH X tg iter wi := ⟨fun pins s σ H R I hw => wpAny_mono (h.run pins s σ H R I hw) (fun v s1 h1 => wpAny_mono h1 (fun itv s2 ⟨it, tn, J, H', e, I2, T, st, f, r⟩ => ⟨it, [it], tn, J, H', e, I2, T.hot, st, fun b hb => by rw [List.mem_singleton.mp hb]; exact f, r⟩) fun _ _ z => z) fun _ _ z => z⟩
theorem piqI {X : Cx} {tg e : Expr} {t t' : TI} (h : PIQ X tg e t) (i : ∀ σ H R, t' σ H R → t σ H R) : PIQ X tg e t' := ⟨fun pins s σ H R I q => h.run pins s σ H R I (i σ H R q)⟩
section
variable {X : Cx} {tg l : Expr} {tl : TE}
theorem piq_seq (hl : PE X l tl) : PIQ X tg l (fun σ H R => iList X.K tl σ H R ∨ iTup X.K tl σ H R) := by
  refine ⟨fun pins s σ H R I h => ?_⟩
  rcases h with h | h
  · refine thn (hl.run pins s σ H _ I h) fun v s1 ⟨x, H1, I1, r1, a, e, ⟨xs, hq⟩, q⟩ => ?_
    subst e
    cases r1
    obtain ⟨its, rv, p, _⟩ := I1.list hq
    exact wpAny_pyIter_list p.isList ⟨s1.heap.objs.size, _, _, H1, rfl, I1.kept (t' := s1.toks) fun b o e => Heap.get?_push_of_some _ e, turnQ_list a _, ⟨_, Heap.get?_push_size _ rfl, rfl, rfl⟩, I1.fpOk (Nat.le_refl _) (I1.hok.fresh (Nat.le_refl _)), q⟩
  · refine thn (hl.run pins s σ H _ I h) fun v s1 ⟨x, H1, I1, r1, a, e, ⟨xs, hq⟩, q⟩ => ?_
    subst e
    cases r1
    obtain ⟨its, rv, p, _⟩ := I1.tuple hq
    exact wpAny_pyIter_tuple (show s1.heap.IsTuple a its.toArray from p) ⟨s1.heap.objs.size, _, _, H1, rfl, I1.kept (t' := s1.toks) fun b o e => Heap.get?_push_of_some _ e, turnQ_tup a _, ⟨_, Heap.get?_push_size _ rfl, rfl, rfl⟩, I1.fpOk (Nat.le_refl _) (I1.hok.fresh (Nat.le_refl _)), q⟩
end

/-! ### for -/
section
variable {X : Cx} {W : WK} {f : FS} {body : List Stmt} {pos : Pos}
theorem rd_seqI {fe : FE} {σ : L2.St} {H : Hp} {Rk : L2.It → Hp → Prop} : rdI W (fSeqI fe) σ H Rk → iList X.K (rdE W fe) σ H Rk ∨ iTup X.K (rdE W fe) σ H Rk := by
  rintro ⟨S0, ρ, F, E, p⟩
  unfold fSeqI at p
  cases q : fe ρ with
  | bad => rw [q] at p; exact p.elim
  | exn x => rw [q] at p; exact .inl ⟨S0, ρ, F, E, by rw [q]; exact p⟩
  | ok r =>
    have p0 := p
    rw [q] at p0
    have p0 : PostI W S0 F σ H Rk (seqI r) := p0
    cases hd : r.d with
    | lst ds =>
      refine .inl (postI_bind E p fun r' v H1 fp e s1 n1 v1 E1 p1 => ?_)
      rw [q] at e; cases e
      have z := v1.fz (E.nin n1 _)
      have rp := z.rp
      rw [hd] at rp
      obtain ⟨a, xs, rfl, na, ha, _⟩ := rp
      refine ⟨a, rfl, ⟨xs, SqL.of ha⟩, ?_⟩
      unfold seqI at p1
      rw [hd] at p1
      obtain ⟨a', xs', ea, ha', l⟩ := z.lst hd
      cases ea
      exact p1 _ H1 (Same.refl H1) (jok_list na ha' l)
    | tup ds =>
      refine .inr (postI_bind E p fun r' v H1 fp e s1 n1 v1 E1 p1 => ?_)
      rw [q] at e; cases e
      have z := v1.fz (E.nin n1 _)
      have rp := z.rp
      rw [hd] at rp
      obtain ⟨a, xs, rfl, na, ha, _⟩ := rp
      refine ⟨a, rfl, ⟨xs, SqT.of ha⟩, ?_⟩
      unfold seqI at p1
      rw [hd] at p1
      obtain ⟨a', xs', ea, ha', l⟩ := z.tup hd
      cases ea
      exact p1 _ H1 (Same.refl H1) (jok_tup na ha' l)
    | _ => unfold seqI at p0; rw [hd] at p0; exact p0.elim

theorem i_seqH {tg l : Expr} {fe : FE} (h : PE X l (rdE W fe)) : PIQ X tg l (rdI W (fSeqI fe)) := piqI (piq_seq h) fun _ _ _ => rd_seqI
theorem rd_for {it : FI} {g : FG} {vs : List Nat} {Dn : Ends} {σ : L2.St} {H : Hp} : rdS W (sFor it g vs f) Dn σ H → tFor (rdI W it) (rdG vs g) (rdS W f) Dn σ H := by
  rintro ⟨S0, H0, ρ, F, E, p⟩
  refine ⟨S0, ρ, F, E.ee, ?_⟩
  unfold sFor at p
  cases q : it ρ with
  | bad => rw [q] at p; exact p
  | exn x => rw [q] at p; exact fun H' s => p σ H' F (E.grow s)
  | ok s =>
    rw [q] at p
    intro J H1 sm j
    have E1 := (E.grow sm).frzL (s.e ++ s.c)
    obtain ⟨E2, s2⟩ := E1.rebase
    have p2 := PostS.weak s2 E.old p
    -- what is outside of the walk's own slots is not one's own any more
    have base : ∀ b o, H1 b = some o → (¬ inS S0 F s.e b ∨ ¬ inS S0 F s.c b) → cutH H1 (cutF (s.e ++ s.c) F) b = some o := fun b o h n => cutH_some h fun i z => by
      obtain ⟨z1, z2⟩ := cutF_mem.mp z
      have : i ∉ s.e ∧ i ∉ s.c := by simpa using z1
      rcases n with n | n
      · exact n (.inr ⟨i, this.1, z2⟩)
      · exact n (.inr ⟨i, this.2, z2⟩)
    refine ⟨fun i m σ H => m = s.ds.length - i ∧ i ≤ s.ds.length ∧ ∃ ρ F', ER S0 (cutH H1 (cutF (s.e ++ s.c) F)) ρ σ H F' ∧ PostS W S0 (cutH H1 (cutF (s.e ++ s.c) F)) Dn (forL g vs f ρ (s.ds.drop i)),
      ⟨s.ds.length, by simp, Nat.zero_le _, _, _, E2, p2⟩, ?_⟩
    rintro i m σ3 H3 ⟨rfl, hi', ρ3, F3, E3, p3⟩
    obtain ⟨j1, j2⟩ := j H3 (fun b o h n => E3.same _ _ (base b o h (.inl n))) i
    by_cases hlt : i < s.ds.length
    · obtain ⟨go, yl⟩ := j2 _ (List.getElem?_eq_getElem hlt)
      refine .inr ⟨go, fun σ' H' => ∃ ρ F', ER S0 (cutH H1 (cutF (s.e ++ s.c) F)) ρ σ' H' F' ∧ PostS W S0 (cutH H1 (cutF (s.e ++ s.c) F)) Dn (forL g vs f ρ (s.ds.drop (i + 1))), fun σ' H' h => ⟨s.ds.length - (i + 1), by omega, rfl, hlt, h⟩, fun x H4 y => ?_⟩
      obtain ⟨s4, rx⟩ := yl x H4 y
      have E4 := E3.grow s4
      have D4 : ER S0 (cutH H1 (cutF (s.e ++ s.c) F)) (wipeE ρ3 vs) σ3 H4 (cutF vs F3) := ⟨E4.ee.drop vs, fun k a h => E4.new k a (cutF_mem.mp h).2, E4.same, E4.old⟩
      rw [List.drop_eq_getElem_cons hlt] at p3
      unfold forL at p3
      have D3 := E3.ee.drop vs
      have rx' : Rp (inS S0 (cutF vs F3) []) H4 s.ds[i] x := rx _ (fun b o h n => by
        have hb := base b o h (.inr n)
        refine ⟨E3.same _ _ hb, fun z => ?_⟩
        rcases z with z | ⟨k, _, z⟩
        · exact n (.inl z)
        · have := E3.new k b (cutF_mem.mp z).2
          rw [hb] at this; cases this) fun b z => let ⟨o, h, _⟩ := D3.inTr z; ⟨o, h⟩
      cases ht : g s.ds[i] (wipeE ρ3 vs) with
      | none => rw [ht] at p3; exact p3.elim
      | some ρ4 =>
        rw [ht] at p3
        simp only at p3
        refine ⟨S0, _, _, s.ds[i], D4.ee, fun k hk => by simp [cutF, hk], rx', ρ4, ht, fun σ4 E5 _ _ => ?_⟩
        refine ⟨S0, _, ρ4, _, ⟨E5, D4.new, D4.same, D4.old⟩, ?_⟩
        cases q2 : f ρ4 with
        | nx ρ' => rw [q2] at p3; exact fun σ H F E => ⟨ρ', F, E, p3⟩
        | ct ρ' => rw [q2] at p3; exact fun σ H F E => ⟨ρ', F, E, p3⟩
        | bk ρ' => rw [q2] at p3; exact p3
        | rt d k => rw [q2] at p3; exact p3
        | ex x ρ' => rw [q2] at p3; exact p3
        | bad => rw [q2] at p3; exact p3
    · have e : i = s.ds.length := by omega
      subst e
      rw [List.drop_length] at p3
      exact .inl ⟨j1 (Nat.le_refl _), p3 σ3 H3 F3 E3⟩
theorem s_forH {tg iter : Expr} {it : FI} {g : FG} {vs : List Nat} (hp : PassesOwn (model X.prog X.w) X.A X.env X.xe) (hc : L2H.HotC X) (hi : PIQ X tg iter (rdI W it)) (hg : PG X tg (rdG vs g)) (hb : PSs X body (rdS W f))
    (hs : ∀ x, foldedSetIterable iter X.env x = pure x := by intro _; rfl) : PS X (.For tg iter body [] pos) (rdS W (sFor it g vs f)) :=
  psI (L2H.ps_forH hp hc hi.hot hg hb hs) fun _ _ _ => rd_for
end
section
variable {X : Cx} {W : WK} {tg : Expr}
theorem rangeQ {pins : List (Addr × Obj)} {σ : L2.St} {H : Hp} {s : Shared} {R : L2.It → Hp → Prop} {E : Value → Shared → Prop} {lo hi : Int} {t u v : Tok} {tk : Nat} (I : Inv X pins σ H s) (hb : -(2 ^ 62) ≤ lo ∧ lo < 2 ^ 62 ∧ -(2 ^ 62) ≤ hi ∧ hi < 2 ^ 62) (q : R (Itr lo (hi - lo).toNat) H) :
    wpAny (model X.prog X.w) X.A (pyIter (.ref s.heap.objs.size)) (fun itv s2 => ∃ (it : Addr) (tn : Nat → Heap → Prop) (J : L2.It) (H' : Hp), itv = .ref it ∧ Inv X pins σ H' s2 ∧ TurnQ X.prog X.w X.K tg J it tn ∧ tn 0 s2.heap ∧ FpOk X pins H' it ∧ R J H') E { s with heap := s.heap.push { cls := .type "range", data := .fields #[.int lo t, .int hi u, .int 1 v] }, toks := tk } := by
  have I1 : Inv X pins σ H { s with heap := s.heap.push { cls := .type "range", data := .fields #[.int lo t, .int hi u, .int 1 v] }, toks := tk } := I.kept fun b o e => Heap.get?_push_of_some _ e
  refine wpAny_pyIter_range (IsRange.new ..) (small_one hb.1 hb.2.1 hb.2.2.1 hb.2.2.2) ⟨_, _, _, H, rfl, I1.kept (t' := tk) fun b o e => Heap.get?_push_of_some _ e, turnQ_rng _ lo (hi - lo).toNat, ?_, I1.fpOk (Nat.le_refl _) (I1.hok.fresh (Nat.le_refl _)), q⟩
  have e1 : lo + ((0 : Nat) : Int) * 1 = lo := by simp
  have e2 : (((hi - lo).toNat : Nat) : Int) - ((0 : Nat) : Int) = Builtin.Range.rangeSize lo hi 1 := by rw [rangeSize_one]; split <;> omega
  show IsRangeIter _ _ (lo + ((0 : Nat) : Int) * 1) ((((hi - lo).toNat : Nat) : Int) - ((0 : Nat) : Int)) 1
  rw [e1, e2]
  exact Heap.get?_push_size _ rfl
theorem i_rng1H {a : Expr} {fa : FA} {p pos : Pos} (hg : Gl X "range") (hm : X.mg "range" = none) (ha : PA X [a] (rdA W fa)) (hs : starEach [a] X.env = [(false, eval a X.env)] := by rfl) : PIQ X tg (.Call (.Name "range" p) [a] [] pos) (rdI W (fRng1 fa)) := by
  refine ⟨fun pins s σ H R I ⟨S0, ρ, F, E, p⟩ => Call_ (ld_blt I hg hm boot_range (callWith_type1 (thn (ha.run pos pins s σ H (fun vs H1 => ∃ j : Int, vs = [.int j] ∧ -(2 ^ 62) ≤ j ∧ j < 2 ^ 62 ∧ R (Itr 0 j.toNat) H1) I (postI_args E p fun rs vs H1 fp s1 n1 l1 E1 p1 => ?_)) fun us s1 ⟨vs, H1, I1, r1, j, e, q1, q2, q⟩ => ?_) hs rfl))⟩
  · have fz := l1.fz fun e => E.nin n1 e
    match rs, fz with
    | [r], ⟨v, t, e, z, et⟩ =>
      rw [show t = [] from et] at e
      subst e
      have p1 : PostI W S0 F σ H1 R (rng1 r) := p1
      unfold rng1 at p1
      split at p1
      · rename_i j e
        split at p1
        · rename_i hb
          exact ⟨j, by rw [z.int e], hb.1, hb.2, p1 _ H1 (Same.refl H1) (jok_rng 0 _)⟩
        · exact p1.elim
      · exact p1.elim
    | [], _ => exact p1.elim
    | _ :: _ :: _, _ => exact p1.elim
  · subst e
    cases r1 with
    | cons r rr =>
      cases rr
      obtain ⟨t, rfl⟩ := r
      exact call_range_1 (rangeQ I1 ⟨by omega, by omega, q1, q2⟩ (by simpa using q))
end
/-! ### list comprehensions -/
section
variable {X : Cx}
theorem hot_of {pins : List (Addr × Obj)} {σ : L2.St} {H : Hp} {s : Shared} {p : Addr × Obj} {vs : Array Value} (I : Inv X pins σ H s) (hp : p ∈ X.pn) (h : X.A.handled = some (.ref p.1)) (e : p.2.data = .fields vs) (e2 : vs[2]? = some .none) : HotAt X.A p.1 s.heap :=
  ⟨h, p.2, vs, (I.pin p (List.mem_append_left _ hp)).1, e, e2⟩
/-- what a block's states keep of the handled error -/
theorem blk_hot {s3 : Shared} {H3 : Hp} {scope : Scope} {ce : PySem.Env} {it x1 : Addr} {pins : List (Addr × Obj)} {σ : L2.St} {H' : Hp} {s' : Shared} (hot : HotAt X.A x1 s3.heap) (h0 : H3 x1 = none) (hf : x1 ∉ frs X.stack) (hne : x1 ≠ it) (I : Inv (X.blk s3 H3 scope ce [it]) pins σ H' s') : HotAt X.A x1 s'.heap :=
  let ⟨hh, o, vs, g, d, c⟩ := hot
  ⟨hh, o, vs, I.base.keep x1 o g h0 hf (fun z => hne (List.mem_singleton.mp z)), d, c⟩
theorem stk_not {pins : List (Addr × Obj)} {σ : L2.St} {H : Hp} {s : Shared} {p : Addr × Obj} (I : Inv X pins σ H s) (hp : p ∈ X.pn) : p.1 ∉ frs X.stack := fun z => by
  obtain ⟨_, _, n1, n2, _⟩ := I.pin p (List.mem_append_left _ hp)
  rcases List.mem_cons.mp (I.stkSub _ z) with e | e
  · exact n1 e
  · exact n2 e
theorem pe_lcH {elt tg iter : Expr} {ifs : List Expr} {scope : Scope} {own : List (Str × Nat)} {pos : Pos} {wi : TI} {g : TG} {tt : TT} {te : TE} (hh : L2H.HotC X) (hN : X.N.Nodup) (hi : PIQ X tg iter wi) (ok : BlkOk X.N X.env.scope scope own)
    (hg : ∀ (s : Shared) (H : Hp) (C : Addr) (cl : List (Str × Addr)) (fp : List Addr), PG (X.blk s H scope (compEnvC scope cl C X.env) fp) tg g) (ht : ∀ (s : Shared) (H : Hp) (C : Addr) (cl : List (Str × Addr)) (fp : List Addr), PTs (X.blk s H scope (compEnvC scope cl C X.env) fp) ifs tt)
    (he : ∀ (s : Shared) (H : Hp) (C : Addr) (cl : List (Str × Addr)) (fp : List Addr), PE (X.blk s H scope (compEnvC scope cl C X.env) fp) elt te) (hs : ∀ x, foldedSetIterable iter X.env x = pure x := by intro _; rfl) :
    PE X (.ListComp elt [⟨tg, iter, ifs, 0⟩] scope pos) (tLc wi g tt te (own.map (·.2))) := by
  obtain ⟨p, ⟨ph, pv, pe1, pe2⟩, hp⟩ := hh
  refine ⟨fun pins s σ H Q I h => ?_⟩
  rw [eval_ListComp]
  have clo : ∀ y ∈ scope.names, y.2 = .free → ∃ c, X.env.cells.lookup y.1 = some c := fun y hy e => (ok.free y hy e).elim (fun k => I.ok.has _ (.inl k)) fun k => I.ok.has _ (.inr k)
  refine wpAny_comprehension_free rfl hs (closure_ok clo) ok.kind (fun y hy e => by rw [ok.uniq y hy, e]) (thn (hi.run pins s σ H _ I h) fun xv s1 hx => thn hx fun itv s2 ⟨it, tn, J, H2, ei, I2, T, t0, fo, q⟩ => ?_)
  subst ei
  refine wpAny_newObj_type (newEnv_comp ?_) (by show 0 ≤ sizeLine; decide)
  -- the new list and the block's first state
  obtain ⟨W, ⟨m0, w0⟩, turn⟩ := q s2.heap.objs.size (I2.hok.fresh (Nat.le_refl _))
  have I3 : Inv X pins σ (upd H2 s2.heap.objs.size (.lst [])) { s2 with heap := s2.heap.push { cls := .type "list", data := .seq ([] : List Value).toArray } } :=
    I2.laid (t' := s2.toks) (fun b o e => Heap.get?_push_of_some _ e) (Nat.le_refl _) ⟨Nat.zero_le _, [], 0, .nil, Heap.get?_push_size _ rfl⟩
  obtain ⟨io, ie, idc⟩ := T.ob t0
  have ilt : it < s2.heap.objs.size := Heap.lt_size ie
  have sz3 : ({ s2 with heap := s2.heap.push { cls := .type "list", data := .seq ([] : List Value).toArray } } : Shared).heap.objs.size = s2.heap.objs.size + 1 := Heap.size_push ..
  have t3 : tn 0 ({ s2 with heap := s2.heap.push { cls := .type "list", data := .seq ([] : List Value).toArray } } : Shared).heap := T.kp t0 fun o e => Heap.get?_push_of_some _ e
  have hotS := hot_of I3 hp ph pe1 pe2
  have h0 := (I3.pin p (List.mem_append_left _ hp)).2.1
  have hne : p.1 ≠ it := fo.2.2.2.2.2 p (List.mem_append_left _ hp)
  have hnf := stk_not I hp
  generalize ({ s2 with heap := s2.heap.push { cls := .type "list", data := .seq ([] : List Value).toArray } } : Shared) = s3 at I3 sz3 t3 hotS ⊢
  have fo3 : FpOk X pins (upd H2 s2.heap.objs.size (.lst [])) it := ⟨by rw [upd_ne (Nat.ne_of_lt ilt)]; exact fo.1, fo.2⟩
  have I4 := block_start (fp := [it]) I3 ok hN fun b hb => by
    rw [List.mem_singleton.mp hb]
    exact ⟨fo3, by rw [sz3]; exact Nat.lt_succ_of_lt ilt⟩
  have G := hg s3 (upd H2 s2.heap.objs.size (.lst [])) s3.heap.objs.size (cellsFrom (s3.heap.objs.size + 1) scope.names (cloFrom X.env.cells scope.names [])) [it]
  have TT := ht s3 (upd H2 s2.heap.objs.size (.lst [])) s3.heap.objs.size (cellsFrom (s3.heap.objs.size + 1) scope.names (cloFrom X.env.cells scope.names [])) [it]
  have EE := he s3 (upd H2 s2.heap.objs.size (.lst [])) s3.heap.objs.size (cellsFrom (s3.heap.objs.size + 1) scope.names (cloFrom X.env.cells scope.names [])) [it]
  show codeAny _ _ (.compStart (.ListComp elt [⟨tg, iter, ifs, 0⟩] scope pos) 0 (.ref it) (.ref s2.heap.objs.size) (compEnvC scope (cellsFrom (s3.heap.objs.size + 1) scope.names (cloFrom X.env.cells scope.names [])) s3.heap.objs.size X.env)) _ { s3 with heap := pushCells (s3.heap.push { cls := .type "dict", data := .dict #[] }) scope.names }
  have t4 : tn 0 ({ s3 with heap := pushCells (s3.heap.push { cls := .type "dict", data := .dict #[] }) scope.names } : Shared).heap := T.kp t3 fun o e => pushCells_keeps _ _ _ _ (Heap.get?_push_of_some _ e)
  have eL : (compEnvC scope (cellsFrom (s3.heap.objs.size + 1) scope.names (cloFrom X.env.cells scope.names [])) s3.heap.objs.size X.env).locals = s3.heap.objs.size := rfl
  generalize compEnvC scope (cellsFrom (s3.heap.objs.size + 1) scope.names (cloFrom X.env.cells scope.names [])) s3.heap.objs.size X.env = ce at I4 G TT EE eL ⊢
  generalize ({ s3 with heap := pushCells (s3.heap.push { cls := .type "dict", data := .dict #[] }) scope.names } : Shared) = s4 at I4 t4 ⊢
  generalize hH3 : upd H2 s2.heap.objs.size (.lst []) = H3 at I3 I4 G TT EE w0 fo3 h0
  have st : ∀ {σ' : L2.St} {H' : Hp} {s' : Shared}, Inv (X.blk s3 H3 scope ce [it]) [] σ' H' s' → H' it = none → FpOk (X.blk s3 H3 scope ce [it]) [] H' it := fun I' n =>
    ⟨n, (I'.ok.exf it List.mem_cons_self).1, I'.ok.exfs it List.mem_cons_self, .inl List.mem_cons_self, fun x c e => (I'.ok.exf it List.mem_cons_self).2 x c e, fun _ z => nomatch z⟩
  refine (fun loop => codeAny_compStart_list loop (T.me t4 loop)) (compLoop_any (fun n s' => ∃ i H', Inv (X.blk s3 H3 scope ce [it]) [] (wipe σ (own.map (·.2))) H' s' ∧ tn i s'.heap ∧ H' it = none ∧ W i n H') ?_ m0 ⟨0, H3, I4, t4, fo3.1, w0⟩)
  rintro n s5 ⟨i, H5, I5, t5, n5, w5⟩
  rcases turn i n H5 w5 with ⟨stop, qq⟩ | ⟨go, Nx, hNx, step⟩
  · refine thnF (T.dn (X := X.blk s3 H3 scope ce [it]) rfl rfl rfl (E := fun _ _ => False) ⟨p.1, blk_hot hotS h0 hnf hne I5⟩ I5 (st I5 n5) t5 stop) fun r s6 ⟨hr, I6⟩ => ?_
    subst hr
    have I7 : Inv X pins σ H5 s6 := I3.call' (ch := [it]) I6.os I6.base I6.hok I6.bare fun b hb => by
      rw [List.mem_singleton.mp hb]
      exact ⟨fo3.2.2.2.1, fo3.2.1, fo3.2.2.2.2.1, fo3.2.2.2.2.2⟩
    obtain ⟨m, hn, _⟩ := I6.loc
    have hn : s6.heap.Ns ce.locals m := hn
    have nC : H5 ce.locals = none := I6.free
    rw [eL] at hn nC
    obtain ⟨f0, f1, f2, f3, f4, f5⟩ := I3.fpOk (H' := H5) (Nat.le_refl _) nC
    exact ⟨m, hn, fun h'' sb => ⟨.ref s2.heap.objs.size, H5, I7.turned (t' := s6.toks) (fun b o hb e => (sb.2 b hb).trans e) f0 f1 f3 f4 f5, rfl, qq⟩⟩
  · refine thnF (T.nx (X := X.blk s3 H3 scope ce [it]) rfl rfl rfl (E := fun _ _ => False) I5 (st I5 n5) t5 go) fun r s6 ⟨u, hr, h6⟩ => ?_
    subst hr
    refine thnF h6 fun _ s7 ⟨x, H7, I7, r7, y7, t7, n7⟩ => ?_
    obtain ⟨jo, je, jd⟩ := T.ob t7
    have I7p := I7.pinned (fp := [it]) (fun b hb => by rw [List.mem_singleton.mp hb]; exact st I7 n7) (fun b hb => by rw [List.mem_singleton.mp hb]; exact T.ob t7)
    refine thnF (G.run _ s7 _ H7 x u _ I7p r7 (step x H7 y7)) fun _ s8 ⟨σ8, H8, I8, hw8, q8⟩ => ?_
    refine thnF (TT.run _ s8 σ8 H8 _ I8 q8) fun b s9 ⟨H9, I9, q9⟩ => ?_
    have fin : ∀ {s' : Shared} {H' : Hp}, Inv (X.blk s3 H3 scope ce [it]) ([] ++ pinsAt [it] s7.heap) σ8 H' s' → Nx H' → ∃ m, m < n ∧ ∃ i H', Inv (X.blk s3 H3 scope ce [it]) [] (wipe σ (own.map (·.2))) H' s' ∧ tn i s'.heap ∧ H' it = none ∧ W i m H' := fun {s' H'} I' nx => by
      obtain ⟨m', hm, w'⟩ := hNx H' nx
      have pin := I'.pin (it, jo) (List.mem_append_right _ (List.mem_append_right _ (mem_pinsAt List.mem_cons_self je)))
      refine ⟨m', hm, i + 1, H', (I'.unpinned (pins := [])).weak (by rw [← hw8, wipe_length]) (fun j v e => ?_), T.kp t7 fun o e => ?_, pin.2.1, w'⟩
      · rw [← hw8] at e; exact (wipe_some e).1
      · rw [je] at e; cases e; exact pin.1
    cases b with
    | false => exact fin I9 q9
    | true => exact thnF (EE.run _ s9 σ8 H9 _ I9 q9) fun z s10 ⟨yv, H10, I10, r10, acc, hD, hz, nx⟩ => app_ok (X := X.blk s3 H3 scope ce [it]) I10 hD hz r10 fun s11 I11 => fin I11 nx
theorem e_compH {W : WK} {dep : Nat} {elt tg iter : Expr} {ifs : List Expr} {scope : Scope} {own : List (Str × Nat)} {pos : Pos} {it : FI} {g : FG} {tt : FT} {te : FE} (hh : L2H.HotC X) (hN : X.N.Nodup) (hi : PIQ X tg iter (rdI W it)) (ok : BlkOk X.N X.env.scope scope own)
    (hg : ∀ (s : Shared) (H : Hp) (C : Addr) (cl : List (Str × Addr)) (fp : List Addr), PG (X.blk s H scope (compEnvC scope cl C X.env) fp) tg (rdG (own.map (·.2)) g)) (ht : ∀ (s : Shared) (H : Hp) (C : Addr) (cl : List (Str × Addr)) (fp : List Addr), PTs (X.blk s H scope (compEnvC scope cl C X.env) fp) ifs (rdT W0 tt))
    (he : ∀ (s : Shared) (H : Hp) (C : Addr) (cl : List (Str × Addr)) (fp : List Addr), PE (X.blk s H scope (compEnvC scope cl C X.env) fp) elt (rdE W0 te)) (hs : ∀ x, foldedSetIterable iter X.env x = pure x := by intro _; rfl) :
    PE X (.ListComp elt [⟨tg, iter, ifs, 0⟩] scope pos) (rdE W (fComp dep it g tt te (own.map (·.2)))) :=
  peI (pe_lcH hh hN hi ok hg ht he hs) fun _ _ _ h => rd_lc h
end
end PyL

set_option maxHeartbeats 2000000
/-! typed: a try's body row by row, calls that may raise -/
namespace PyL
open PySem PySem.Spec L2
open Enc (enc)
set_option autoImplicit false
noncomputable def tryO (io : Option Nat) (m : Str → Option Bool) (g : SU) : Out → Out
  | .ex x ρ' => match m x.cls with
    | some true => theOut (suiteO io g x ρ')
    | some false => .ex x ρ'
    | none => .bad
  | o => o
def TryP (io : Option Nat) (m : Str → Option Bool) (g : SU) (rest : FS) (P : Out → Prop) : Out → Prop := fun o => P ((tryO io m g o).then rest)
section
variable {α β γ τ σ : Type} [Enc α] [Enc τ] {S S' S2 : Spec} {f rest : FS} {io : Option Nat} {m : Str → Option Bool} {g : SU} {x : Exn} {kk : Option Nat} {P : Out → Prop}
theorem ap_try {ρ : Ev} : sTry f io m g ρ = tryO io m g (f ρ) := by
  unfold sTry tryO
  cases f ρ <;> rfl
theorem sp_tryQ (h : SpS S f (TryP io m g rest P)) : SpS S (sSeq (sTry f io m g) rest) P := fun ρ z => by
  rw [ap_seq, ap_try]; exact h ρ z
theorem sp_tryQl (h : SpS S f (TryP io m g sNil P)) : SpS S (sTry f io m g) P := fun ρ z => by
  have := sp_tryQ h ρ z
  rw [ap_seq, then_nil] at this
  exact this
theorem tq_nx (h : SpS S' rest P) : ∀ ρ', Env ρ' S' → TryP io m g rest P (.nx ρ') := fun ρ' z => h ρ' z
theorem tq_nxl (h : ∀ ρ', Env ρ' S' → P (.nx ρ')) : ∀ ρ', Env ρ' S' → TryP io m g sNil P (.nx ρ') := fun ρ' z => h ρ' z
theorem tq_ret {v : τ} (h : SpS S f (Prt v kk)) (k : ∀ o, Prt v kk o → P o) : SpS S f (TryP io m g rest P) := fun ρ z => by
  obtain ⟨n, e, hn⟩ := h ρ z
  rw [e]
  exact k _ ⟨n, rfl, hn⟩
theorem tq_exc {n : Nat} {Sx : Addr → Option Addr → Spec} (h : SpS S f (Pex x S')) (hm : m x.cls = some true) (hn : S'.length = n) (hS : ∀ a d, putS io (excD a d x) (frzS (List.range n) S') = Sx a d) (hs : SuS io x Sx (fun a d => g a d x.cls) rest P) : SpS S f (TryP io m g rest P) := fun ρ z => by
  have := sp_tryX h hm hn hS hs ρ z
  rw [ap_seq, ap_try] at this
  exact this
theorem tq_pass (h : SpS S f (Pex x S')) (hm : m x.cls = some false) (k : ∀ o, (∃ ρ', o = .ex x ρ') → P o) : SpS S f (TryP io m g rest P) := fun ρ z => by
  obtain ⟨ρ', e, z'⟩ := h ρ z
  rw [e]
  show P ((tryO io m g (.ex x ρ')).then rest)
  unfold tryO
  simp only [hm]
  exact k _ ⟨ρ', rfl⟩
/-! calls that may raise -/
def zBx (o : Option (Ex α)) (k : α → Option (Ex β)) : Option (Ex β) := match o with
  | none => none
  | some (.exn x) => some (.exn x)
  | some (.ok v) => k v
def zBl {α β σ : Type} (o : Option (Ex α)) (k : α → Option (Ctl σ (Ex β))) : Option (Ctl σ (Ex β)) := match o with
  | none => none
  | some (.exn x) => some (.ret (.exn x))
  | some (.ok v) => k v
def zTr {α β : Type} (o : Option (Ex α)) (s : Exn → Option β) (k : α → Option β) : Option β := match o with
  | none => none
  | some (.exn x) => s x
  | some (.ok v) => k v
def zCat {β : Type} (b : Option Bool) (s p : Option β) : Option β := match b with
  | none => none
  | some true => s
  | some false => p
theorem zbx {o : Option (Ex α)} {k : α → Option (Ex β)} {r : Ex β} (h : zBx o k = some r) : (∃ x, o = some (.exn x) ∧ r = .exn x) ∨ ∃ v, o = some (.ok v) ∧ k v = some r := by
  unfold zBx at h
  split at h
  · cases h
  · cases h; exact .inl ⟨_, rfl, rfl⟩
  · exact .inr ⟨_, rfl, h⟩
theorem zbl {α β σ : Type} {o : Option (Ex α)} {k : α → Option (Ctl σ (Ex β))} {r : Ctl σ (Ex β)} (h : zBl o k = some r) : (∃ x, o = some (.exn x) ∧ r = .ret (.exn x)) ∨ ∃ v, o = some (.ok v) ∧ k v = some r := by
  unfold zBl at h
  split at h
  · cases h
  · cases h; exact .inl ⟨_, rfl, rfl⟩
  · exact .inr ⟨_, rfl, h⟩
theorem ztr {α β : Type} {o : Option (Ex α)} {s : Exn → Option β} {k : α → Option β} {r : β} (h : zTr o s k = some r) : (∃ x, o = some (.exn x) ∧ s x = some r) ∨ ∃ v, o = some (.ok v) ∧ k v = some r := by
  unfold zTr at h
  split at h
  · cases h
  · exact .inl ⟨_, rfl, h⟩
  · exact .inr ⟨_, rfl, h⟩
theorem zcat {β : Type} {b : Option Bool} {s p : Option β} {r : β} (h : zCat b s p = some r) : (b = some true ∧ s = some r) ∨ (b = some false ∧ p = some r) := by
  unfold zCat at h
  split at h
  · cases h
  · exact .inl ⟨rfl, h⟩
  · exact .inr ⟨rfl, h⟩
theorem drx_v {o : Res (D × Nat)} {v : τ} (h : DRX o (.ok v) kk) : DR o (enc v) kk := h
theorem drx_x {o : Res (D × Nat)} {x : Exn} (h : DRX (τ := τ) o (.exn x) kk) : o = .exn x := h
end
end PyL

set_option maxHeartbeats 2000000
/-! a def that is asked about the error that is handled -/
namespace PyL
open PySem PySem.Spec L2 PyProof.Rows
set_option autoImplicit false
section
variable {P : Program} {w : World} {K : PySem.W.Frag} {mg : Str → Option Value} {base : Heap}
/-- such a def's run, the pinned error given -/
theorem runE {CX : CXT} {k : Nat} {f : Addr} {nm1 ql : Str} {pr1 : Arguments} {bd : List Stmt} {sc : Scope} {v1 v2 v3 v4 v5 v6 v7 : Value} {o1 o2 : Option Addr} {sl : Array (Option Value)} {N ps : List Str}
    (lk : K.lookup f = some ⟨v7, o2, .func (PySem.W.fnOf nm1 ql pr1 bd sc v1 v2 v3 v4 o1 v5 v6), sl⟩) (hcd : PySem.W.codeIn K v5 ql = true) (S : FnScope N ps sc)
    {A : Around} {out : List PySem.Env} {s : Shared} {H : Hp} {ar : Args} {us : List Value} {vs : List V} {Q : VK} {E : XK} {p : Addr × Obj}
    (hr : L2H.RoomH (k + 1) A) (hpin : L2H.PinOk out H s p) (e0 : Env0 P w K mg base A out s H) (hb : BindsTo s (PySem.W.fnOf nm1 ql pr1 bd sc v1 v2 v3 v4 o1 v5 v6) ar (ps.zip us)) (r : Vals vs us) (hl : vs.length = ps.length)
    {t : TS} (ht : PSs (L2H.cxH CX P w K mg base N ql sc f v5 A out s H E p) bd t) (hq : t { nx := fun _ H' => Q .non H', rt := Q } (L2.start N vs) H) :
    codeAny (model P w) A (.call (.ref f) ar) (CR CX out P w H s Q E) s := by
  have k1 : K.In s.heap := e0.mod.kin.keeps fun b o e => (e0.bs b o e).1
  have k2 : s.heap.NoLimit := e0.mod.nolimit.keeps fun b o e => (e0.bs b o e).1
  have k3 : ∀ y ∈ ps.zip us, sc.names.lookup y.1 = some .local ∨ (sc.names.lookup y.1 = some .cell ∧ ((cellsFrom (s.heap.objs.size + 1) sc.names []).lookup y.1).isSome = true) := fun y hy => by
    rcases S.par y.1 (List.of_mem_zip hy).1 with z | z
    · exact .inl z
    · exact .inr ⟨z, PySem.W.cellsFrom_some _ _ _ (.inl z)⟩
  refine codeAny_call_function hr.depth (k1 _ _ lk) rfl S.co S.gen rfl
    (PySem.W.codeRec_of k1 hcd) (hb _ _ _ _ ?_)
  refine wpAny_newFunctionEnv_cells S.kind k3 fun en he s1 x => ?_
  cases he
  refine ⟨k2.keeps x.toInCall.keep,
    codeAny_func ?_⟩
  have I := L2H.inv_startH (CX := CX) (E := E) (f := f) (cd := v5) S hpin e0 hl r x
  refine wpAny_mono
    (ht.run [] s1 (L2.start N vs) H _ I hq)
    (fun fl s' z => ?_) fun _ _ z => z
  cases fl with
  | ret u =>
    obtain ⟨v, σ', H', J, rv, q⟩ := z
    exact ⟨v, H', J.os, J.bare, J.base,
      J.hok, rv, q⟩
  | next =>
    obtain ⟨σ', H', J, q⟩ := z
    exact ⟨V.non, H', J.os, J.bare, J.base,
      J.hok, rfl, q⟩
  | brk => exact (show False from let ⟨_, _, y⟩ := z; y.2).elim
  | cont => exact (show False from let ⟨_, _, y⟩ := z; y.2).elim
/-- isinstance(y, T) wherever the error is pinned -/
theorem call_isP {X : Cx} {a C : Addr} {oe : Obj} {d : Option Addr} {fs : List Str} (hpn : (a, oe) ∈ X.pn) (T : ErrK X.K fs C) (hz : L2N.Zn (.ref C) d oe) (hf : ∃ vs, oe.data = .fields vs) : CallR X (.builtin "isinstance") (rIsX X.K C a d) := by
  intro pins s σ H xs us Q I r h
  obtain ⟨c, cv, b, rfl, hcv, e, hd, q⟩ := h
  cases r with
  | cons rx rr =>
    cases rr with
    | cons rt rr =>
      cases rr
      cases rx
      have ec := hcv _ rt
      subst ec
      obtain ⟨hget, _⟩ := I.pin (a, oe) (List.mem_append.mpr (.inl hpn))
      obtain ⟨vs, hv⟩ := hf
      obtain ⟨od, J⟩ : ∃ od, PySem.W.InstAt s.heap a oe C od := by
        obtain ⟨oc, odd, oda, osl⟩ := oe
        obtain ⟨h1, h2, _⟩ := hz
        dsimp only at h1 h2 hv
        subst h1 h2 hv
        cases odd with
        | none => exact ⟨none, hget, rfl, rfl, trivial⟩
        | some p =>
          obtain ⟨l, hl⟩ := hd p rfl
          have hx : ObjOk X.prog X.w H s.heap p (.xd l) := I.hok p _ hl
          obtain ⟨mA, ⟨o, es, ep, ho, _⟩, _⟩ := hx
          exact ⟨some o, hget, rfl, rfl, ho⟩
      exact PySem.W.kia_one (PySem.W.kitx_exc T.cl T.xf.ga T.xf.gg T.xf.exC T.ha T.hn T.ht T.hm) I.kIn J e (fun z => nomatch z) fun tk => ⟨.bl b, H, I.kept (t' := tk) fun _ _ z => z, rfl, q⟩
theorem e_isP {X : Cx} {W : WK} {a C : Addr} {oe : Obj} {d : Option Addr} {nm : Str} {fs : List Str} {i : Nat} {y : Str} {pos p' : Pos} {it : Str → Option Bool} {T' : Str} {c : V} {cv : Value} {p pt : Pos} (hpn : (a, oe) ∈ X.pn) (T : ErrK X.K fs C) (hz : L2N.Zn (.ref C) d oe) (hv : ∃ vs, oe.data = .fields vs) (hg : Gl X "isinstance") (hm : X.mg "isinstance" = none) (he : PE X (.Name y p') (tVar i)) (ht : PE X (.Name T' pt) (tC c)) (hc : ∀ u, RelV c u → u = cv)
    (hit : ∀ b, it nm = some b → PySem.W.kitOne X.K (.ref C) cv = some b)
    (h1 : starEach [.Name y p', .Name T' pt] X.env = (false, eval (.Name y p') X.env) :: starEach [.Name T' pt] X.env := by rfl) (h2 : starEach [.Name T' pt] X.env = (false, eval (.Name T' pt) X.env) :: starEach [] X.env := by rfl)
    (hpl : (backTo pos (starEach [.Name T' pt] X.env)).any (·.1) = false := by rfl) : PE X (.Call (.Name "isinstance" p) [.Name y p', .Name T' pt] [] pos) (rdE W (fIsX it a d nm i)) :=
  peI (pe_callB (call_isP hpn T hz hv) hg hm PyProof.Rows.boot_isinstance (pa_cons he (pa_cons ht pa_nil h2) h1) (by decide) (by decide) h1 hpl) fun σ H Q ⟨S0, ρ, F, E, q⟩ => by
    unfold fIsX at q
    split at q
    · rename_i a' d' nm' ns ds k hr
      obtain ⟨v, hσ, ow⟩ := E.rep i _ _ hr
      obtain ⟨rfl, l, xs, x1, x2, x3⟩ := ow.exc
      split at q
      · rename_i hcc
        obtain ⟨rfl, rfl, rfl⟩ := hcc
        split at q
        · rename_i b hb
          refine ⟨_, hσ, c, cv, b, rfl, hc, hit b hb, fun p hp => ?_, okB_post q⟩
          subst hp
          exact ⟨l, x1.2⟩
        · exact q.elim
      · exact q.elim
    · exact q.elim
/-- the call of a def that asks about the error alone -/
theorem e_callE {X : Cx} {W : WK} {a : Addr} {oe : Obj} {d : Option Addr} {nm : Str} {C : Addr} {pn : List (Addr × Obj)} {i k : Nat} {y y0 g x : Str} {pos p p' : Pos} {st : Stmt} {it : Str → Option Bool} {bd : FS}
    (hz : L2N.Zn (.ref C) d oe) (hv : ∃ vs, oe.data = .fields vs) (T : TopG X.K X.mg g x st) (S : FnScope [y0] [y0] (defScope st)) (hg : Gl (X.suite a ((a, oe) :: pn)) g)
    (hb : ∀ (kV doc pm : Value) (an : Option Addr) (cdv ct : Value) (us : List Value), us.length = [y0].length → bindArgs (PySem.W.fnOf x x (defArgs st) (defBody st) (defScope st) .none kV doc pm an cdv ct) ⟨us, []⟩ = pure ([y0].zip us))
    (hbody : ∀ (f : Addr) (cdv : Value) (A : Around) (outer : List PySem.Env) (s : Shared) (H : Hp) (E : XK), PSs (L2H.cxH CX0 X.prog X.w X.K X.mg X.base [y0] x (defScope st) f cdv A outer s H E (a, oe)).nox (defBody st) (rdS W0 bd))
    (hbd : ∀ ns ds b, it nm = some b → bd [some (.exc a d nm ns ds, 0)] = .rt (.bl b) 0)
    (hr : L2H.RoomH (k + 1) (X.suite a ((a, oe) :: pn)).A) (he : PE (X.suite a ((a, oe) :: pn)) (.Name y p') (tVar i))
    (hdb : (g == ("__debug__" : Str)) = false := by decide) (h1 : starEach [.Name y p'] (X.suite a ((a, oe) :: pn)).env = (false, eval (.Name y p') (X.suite a ((a, oe) :: pn)).env) :: starEach [] (X.suite a ((a, oe) :: pn)).env := by rfl) (hpl : (backTo pos (starEach [] (X.suite a ((a, oe) :: pn)).env)).any (·.1) = false := by rfl) :
    PE (X.suite a ((a, oe) :: pn)) (.Call (.Name g p) [.Name y p'] [] pos) (rdE W (fIsX it a d nm i)) := by
  obtain ⟨f, fd, F, hm⟩ := T
  have hbi := F.binds hb
  have hkp := F.kp
  obtain ⟨oc, od, kV, doc, pm, an, cdv, ct, osl, rfl, lk, hcd⟩ := F.ex
  refine ⟨fun pins s σ H Q I h => ?_⟩
  obtain ⟨S0, ρ, FF, E, q⟩ := h
  unfold fIsX at q
  split at q
  · rename_i a' d' nm' ns ds kk hρ
    obtain ⟨v, hσ, ow⟩ := E.rep i _ _ hρ
    have rex := ow.exc
    obtain ⟨rfl, _⟩ := rex
    split at q
    · rename_i hcc
      obtain ⟨rfl, rfl, rfl⟩ := hcc
      split at q
      · rename_i b hib
        have qq := okB_post q
        refine wpAny_Call_Name_kw (ld_glob I hg hm ?_ hdb)
        refine PySem.W.callWith_K (h₀ := X.base) I.ok.mod.kin hkp (thn ((pa_cons he pa_nil h1).run pos pins s σ H (fun vs H1 => vs = [.ref a'] ∧ H1 = H) I ⟨_, hσ, rfl, rfl⟩) fun us s1 ⟨vs, H1, I1, r, e1, e2⟩ => ⟨I1.kIn, ?_⟩) h1 hpl
        subst e1 e2
        have hl : us.length = [y0].length := by rw [← r.length]; rfl
        have b1 := hbi s1 us I1.kIn (by rw [List.append_nil]; exact hl)
        rw [List.append_nil] at b1
        have P1 := I1.pin (a', oe) (List.mem_append_left _ List.mem_cons_self)
        have hpin : L2H.PinOk (X.suite a' ((a', oe) :: pn)).stack H1 s1 (a', oe) := ⟨P1.1, P1.2.1, fun hm => (List.mem_cons.mp (I1.stkSub a' hm)).elim P1.2.2.1 P1.2.2.2.1, P1.2.2.2.2⟩
        have rp : RpL (inS S0 FF []) H1 [.exc a' d' nm' ns ds] [.ref a'] := ⟨_, _, rfl, ow.exc, rfl⟩
        have hot : L2H.HotC (X.suite a' ((a', oe) :: pn)) := hot_suite hz hv
        have ee := start_ee (N := [y0]) (n := 1) rp rfl (Nat.le_refl 1) (fun b z => E.inTr z)
        refine wpAny_call (codeAny_mono (runE (CX := CX0) (k := k) (p := (a', oe)) (Q := Q) (E := fun _ _ _ => False) lk hcd S hr hpin I1.env0 b1 r rfl (hbody f cdv _ _ s1 H1 _).nox ⟨_, _, _, _, ee, ?_⟩) fun r s' hq => ?_)
        · show PostS W0 _ _ _ (bd [some (.exc a' d' nm' ns ds, 0)])
          rw [hbd ns ds b hib]
          intro v H' fp sm n o
          obtain ⟨rfl, _⟩ := o
          exact okB_post' q sm
        · cases r with
          | error e => exact hq.elim
          | ok fl =>
            cases fl with
            | ret u => exact I1.after hq
            | next => exact False.elim hq
            | brk => exact False.elim hq
            | cont => exact False.elim hq
      · exact q.elim
    · exact q.elim
  · exact q.elim
theorem ask2 {a : Addr} {d : Option Addr} {nm : Str} {itA itB : Str → Option Bool} {ns : List Str} {ds : List D} {b : Bool} (h : ((itA nm).bind fun x => (itB nm).bind fun y => some (x && y)) = some b) : sRet (fAndV (fIsX itA a d nm 0) (fIsX itB a d nm 0)) [some (.exc a d nm ns ds, 0)] = .rt (.bl b) 0 := by
  cases hA : itA nm with
  | none => rw [hA] at h; cases h
  | some x =>
    cases hB : itB nm with
    | none => rw [hA, hB] at h; cases h
    | some y =>
      rw [hA, hB] at h
      have h : some (x && y) = some b := h
      cases h
      have e1 : fIsX itA a d nm 0 [some (.exc a d nm ns ds, 0)] = okB x := by
        show (if a = a ∧ d = d ∧ nm = nm then (match itA nm with | some b => okB b | none => .bad) else .bad) = _
        rw [if_pos ⟨rfl, rfl, rfl⟩, hA]
      have e2 : fIsX itB a d nm 0 [some (.exc a d nm ns ds, 0)] = okB y := by
        show (if a = a ∧ d = d ∧ nm = nm then (match itB nm with | some b => okB b | none => .bad) else .bad) = _
        rw [if_pos ⟨rfl, rfl, rfl⟩, hB]
      have e3 : fAndV (fIsX itA a d nm 0) (fIsX itB a d nm 0) [some (.exc a d nm ns ds, 0)] = okB (x && y) := by
        unfold fAndV
        rw [e1]
        show (if x = true then _ else _) = _
        cases x
        · rfl
        · exact e2
      unfold sRet stE
      rw [e3]; rfl
end
end PyL

namespace Lw
open PySem PySem.Spec PyL L2
set_option autoImplicit false
noncomputable section
def topS (i : Nat) : Stmt := PySem.Challenge.pw_linktrees_k00_fractions.main.body.getD i (.Pass ⟨0, 0, 0, 0⟩)
def kf : Str → List Str := fun s => (List.lookup s ([("ZeroDivisor", [])] : List (Str × List Str))).getD []
def m_LinkError : Str → Option Bool := fun s => List.lookup s ([("ZeroDivisor", true)] : List (Str × Bool))
def m_ZeroDivisor : Str → Option Bool := fun s => List.lookup s ([("ZeroDivisor", true)] : List (Str × Bool))
def m_ValueError : Str → Option Bool := fun s => List.lookup s ([("ZeroDivisor", true)] : List (Str × Bool))
def q__law_is_zero_divisor : Str → Option Bool := fun s => (m_ZeroDivisor s).bind fun x => (m_ValueError s).bind fun y => some (x && y)
abbrev s_fraction : Stmt := topS 5
def t_fraction_1 : FS :=
 sSeq (sSet 2 (fB gGcd (fCons (fVar 0) (fCons (fVar 1) (fNil)))))
    (sSeq (sIf (fTest (fBin gLt (fVar 1) (fC (.int 0)))) (sSet 2 (fUn gNeg (fVar 2))) (sNil))
    (sRet (fTup (fCons (fBin gDiv (fVar 0) (fVar 2)) (fCons (fBin gDiv (fVar 1) (fVar 2)) (fNil))))))
def b_fraction : FS :=
 sSeq (sIf (fTest (fBin gEq (fVar 1) (fC (.int 0)))) (sRaise "ZeroDivisor" [] fNil) (sNil))
    (t_fraction_1)
def d_fraction : DS := dsem 3 2 b_fraction
abbrev s_order_of : Stmt := topS 10
def b_order_of : FS :=
 sSeq (sSet 2 (fBin gMul (fBin gIx (fVar 0) (fC (.int 0))) (fBin gIx (fVar 1) (fC (.int 1)))))
    (sSeq (sSet 3 (fBin gMul (fBin gIx (fVar 1) (fC (.int 0))) (fBin gIx (fVar 0) (fC (.int 1)))))
    (sSeq (sIf (fTest (fBin gLt (fVar 2) (fVar 3))) (sRet (fUn gNeg (fC (.int 1)))) (sNil))
    (sRet (fB gInt (fCons (fBin gGt (fVar 2) (fVar 3)) (fNil))))))
def d_order_of : DS := dsem 4 2 b_order_of
abbrev s__law_draws : Stmt := topS 12
def l__law_draws_1 : FS :=
 sIf (fTest (fBin gGt (fVar 4) (fC (.int 0)))) (sSeq (sApp 2 (fBin gMod (fVar 4) (fC (.int 1000003))))
    (sSet 4 (fBin gDiv (fVar 4) (fC (.int 1000003))))) (sNil)
def l__law_draws_2 : FS :=
 sSeq (sSet 6 (fBin gMod (fBin gAdd (fBin gAdd (fBin gAdd (fBin gMul (fVar 6) (fC (.int 69621))) (fBin gDiv (fVar 6) (fC (.int 65536)))) (fBin gMul (fC (.int 13)) (fVar 5))) (fC (.int 5))) (fC (.int 2147483629))))
    (sApp 2 (fBin gMod (fBin gDiv (fVar 6) (fC (.int 8))) (fC (.int 1000003))))
def l__law_draws_3 : FS :=
 sSeq (sSet 4 (fB gAbs (fCons (fB gInt (fCons (fVar 3) (fNil))) (fNil))))
    (sIf (fTest (fBin gGe (fVar 4) (fBin gPow (fC (.int 10)) (fC (.int 18))))) (sFor (fRng1 (fCons (fC (.int 60)) (fNil))) (gN 5) [5] (l__law_draws_1)) (sSeq (sSet 6 (fBin gMod (fBin gAdd (fBin gAdd (fBin gMul (fVar 4) (fC (.int 48271))) (fBin gMul (fC (.int 7)) (fB gLen (fCons (fVar 2) (fNil))))) (fC (.int 11))) (fC (.int 2147483647))))
    (sFor (fRng1 (fCons (fC (.int 4)) (fNil))) (gN 5) [5] (l__law_draws_2))))
def l__law_draws_4 : FS :=
 sIf (fTest (fBin gLt (fB gLen (fCons (fVar 2) (fNil))) (fVar 1))) (sSeq (sSet 7 (fC (.int 0)))
    (sSeq (sIf (fTest (fBin gGt (fB gLen (fCons (fVar 2) (fNil))) (fC (.int 0)))) (sSet 7 (fBin gIx (fVar 2) (fBin gMod (fVar 5) (fB gLen (fCons (fVar 2) (fNil)))))) (sNil))
    (sApp 2 (fBin gMod (fBin gAdd (fBin gAdd (fBin gMul (fVar 7) (fC (.int 16807))) (fBin gMul (fC (.int 31)) (fB gLen (fCons (fVar 2) (fNil))))) (fC (.int 17))) (fC (.int 1000003)))))) (sNil)
def t__law_draws_1 : FS :=
 sRet (fSl (fVar 2) (fNoP) (fPart (fVar 1)))
def t__law_draws_2 : FS :=
 sSeq (sFor (fRng1 (fCons (fVar 1) (fNil))) (gN 5) [5] (l__law_draws_4))
    (t__law_draws_1)
noncomputable def b__law_draws (K : PySem.W.Frag) : FS :=
 sSeq (sSet 2 (fLstE 0))
    (sSeq (sFor (fSeqI (fSlK K (fVar 0) (fNoP) (fPart (fC (.int 63))))) (gN 3) [3] (l__law_draws_3))
    (t__law_draws_2))
noncomputable def d__law_draws (K : PySem.W.Frag) : DS := dsem 8 2 (b__law_draws K)
abbrev s__law_is_number : Stmt := topS 13
def b__law_is_number : FS :=
 sRet (fAndV (fIsi "int" (fVar 0)) (fNotV (fIsi "bool" (fVar 0))))
def d__law_is_number : DS := dsem 1 1 b__law_is_number
abbrev s__law_gcd : Stmt := topS 14
def l__law_gcd_1 : FS :=
 sSeq (sSet 2 (fBin gMod (fVar 0) (fVar 1)))
    (sSeq (sSet 0 (fVar 1))
    (sSet 1 (fVar 2)))
def t__law_gcd_1 : FS :=
 sRetV 0
def b__law_gcd : FS :=
 sSeq (sSet 0 (fB gAbs (fCons (fVar 0) (fNil))))
    (sSeq (sSet 1 (fB gAbs (fCons (fVar 1) (fNil))))
    (sSeq (sWhile 1000000000 (fTest (fBin gNe (fVar 1) (fC (.int 0)))) (l__law_gcd_1))
    (t__law_gcd_1)))
def d__law_gcd : DS := dsem 3 2 b__law_gcd
abbrev s__law_number : Stmt := topS 17
def t__law_number_1 : FS :=
 sSeq (sIf (fOrT (fTest (fBin gEq (fVar 2) (fC (.int 1)))) (fTest (fBin gEq (fVar 2) (fC (.int 2))))) (sRet (fBin gSub (fBin gIx (fVar 0) (fBin gAdd (fVar 1) (fC (.int 1)))) (fC (.int 500000)))) (sNil))
    (sSeq (sIf (fOrT (fTest (fBin gEq (fVar 2) (fC (.int 3)))) (fTest (fBin gEq (fVar 2) (fC (.int 4))))) (sRet (fBin gMul (fBin gSub (fBin gIx (fVar 0) (fBin gAdd (fVar 1) (fC (.int 1)))) (fC (.int 500000))) (fBin gAdd (fBin gPow (fC (.int 10)) (fC (.int 18))) (fBin gIx (fVar 0) (fBin gAdd (fVar 1) (fC (.int 2))))))) (sNil))
    (sRet (fBin gSub (fBin gMod (fBin gIx (fVar 0) (fBin gAdd (fVar 1) (fC (.int 1)))) (fC (.int 41))) (fC (.int 20)))))
def b__law_number : FS :=
 sSeq (sSet 2 (fBin gMod (fBin gIx (fVar 0) (fVar 1)) (fC (.int 9))))
    (sSeq (sIf (fTest (fBin gEq (fVar 2) (fC (.int 0)))) (sRet (fC (.int 0))) (sNil))
    (t__law_number_1))
def d__law_number : DS := dsem 3 2 b__law_number
abbrev s__law_is_zero_divisor : Stmt := topS 18
def b__law_is_zero_divisor : FS :=
 sBad
def d__law_is_zero_divisor : DS := dsem 1 1 b__law_is_zero_divisor
abbrev s_plus : Stmt := topS 6
def b_plus : FS :=
 sRet (fCall 2 d_fraction (fCons (fBin gAdd (fBin gMul (fBin gIx (fVar 0) (fC (.int 0))) (fBin gIx (fVar 1) (fC (.int 1)))) (fBin gMul (fBin gIx (fVar 1) (fC (.int 0))) (fBin gIx (fVar 0) (fC (.int 1))))) (fCons (fBin gMul (fBin gIx (fVar 0) (fC (.int 1))) (fBin gIx (fVar 1) (fC (.int 1)))) (fNil))))
def d_plus : DS := dsem 2 2 b_plus
abbrev s_minus : Stmt := topS 7
def b_minus : FS :=
 sRet (fCall 2 d_fraction (fCons (fBin gSub (fBin gMul (fBin gIx (fVar 0) (fC (.int 0))) (fBin gIx (fVar 1) (fC (.int 1)))) (fBin gMul (fBin gIx (fVar 1) (fC (.int 0))) (fBin gIx (fVar 0) (fC (.int 1))))) (fCons (fBin gMul (fBin gIx (fVar 0) (fC (.int 1))) (fBin gIx (fVar 1) (fC (.int 1)))) (fNil))))
def d_minus : DS := dsem 2 2 b_minus
abbrev s_times : Stmt := topS 8
def b_times : FS :=
 sRet (fCall 2 d_fraction (fCons (fBin gMul (fBin gIx (fVar 0) (fC (.int 0))) (fBin gIx (fVar 1) (fC (.int 0)))) (fCons (fBin gMul (fBin gIx (fVar 0) (fC (.int 1))) (fBin gIx (fVar 1) (fC (.int 1)))) (fNil))))
def d_times : DS := dsem 2 2 b_times
abbrev s_over : Stmt := topS 9
def b_over : FS :=
 sRet (fCallX 2 d_fraction (fCons (fBin gMul (fBin gIx (fVar 0) (fC (.int 0))) (fBin gIx (fVar 1) (fC (.int 1)))) (fCons (fBin gMul (fBin gIx (fVar 0) (fC (.int 1))) (fBin gIx (fVar 1) (fC (.int 0)))) (fNil))))
def d_over : DS := dsem 2 2 b_over
abbrev s__law_lowest : Stmt := topS 15
def b__law_lowest : FS :=
 sSeq (sSet 2 (fCall 2 d__law_gcd (fCons (fVar 0) (fCons (fVar 1) (fNil)))))
    (sSeq (sIf (fTest (fBin gLt (fVar 1) (fC (.int 0)))) (sSet 2 (fUn gNeg (fVar 2))) (sNil))
    (sRet (fTup (fCons (fBin gDiv (fVar 0) (fVar 2)) (fCons (fBin gDiv (fVar 1) (fVar 2)) (fNil))))))
def d__law_lowest : DS := dsem 3 2 b__law_lowest
abbrev s__law_is_pair : Stmt := topS 16
def b__law_is_pair : FS :=
 sSeq (sIf (fOrT (fNotT (fTest (fIsi "tuple" (fVar 0)))) (fTest (fBin gNe (fB gLen (fCons (fVar 0) (fNil))) (fC (.int 2))))) (sRet (fC (.bl false))) (sNil))
    (sSeq (sIf (fOrT (fNotT (fTest (fCall 1 d__law_is_number (fCons (fBin gIx (fVar 0) (fC (.int 0))) (fNil))))) (fNotT (fTest (fCall 1 d__law_is_number (fCons (fBin gIx (fVar 0) (fC (.int 1))) (fNil)))))) (sRet (fC (.bl false))) (sNil))
    (sRet (fAndV (fBin gEq (fBin gIx (fVar 0) (fC (.int 0))) (fBin gIx (fVar 1) (fC (.int 0)))) (fBin gEq (fBin gIx (fVar 0) (fC (.int 1))) (fBin gIx (fVar 1) (fC (.int 1)))))))
def d__law_is_pair : DS := dsem 2 2 b__law_is_pair
abbrev s__law_quotient_is_right : Stmt := topS 19
def b__law_quotient_is_right : FS :=
 sSeq (sTry (sSet 2 (fCallX 2 d_fraction (fCons (fVar 0) (fCons (fVar 1) (fNil))))) (some 3) m_LinkError (fun a d nm => sRetS (fAndV (fBin gEq (fVar 1) (fC (.int 0))) (fIsX q__law_is_zero_divisor a d nm 3))))
    (sRet (fAndV (fBin gNe (fVar 1) (fC (.int 0))) (fCall 2 d__law_is_pair (fCons (fVar 2) (fCons (fCall 2 d__law_lowest (fCons (fVar 0) (fCons (fVar 1) (fNil)))) (fNil))))))
def d__law_quotient_is_right : DS := dsem 4 2 b__law_quotient_is_right
abbrev s__law_over_is_right : Stmt := topS 20
def b__law_over_is_right : FS :=
 sSeq (sTry (sSet 2 (fCallX 2 d_over (fCons (fVar 0) (fCons (fVar 1) (fNil))))) (some 3) m_LinkError (fun a d nm => sRetS (fAndV (fBin gEq (fBin gIx (fVar 1) (fC (.int 0))) (fC (.int 0))) (fIsX q__law_is_zero_divisor a d nm 3))))
    (sSeq (sIf (fTest (fBin gEq (fBin gIx (fVar 1) (fC (.int 0))) (fC (.int 0)))) (sRet (fC (.bl false))) (sNil))
    (sRet (fCall 2 d__law_is_pair (fCons (fVar 2) (fCons (fCall 2 d__law_lowest (fCons (fBin gMul (fBin gIx (fVar 0) (fC (.int 0))) (fBin gIx (fVar 1) (fC (.int 1)))) (fCons (fBin gMul (fBin gIx (fVar 0) (fC (.int 1))) (fBin gIx (fVar 1) (fC (.int 0)))) (fNil)))) (fNil))))))
def d__law_over_is_right : DS := dsem 4 2 b__law_over_is_right
abbrev s__law_share : Stmt := topS 22
def b__law_share : FS :=
 sSeq (sIf (fTest (fBin gEq (fVar 1) (fC (.int 0)))) (sRet (fCall 2 d__law_lowest (fCons (fVar 0) (fCons (fC (.int 1)) (fNil))))) (sNil))
    (sRet (fCall 2 d__law_lowest (fCons (fVar 0) (fCons (fVar 1) (fNil)))))
def d__law_share : DS := dsem 2 2 b__law_share
abbrev s__law_seconds : Stmt := topS 23
def b__law_seconds : FS :=
 sSeq (sSet 3 (fBin gMul (fBin gIx (fVar 1) (fC (.int 1))) (fBin gAdd (fC (.int 1)) (fBin gMod (fBin gIx (fVar 0) (fC (.int 13))) (fC (.int 30))))))
    (sSeq (sSet 4 (fCall 2 d__law_lowest (fCons (fBin gAdd (fBin gMul (fBin gIx (fVar 1) (fC (.int 0))) (fVar 3)) (fC (.int 1))) (fCons (fBin gMul (fBin gIx (fVar 1) (fC (.int 1))) (fVar 3)) (fNil)))))
    (sSeq (sSet 5 (fCall 2 d__law_lowest (fCons (fBin gSub (fBin gMul (fBin gIx (fVar 1) (fC (.int 0))) (fVar 3)) (fC (.int 1))) (fCons (fBin gMul (fBin gIx (fVar 1) (fC (.int 1))) (fVar 3)) (fNil)))))
    (sRet (fLst (fCons (fVar 2) (fCons (fVar 1) (fCons (fTup (fCons (fUn gNeg (fBin gIx (fVar 1) (fC (.int 0)))) (fCons (fBin gIx (fVar 1) (fC (.int 1))) (fNil)))) (fCons (fTup (fCons (fC (.int 0)) (fCons (fC (.int 1)) (fNil)))) (fCons (fTup (fCons (fC (.int 1)) (fCons (fC (.int 1)) (fNil)))) (fCons (fVar 4) (fCons (fVar 5) (fCons (fTup (fCons (fBin gAdd (fBin gIx (fVar 1) (fC (.int 0))) (fBin gIx (fVar 1) (fC (.int 1)))) (fCons (fBin gIx (fVar 1) (fC (.int 1))) (fNil)))) (fNil)))))))))))))
def d__law_seconds : DS := dsem 6 3 b__law_seconds
abbrev s__law_deeds_are_right : Stmt := topS 21
def t__law_deeds_are_right_1 : FS :=
 sSeq (sSet 5 (fCall 2 d_order_of (fCons (fVar 0) (fCons (fVar 1) (fNil)))))
    (sSeq (sIf (fOrT (fNotT (fTest (fCall 1 d__law_is_number (fCons (fVar 5) (fNil))))) (fTest (fBin gNe (fVar 5) (fBin gSub (fB gInt (fCons (fBin gGt (fVar 3) (fVar 4)) (fNil))) (fB gInt (fCons (fBin gLt (fVar 3) (fVar 4)) (fNil))))))) (sRet (fC (.bl false))) (sNil))
    (sRet (fCall 2 d__law_over_is_right (fCons (fVar 0) (fCons (fVar 1) (fNil))))))
def t__law_deeds_are_right_2 : FS :=
 sSeq (sIf (fNotT (fTest (fCall 2 d__law_is_pair (fCons (fCall 2 d_times (fCons (fVar 0) (fCons (fVar 1) (fNil)))) (fCons (fCall 2 d__law_lowest (fCons (fBin gMul (fBin gIx (fVar 0) (fC (.int 0))) (fBin gIx (fVar 1) (fC (.int 0)))) (fCons (fVar 2) (fNil)))) (fNil)))))) (sRet (fC (.bl false))) (sNil))
    (t__law_deeds_are_right_1)
def t__law_deeds_are_right_3 : FS :=
 sSeq (sIf (fNotT (fTest (fCall 2 d__law_is_pair (fCons (fCall 2 d_minus (fCons (fVar 0) (fCons (fVar 1) (fNil)))) (fCons (fCall 2 d__law_lowest (fCons (fBin gSub (fVar 3) (fVar 4)) (fCons (fVar 2) (fNil)))) (fNil)))))) (sRet (fC (.bl false))) (sNil))
    (t__law_deeds_are_right_2)
def b__law_deeds_are_right : FS :=
 sSeq (sSet 2 (fBin gMul (fBin gIx (fVar 0) (fC (.int 1))) (fBin gIx (fVar 1) (fC (.int 1)))))
    (sSeq (sSet 3 (fBin gMul (fBin gIx (fVar 0) (fC (.int 0))) (fBin gIx (fVar 1) (fC (.int 1)))))
    (sSeq (sSet 4 (fBin gMul (fBin gIx (fVar 1) (fC (.int 0))) (fBin gIx (fVar 0) (fC (.int 1)))))
    (sSeq (sIf (fNotT (fTest (fCall 2 d__law_is_pair (fCons (fCall 2 d_plus (fCons (fVar 0) (fCons (fVar 1) (fNil)))) (fCons (fCall 2 d__law_lowest (fCons (fBin gAdd (fVar 3) (fVar 4)) (fCons (fVar 2) (fNil)))) (fNil)))))) (sRet (fC (.bl false))) (sNil))
    (t__law_deeds_are_right_3))))
def d__law_deeds_are_right : DS := dsem 6 2 b__law_deeds_are_right
abbrev s_law : Stmt := topS 24
def l_law_1 : FS :=
 sIf (fNotT (fTest (fCall 2 d__law_quotient_is_right (fCons (fVar 8) (fCons (fVar 9) (fNil)))))) (sRet (fC (.bl false))) (sNil)
def l_law_2 : FS :=
 sIf (fOrT (fNotT (fTest (fCall 2 d__law_deeds_are_right (fCons (fVar 10) (fCons (fVar 11) (fNil)))))) (fNotT (fTest (fCall 2 d__law_deeds_are_right (fCons (fVar 11) (fCons (fVar 10) (fNil))))))) (sRet (fC (.bl false))) (sNil)
def t_law_1 : FS :=
 sRet (fCall 2 d__law_quotient_is_right (fCons (fVar 2) (fCons (fVar 3) (fNil))))
def t_law_2 : FS :=
 sSeq (sSet 10 (fCall 2 d__law_share (fCons (fVar 2) (fCons (fVar 3) (fNil)))))
    (sSeq (sFor (fSeqI (fCall 3 d__law_seconds (fCons (fVar 1) (fCons (fVar 10) (fCons (fCall 2 d__law_share (fCons (fVar 4) (fCons (fVar 5) (fNil)))) (fNil)))))) (gN 11) [11] (l_law_2))
    (t_law_1))
def t_law_3 : FS :=
 sSeq (sSet 7 (fLst (fCons (fTup (fCons (fVar 2) (fCons (fVar 3) (fNil)))) (fCons (fTup (fCons (fVar 4) (fCons (fVar 5) (fNil)))) (fCons (fTup (fCons (fBin gMul (fVar 2) (fVar 6)) (fCons (fBin gMul (fVar 3) (fVar 6)) (fNil)))) (fCons (fTup (fCons (fVar 2) (fCons (fC (.int 0)) (fNil)))) (fCons (fTup (fCons (fC (.int 0)) (fCons (fVar 3) (fNil)))) (fCons (fTup (fCons (fUn gNeg (fVar 2)) (fCons (fVar 3) (fNil)))) (fCons (fTup (fCons (fVar 2) (fCons (fUn gNeg (fVar 3)) (fNil)))) (fCons (fTup (fCons (fUn gNeg (fVar 2)) (fCons (fUn gNeg (fVar 3)) (fNil)))) (fCons (fTup (fCons (fC (.int 0)) (fCons (fC (.int 0)) (fNil)))) (fCons (fTup (fCons (fVar 3) (fCons (fVar 2) (fNil)))) (fCons (fTup (fCons (fVar 2) (fCons (fVar 3) (fNil)))) (fNil))))))))))))))
    (sSeq (sFor (fSeqI (fVar 7)) (gT [8, 9]) [8, 9] (l_law_1))
    (t_law_2))
noncomputable def b_law (K : PySem.W.Frag) : FS :=
 sSeq (sSet 1 (fCall 2 (d__law_draws K) (fCons (fVar 0) (fCons (fC (.int 20)) (fNil)))))
    (sSeq (sSet 2 (fCall 2 d__law_number (fCons (fVar 1) (fCons (fC (.int 0)) (fNil)))))
    (sSeq (sSet 3 (fCall 2 d__law_number (fCons (fVar 1) (fCons (fC (.int 3)) (fNil)))))
    (sSeq (sSet 4 (fCall 2 d__law_number (fCons (fVar 1) (fCons (fC (.int 6)) (fNil)))))
    (sSeq (sSet 5 (fCall 2 d__law_number (fCons (fVar 1) (fCons (fC (.int 9)) (fNil)))))
    (sSeq (sSet 6 (fBin gSub (fBin gMod (fBin gIx (fVar 1) (fC (.int 12))) (fC (.int 13))) (fC (.int 6))))
    (sSeq (sIf (fTest (fBin gEq (fVar 6) (fC (.int 0)))) (sSet 6 (fC (.int 7))) (sNil))
    (t_law_3)))))))
noncomputable def d_law (K : PySem.W.Frag) : DS := dsem 12 1 (b_law K)
end
abbrev si_ZeroDivisor : Stmt := clsInit (topS 3)
theorem ini_ZeroDivisor : IniT [] (defArgs si_ZeroDivisor) (defBody si_ZeroDivisor) (defScope si_ZeroDivisor) where
  bind := fun _ _ _ _ _ _ _ _ us hl => match us, hl with | [_], _ => rfl
  kind := rfl
  co := rfl
  gen := rfl
  cell := by decide +kernel
  k1 := rfl
  k2 := rfl
  k3 := rfl
  kf := fun f hf => by cases hf
  inter := fun _ _ _ _ _ => rfl
  hps := rfl
  hpa := ⟨_, _, rfl⟩
  txt := ⟨_, _, _, _, _, _, _, _, _, rfl, .inl ⟨rfl, rfl⟩, fun _ _ _ _ _ => ⟨_, rfl⟩⟩

end Lw
namespace Lw
open PySem PySem.Spec PyL L2 PyL.Enc
set_option autoImplicit false
def t__law_number (draws_0 : (List Int)) (k_0 : Int) : Option Int :=
 ((atI draws_0 k_0).bind fun v1 =>
 ((zMod v1 (9 : Int)).bind fun choice_1 =>
 (if (decide (choice_1 = (0 : Int))) = true then some (0 : Int)
 else (if ((decide (choice_1 = (1 : Int))) || (decide (choice_1 = (2 : Int)))) = true then ((atI draws_0 (k_0 + (1 : Int))).bind fun v3 =>
 some (v3 - (500000 : Int)))
 else (if ((decide (choice_1 = (3 : Int))) || (decide (choice_1 = (4 : Int)))) = true then ((atI draws_0 (k_0 + (1 : Int))).bind fun v4 =>
 ((zPow (10 : Int) (18 : Int)).bind fun v5 =>
 ((atI draws_0 (k_0 + (2 : Int))).bind fun v6 =>
 ((zMul (v4 - (500000 : Int)) (v5 + v6)).bind fun v7 =>
 some v7))))
 else ((atI draws_0 (k_0 + (1 : Int))).bind fun v8 =>
 ((zMod v8 (41 : Int)).bind fun v9 =>
 some (v9 - (20 : Int)))))))))
theorem x__law_number {draws_0 : (List Int)} {k_0 : Int} {r : Int} (h : t__law_number draws_0 k_0 = some r) : DR (d__law_number [enc draws_0, enc k_0]) (enc r) none := by
  unfold t__law_number at h
  refine dr_fn (S0 := [some (enc draws_0, (some 0)), some (enc k_0, (some 0)), none]) rfl rfl ?_
  obtain ⟨v1, hv1, h⟩ := bnd h
  obtain ⟨choice_1, hchoice_1, h⟩ := bnd h
  refine sp_seq (S' := [some (enc draws_0, (some 0)), some (enc k_0, (some 0)), some (enc choice_1, (some 0))]) (sp_set (re_mod (re_ixF (by decide) (re_var0 rfl) (re_varS rfl) hv1) (re_c (x := (9 : Int)) rfl) hchoice_1) rfl) ?_
  rcases tif h with ⟨hb, h⟩ | ⟨hb, h⟩
  · refine sp_ifs_t (rt_test (re_eq (by decide) (re_varS rfl) (re_c (x := (0 : Int)) rfl))) hb ?_
    have h := Option.some.inj h; subst h
    exact (sp_seqR (prt_w (sp_ret (re_c (x := (0 : Int)) rfl))))
  · refine sp_ifs_f (rt_test (re_eq (by decide) (re_varS rfl) (re_c (x := (0 : Int)) rfl))) hb ?_
    refine sp_nil ?_
    rcases tif h with ⟨hb, h⟩ | ⟨hb, h⟩
    · refine sp_ifs_t (rt_or (rt_test (re_eq (by decide) (re_varS rfl) (re_c (x := (1 : Int)) rfl))) (rt_test (re_eq (by decide) (re_varS rfl) (re_c (x := (2 : Int)) rfl)))) hb ?_
      obtain ⟨v3, hv3, h⟩ := bnd h
      have h := Option.some.inj h; subst h
      exact (sp_seqR (prt_w (sp_ret (re_sub (re_ixF (by decide) (re_var0 rfl) (re_add (re_varS rfl) (re_c (x := (1 : Int)) rfl)) hv3) (re_c (x := (500000 : Int)) rfl)))))
    · refine sp_ifs_f (rt_or (rt_test (re_eq (by decide) (re_varS rfl) (re_c (x := (1 : Int)) rfl))) (rt_test (re_eq (by decide) (re_varS rfl) (re_c (x := (2 : Int)) rfl)))) hb ?_
      refine sp_nil ?_
      rcases tif h with ⟨hb, h⟩ | ⟨hb, h⟩
      · refine sp_ifs_t (rt_or (rt_test (re_eq (by decide) (re_varS rfl) (re_c (x := (3 : Int)) rfl))) (rt_test (re_eq (by decide) (re_varS rfl) (re_c (x := (4 : Int)) rfl)))) hb ?_
        obtain ⟨v4, hv4, h⟩ := bnd h
        obtain ⟨v5, hv5, h⟩ := bnd h
        obtain ⟨v6, hv6, h⟩ := bnd h
        obtain ⟨v7, hv7, h⟩ := bnd h
        have h := Option.some.inj h; subst h
        exact (sp_seqR (prt_w (sp_ret (re_mul (re_sub (re_ixF (by decide) (re_var0 rfl) (re_add (re_varS rfl) (re_c (x := (1 : Int)) rfl)) hv4) (re_c (x := (500000 : Int)) rfl)) (re_add (re_pow (re_c (x := (10 : Int)) rfl) (re_c (x := (18 : Int)) rfl) hv5) (re_ixF (by decide) (re_var0 rfl) (re_add (re_varS rfl) (re_c (x := (2 : Int)) rfl)) hv6)) hv7))))
      · refine sp_ifs_f (rt_or (rt_test (re_eq (by decide) (re_varS rfl) (re_c (x := (3 : Int)) rfl))) (rt_test (re_eq (by decide) (re_varS rfl) (re_c (x := (4 : Int)) rfl)))) hb ?_
        refine sp_nil ?_
        obtain ⟨v8, hv8, h⟩ := bnd h
        obtain ⟨v9, hv9, h⟩ := bnd h
        have h := Option.some.inj h; subst h
        exact (prt_w (sp_ret (re_sub (re_mod (re_ixF (by decide) (re_var0 rfl) (re_add (re_varS rfl) (re_c (x := (1 : Int)) rfl)) hv8) (re_c (x := (41 : Int)) rfl) hv9) (re_c (x := (20 : Int)) rfl))))
def t_fraction (numerator_0 : Int) (denominator_0 : Int) : Option (Ex (T2 Int Int)) :=
 (if (decide (denominator_0 = (0 : Int))) = true then some (.exn ⟨"ZeroDivisor", List.zip [] []⟩)
 else ((some ((Nat.gcd numerator_0.natAbs denominator_0.natAbs : Nat) : Int)).bind fun part_1 =>
 ((if (decide (denominator_0 < (0 : Int))) = true then ((some (-part_1)).bind fun part_2 =>
 some part_2)
 else some part_1 : Option Int).bind fun j_1 =>
 ((zDiv numerator_0 j_1).bind fun v1 =>
 ((zDiv denominator_0 j_1).bind fun v2 =>
 some (.ok (⟨v1, v2⟩ : (T2 Int Int))))))))
theorem x_fraction {numerator_0 : Int} {denominator_0 : Int} {r : (Ex (T2 Int Int))} (h : t_fraction numerator_0 denominator_0 = some r) : DRX (d_fraction [enc numerator_0, enc denominator_0]) r (some 0) := by
  unfold t_fraction at h
  refine dr_fnX (S0 := [some (enc numerator_0, (some 0)), some (enc denominator_0, (some 0)), none]) rfl rfl ?_
  rcases tif h with ⟨hb, h⟩ | ⟨hb, h⟩
  · refine sp_ifs_t (rt_test (re_eq (by decide) (re_varS rfl) (re_c (x := (0 : Int)) rfl))) hb ?_
    have h := Option.some.inj h; subst h
    exact px_X (px_seq (px_raise (vs := []) ra_nil rfl (by decide)))
  · refine sp_ifs_f (rt_test (re_eq (by decide) (re_varS rfl) (re_c (x := (0 : Int)) rfl))) hb ?_
    refine sp_nil ?_
    obtain ⟨part_1, hpart_1, h⟩ := bnd h
    refine sp_seq (S' := [some (enc numerator_0, (some 0)), some (enc denominator_0, (some 0)), some (enc part_1, (some 0))]) (sp_set (re_to (re_gcd (re_varS rfl) (re_varS rfl)) hpart_1) rfl) ?_
    obtain ⟨j_1, hj_1, h⟩ := bnd h
    refine sp_seq (S' := [some (enc numerator_0, (some 0)), some (enc denominator_0, (some 0)), some (enc j_1, (some 0))]) ?_ ?_
    · rcases tif hj_1 with ⟨hb, h⟩ | ⟨hb, h⟩
      · refine sp_if_t (rt_test (re_lt (re_varS rfl) (re_c (x := (0 : Int)) rfl))) hb ?_
        obtain ⟨part_2, hpart_2, h⟩ := bnd h
        refine sp_end (S' := [some (enc numerator_0, (some 0)), some (enc denominator_0, (some 0)), some (enc part_2, (some 0))]) (sp_set (re_to (re_neg (re_varS rfl)) hpart_2) rfl) ?_
        have h := Option.some.inj h; subst h
        exact pnx_c (.e (.e (.e .nil)))
      · refine sp_if_f (rt_test (re_lt (re_varS rfl) (re_c (x := (0 : Int)) rfl))) hb ?_
        refine sp_end (S' := [some (enc numerator_0, (some 0)), some (enc denominator_0, (some 0)), some (enc part_1, (some 0))]) sp_nilN ?_
        have h := Option.some.inj h; subst h
        exact pnx_c (.e (.e (.e .nil)))
    obtain ⟨v1, hv1, h⟩ := bnd h
    obtain ⟨v2, hv2, h⟩ := bnd h
    have h := Option.some.inj h; subst h
    exact sp_okX (sp_ret (re_tup0 (v := (⟨v1, v2⟩ : (T2 Int Int))) rfl (Nat.le_of_ble_eq_true rfl) (ra_s (re_div (re_varS rfl) (re_varS rfl) hv1) (ra_s (re_div (re_varS rfl) (re_varS rfl) hv2) ra_nil))))
def u__law_gcd_1 : (Int × Int) → Option (Int × Int) := fun s_1 =>
 ((zMod s_1.1 s_1.2).bind fun rest_1 =>
 ((some s_1.2).bind fun first_2 =>
 ((some rest_1).bind fun second_2 =>
 some (first_2, second_2))))
def y__law_gcd_2 : (Int × Int) → Option Bool := fun s_1 =>
 some (!decide (s_1.2 = (0 : Int)))
def t__law_gcd (first_0 : Int) (second_0 : Int) : Option Int :=
 ((some (if first_0 < 0 then -first_0 else first_0)).bind fun first_1 =>
 ((some (if second_0 < 0 then -second_0 else second_0)).bind fun second_1 =>
 ((zWhile y__law_gcd_2 u__law_gcd_1 1000000000 (first_1, second_1)).bind fun r_1 =>
 some r_1.1)))
theorem x__law_gcd {first_0 : Int} {second_0 : Int} {r : Int} (h : t__law_gcd first_0 second_0 = some r) : DR (d__law_gcd [enc first_0, enc second_0]) (enc r) none := by
  unfold t__law_gcd at h
  refine dr_fn (S0 := [some (enc first_0, (some 0)), some (enc second_0, (some 0)), none]) rfl rfl ?_
  obtain ⟨first_1, hfirst_1, h⟩ := bnd h
  refine sp_seq (S' := [some (enc first_1, (some 0)), some (enc second_0, (some 0)), none]) (sp_set (re_to (re_abs (re_varS rfl)) hfirst_1) rfl) ?_
  obtain ⟨second_1, hsecond_1, h⟩ := bnd h
  refine sp_seq (S' := [some (enc first_1, (some 0)), some (enc second_1, (some 0)), none]) (sp_set (re_to (re_abs (re_varS rfl)) hsecond_1) rfl) ?_
  obtain ⟨r_1, hr_1, h⟩ := bnd h
  refine sp_seq (S' := [some (enc r_1.1, (some 0)), some (enc r_1.2, (some 0)), none]) (sp_while (Sf := fun (s_1 : (Int × Int)) => [some (enc s_1.1, (some 0)), some (enc s_1.2, (some 0)), none]) (s0 := (first_1, second_1)) (.e (.e (.a .nil))) (fun s_1 b h => by unfold y__law_gcd_2 at h; exact rt_to (rt_test (re_ne (by decide) (re_varS rfl) (re_c (x := (0 : Int)) rfl))) h) ?_ hr_1) ?_
  · intro s_1 ctl_1 hw h
    unfold u__law_gcd_1 at h
    obtain ⟨rest_1, hrest_1, h⟩ := bnd h
    refine sp_seq (S' := [some (enc s_1.1, (some 0)), some (enc s_1.2, (some 0)), some (enc rest_1, (some 0))]) (sp_set (re_mod (re_varS rfl) (re_varS rfl) hrest_1) rfl) ?_
    obtain ⟨first_2, hfirst_2, h⟩ := bnd h
    refine sp_seq (S' := [some (enc first_2, (some 0)), some (enc s_1.2, (some 0)), some (enc rest_1, (some 0))]) (sp_set (re_to (re_varS rfl) hfirst_2) rfl) ?_
    obtain ⟨second_2, hsecond_2, h⟩ := bnd h
    refine sp_end (S' := [some (enc first_2, (some 0)), some (enc second_2, (some 0)), some (enc rest_1, (some 0))]) (sp_set (re_to (re_varS rfl) hsecond_2) rfl) ?_
    have h := Option.some.inj h; subst h
    exact pgo_c (.e (.e (.a .nil)))
  have h := Option.some.inj h; subst h
  exact (prt_w (sp_retV (v := r_1.1) rfl))
def t__law_lowest (top_0 : Int) (bottom_0 : Int) : Option (T2 Int Int) :=
 ((t__law_gcd top_0 bottom_0).bind fun part_1 =>
 ((if (decide (bottom_0 < (0 : Int))) = true then ((some (-part_1)).bind fun part_2 =>
 some part_2)
 else some part_1 : Option Int).bind fun j_1 =>
 ((zDiv top_0 j_1).bind fun v2 =>
 ((zDiv bottom_0 j_1).bind fun v3 =>
 some (⟨v2, v3⟩ : (T2 Int Int))))))
theorem x__law_lowest {top_0 : Int} {bottom_0 : Int} {r : (T2 Int Int)} (h : t__law_lowest top_0 bottom_0 = some r) : DR (d__law_lowest [enc top_0, enc bottom_0]) (enc r) (some 0) := by
  unfold t__law_lowest at h
  refine dr_fn (S0 := [some (enc top_0, (some 0)), some (enc bottom_0, (some 0)), none]) rfl rfl ?_
  obtain ⟨part_1, hpart_1, h⟩ := bnd h
  refine sp_seq (S' := [some (enc top_0, (some 0)), some (enc bottom_0, (some 0)), some (enc part_1, none)]) (sp_set (re_callS (x__law_gcd hpart_1) rfl (ra_n (re_varS rfl) (ra_n (re_varS rfl) ra_nil))) rfl) ?_
  obtain ⟨j_1, hj_1, h⟩ := bnd h
  refine sp_seq (S' := [some (enc top_0, (some 0)), some (enc bottom_0, (some 0)), some (enc j_1, none)]) ?_ ?_
  · rcases tif hj_1 with ⟨hb, h⟩ | ⟨hb, h⟩
    · refine sp_if_t (rt_test (re_lt (re_varS rfl) (re_c (x := (0 : Int)) rfl))) hb ?_
      obtain ⟨part_2, hpart_2, h⟩ := bnd h
      refine sp_end (S' := [some (enc top_0, (some 0)), some (enc bottom_0, (some 0)), some (enc part_2, (some 0))]) (sp_set (re_to (re_neg (re_varS rfl)) hpart_2) rfl) ?_
      have h := Option.some.inj h; subst h
      exact pnx_c (.e (.e (.w .nil)))
    · refine sp_if_f (rt_test (re_lt (re_varS rfl) (re_c (x := (0 : Int)) rfl))) hb ?_
      refine sp_end (S' := [some (enc top_0, (some 0)), some (enc bottom_0, (some 0)), some (enc part_1, none)]) sp_nilN ?_
      have h := Option.some.inj h; subst h
      exact pnx_c (.e (.e (.e .nil)))
  obtain ⟨v2, hv2, h⟩ := bnd h
  obtain ⟨v3, hv3, h⟩ := bnd h
  have h := Option.some.inj h; subst h
  exact (sp_ret (re_tup0 (v := (⟨v2, v3⟩ : (T2 Int Int))) rfl (Nat.le_of_ble_eq_true rfl) (ra_s (re_div (re_varS rfl) (re_varS rfl) hv2) (ra_s (re_div (re_varS rfl) (re_varS rfl) hv3) ra_nil))))
def t__law_is_number (value_0 : Int) : Option Bool :=
 some (true && (!false))
theorem x__law_is_number {value_0 : Int} {r : Bool} (h : t__law_is_number value_0 = some r) : DR (d__law_is_number [enc value_0]) (enc r) none := by
  unfold t__law_is_number at h
  refine dr_fn (S0 := [some (enc value_0, (some 0))]) rfl rfl ?_
  have h := Option.some.inj h; subst h
  exact (prt_w (sp_ret (re_and (re_isi (p := true) rfl (re_varS rfl)) (re_notV (re_isi (p := false) rfl (re_varS rfl))))))
def t__law_is_pair (value_0 : (T2 Int Int)) (due_0 : (T2 Int Int)) : Option Bool :=
 (if ((!true) || (!decide ((2 : Int) = (2 : Int)))) = true then some false
 else ((t__law_is_number value_0.a).bind fun v1 =>
 ((zOr (!v1) (((t__law_is_number value_0.b).bind fun v2 =>
 some (!v2)))).bind fun v3 =>
 (if v3 = true then some false
 else some ((decide (value_0.a = due_0.a)) && (decide (value_0.b = due_0.b)))))))
theorem x__law_is_pair {value_0 : (T2 Int Int)} {due_0 : (T2 Int Int)} {r : Bool} (h : t__law_is_pair value_0 due_0 = some r) : DR (d__law_is_pair [enc value_0, enc due_0]) (enc r) none := by
  unfold t__law_is_pair at h
  refine dr_fn (S0 := [some (enc value_0, (some 0)), some (enc due_0, (some 0))]) rfl rfl ?_
  rcases tif h with ⟨hb, h⟩ | ⟨hb, h⟩
  · refine sp_ifs_t (rt_or (rt_not (rt_test (re_isi (p := true) rfl (re_var0 rfl)))) (rt_test (re_ne (by decide) (re_lenT (n := (2 : Int)) rfl rfl (re_var0 rfl)) (re_c (x := (2 : Int)) rfl)))) hb ?_
    have h := Option.some.inj h; subst h
    exact (sp_seqR (prt_w (sp_ret (re_c (x := false) rfl))))
  · refine sp_ifs_f (rt_or (rt_not (rt_test (re_isi (p := true) rfl (re_var0 rfl)))) (rt_test (re_ne (by decide) (re_lenT (n := (2 : Int)) rfl rfl (re_var0 rfl)) (re_c (x := (2 : Int)) rfl)))) hb ?_
    refine sp_nil ?_
    obtain ⟨v1, hv1, h⟩ := bnd h
    obtain ⟨v3, hv3, h⟩ := bnd h
    rcases tif h with ⟨hb, h⟩ | ⟨hb, h⟩
    · refine sp_ifs_t (rt_orM (rt_not (rt_test (re_callS (x__law_is_number hv1) rfl (ra_n (re_tixF (v := value_0.a) rfl (by decide) ix_0 (re_var0 rfl)) ra_nil)))) (fun q h => by obtain ⟨v2, hv2, h⟩ := bnd h; exact rt_to (rt_not (rt_test (re_callS (x__law_is_number hv2) rfl (ra_n (re_tixF (v := value_0.b) rfl (by decide) ix_1 (re_var0 rfl)) ra_nil)))) h) hv3) hb ?_
      have h := Option.some.inj h; subst h
      exact (sp_seqR (prt_w (sp_ret (re_c (x := false) rfl))))
    · refine sp_ifs_f (rt_orM (rt_not (rt_test (re_callS (x__law_is_number hv1) rfl (ra_n (re_tixF (v := value_0.a) rfl (by decide) ix_0 (re_var0 rfl)) ra_nil)))) (fun q h => by obtain ⟨v2, hv2, h⟩ := bnd h; exact rt_to (rt_not (rt_test (re_callS (x__law_is_number hv2) rfl (ra_n (re_tixF (v := value_0.b) rfl (by decide) ix_1 (re_var0 rfl)) ra_nil)))) h) hv3) hb ?_
      refine sp_nil ?_
      have h := Option.some.inj h; subst h
      exact (prt_w (sp_ret (re_and (re_eq (by decide) (re_tixF (v := value_0.a) rfl (by decide) ix_0 (re_var0 rfl)) (re_tixF (v := due_0.a) rfl (by decide) ix_0 (re_var0 rfl))) (re_eq (by decide) (re_tixF (v := value_0.b) rfl (by decide) ix_1 (re_var0 rfl)) (re_tixF (v := due_0.b) rfl (by decide) ix_1 (re_var0 rfl))))))
def t__law_quotient_is_right (top_0 : Int) (bottom_0 : Int) : Option Bool :=
 (zTr (t_fraction top_0 bottom_0) (fun ex_1 => zCat (m_LinkError ex_1.cls)
 (((zAnd (decide (bottom_0 = (0 : Int))) (((q__law_is_zero_divisor ex_1.cls).bind fun v2 =>
 some v2))).bind fun v3 =>
 some v3))
 (none)) fun v1 =>
 ((some v1).bind fun told_1 =>
 ((zAnd (!decide (bottom_0 = (0 : Int))) (((t__law_lowest top_0 bottom_0).bind fun v4 =>
 ((t__law_is_pair told_1 v4).bind fun v5 =>
 some v5)))).bind fun v6 =>
 some v6)))
theorem x__law_quotient_is_right {top_0 : Int} {bottom_0 : Int} {r : Bool} (h : t__law_quotient_is_right top_0 bottom_0 = some r) : DR (d__law_quotient_is_right [enc top_0, enc bottom_0]) (enc r) none := by
  unfold t__law_quotient_is_right at h
  refine dr_fn (S0 := [some (enc top_0, (some 0)), some (enc bottom_0, (some 0)), none, none]) rfl rfl ?_
  refine sp_tryQ ?_
  rcases ztr h with ⟨ex_1, hex_1, h⟩ | ⟨v1, hv1, h⟩
  · rcases zcat h with ⟨hm, h⟩ | ⟨hm, h⟩
    · refine tq_exc (n := 4) (Sx := fun a d => [some (enc top_0, none), some (enc bottom_0, none), none, some (excD a d ex_1, (some 0))]) (px_set (rx_call (drx_x (x_fraction hex_1)) rfl (ra_n (re_varS rfl) (ra_n (re_varS rfl) ra_nil)))) hm rfl (fun a d => rfl) ?_
      obtain ⟨v3, hv3, h⟩ := bnd h
      have h := Option.some.inj h; subst h
      exact su_ret (fun a d => (re_andM (re_eq (by decide) (re_varS rfl) (re_c (x := (0 : Int)) rfl)) (fun q h => by obtain ⟨v2, hv2, h⟩ := bnd h; exact re_to (re_isX rfl hv2) h) hv3)) rfl prt0
    · cases h
  obtain ⟨told_1, htold_1, h⟩ := bnd h
  refine sp_end (S' := [some (enc top_0, (some 0)), some (enc bottom_0, (some 0)), some (enc told_1, (some 0)), none]) (sp_set (re_to (re_callX (re_callF (by decide) (drx_v (x_fraction hv1)) rfl (ra_n (re_varS rfl) (ra_n (re_varS rfl) ra_nil)))) htold_1) rfl) ?_
  refine tq_nx ?_
  obtain ⟨v6, hv6, h⟩ := bnd h
  have h := Option.some.inj h; subst h
  exact (prt_w (sp_ret (re_andM (re_ne (by decide) (re_varS rfl) (re_c (x := (0 : Int)) rfl)) (fun q h => by obtain ⟨v4, hv4, h⟩ := bnd h; obtain ⟨v5, hv5, h⟩ := bnd h; exact re_to (re_callS (x__law_is_pair hv5) rfl (ra_n (re_var0 rfl) (ra_n (re_callF (by decide) (x__law_lowest hv4) rfl (ra_n (re_varS rfl) (ra_n (re_varS rfl) ra_nil))) ra_nil))) h) hv6)))
def t__law_share (top_0 : Int) (bottom_0 : Int) : Option (T2 Int Int) :=
 (if (decide (bottom_0 = (0 : Int))) = true then ((t__law_lowest top_0 (1 : Int)).bind fun v1 =>
 some v1)
 else ((t__law_lowest top_0 bottom_0).bind fun v2 =>
 some v2))
theorem x__law_share {top_0 : Int} {bottom_0 : Int} {r : (T2 Int Int)} (h : t__law_share top_0 bottom_0 = some r) : DR (d__law_share [enc top_0, enc bottom_0]) (enc r) (some 0) := by
  unfold t__law_share at h
  refine dr_fn (S0 := [some (enc top_0, (some 0)), some (enc bottom_0, (some 0))]) rfl rfl ?_
  rcases tif h with ⟨hb, h⟩ | ⟨hb, h⟩
  · refine sp_ifs_t (rt_test (re_eq (by decide) (re_varS rfl) (re_c (x := (0 : Int)) rfl))) hb ?_
    obtain ⟨v1, hv1, h⟩ := bnd h
    have h := Option.some.inj h; subst h
    exact (sp_seqR (sp_ret (re_callF (by decide) (x__law_lowest hv1) rfl (ra_n (re_varS rfl) (ra_n (re_c (x := (1 : Int)) rfl) ra_nil)))))
  · refine sp_ifs_f (rt_test (re_eq (by decide) (re_varS rfl) (re_c (x := (0 : Int)) rfl))) hb ?_
    refine sp_nil ?_
    obtain ⟨v2, hv2, h⟩ := bnd h
    have h := Option.some.inj h; subst h
    exact (sp_ret (re_callF (by decide) (x__law_lowest hv2) rfl (ra_n (re_varS rfl) (ra_n (re_varS rfl) ra_nil))))
def t__law_seconds (draws_0 : (List Int)) (first_0 : (T2 Int Int)) (second_0 : (T2 Int Int)) : Option (List (T2 Int Int)) :=
 ((atI draws_0 (13 : Int)).bind fun v1 =>
 ((zMod v1 (30 : Int)).bind fun v2 =>
 ((zMul first_0.b ((1 : Int) + v2)).bind fun hair_1 =>
 ((zMul first_0.a hair_1).bind fun v4 =>
 ((zMul first_0.b hair_1).bind fun v5 =>
 ((t__law_lowest (v4 + (1 : Int)) v5).bind fun above_1 =>
 ((zMul first_0.a hair_1).bind fun v7 =>
 ((zMul first_0.b hair_1).bind fun v8 =>
 ((t__law_lowest (v7 - (1 : Int)) v8).bind fun below_1 =>
 some ([second_0, first_0, (⟨(-first_0.a), first_0.b⟩ : (T2 Int Int)), (⟨(0 : Int), (1 : Int)⟩ : (T2 Int Int)), (⟨(1 : Int), (1 : Int)⟩ : (T2 Int Int)), above_1, below_1, (⟨(first_0.a + first_0.b), first_0.b⟩ : (T2 Int Int))] : (List (T2 Int Int))))))))))))
theorem x__law_seconds {draws_0 : (List Int)} {first_0 : (T2 Int Int)} {second_0 : (T2 Int Int)} {r : (List (T2 Int Int))} (h : t__law_seconds draws_0 first_0 second_0 = some r) : DR (d__law_seconds [enc draws_0, enc first_0, enc second_0]) (enc r) (some 1) := by
  unfold t__law_seconds at h
  refine dr_fn (S0 := [some (enc draws_0, (some 0)), some (enc first_0, (some 0)), some (enc second_0, (some 0)), none, none, none]) rfl rfl ?_
  obtain ⟨v1, hv1, h⟩ := bnd h
  obtain ⟨v2, hv2, h⟩ := bnd h
  obtain ⟨hair_1, hhair_1, h⟩ := bnd h
  refine sp_seq (S' := [some (enc draws_0, (some 0)), some (enc first_0, (some 0)), some (enc second_0, (some 0)), some (enc hair_1, (some 0)), none, none]) (sp_set (re_mul (re_tixF (v := first_0.b) rfl (by decide) ix_1 (re_var0 rfl)) (re_add (re_c (x := (1 : Int)) rfl) (re_mod (re_ixF (by decide) (re_var0 rfl) (re_c (x := (13 : Int)) rfl) hv1) (re_c (x := (30 : Int)) rfl) hv2)) hhair_1) rfl) ?_
  obtain ⟨v4, hv4, h⟩ := bnd h
  obtain ⟨v5, hv5, h⟩ := bnd h
  obtain ⟨above_1, habove_1, h⟩ := bnd h
  refine sp_seq (S' := [some (enc draws_0, (some 0)), some (enc first_0, (some 0)), some (enc second_0, (some 0)), some (enc hair_1, (some 0)), some (enc above_1, (some 0)), none]) (sp_set (re_callF (by decide) (x__law_lowest habove_1) rfl (ra_n (re_add (re_mul (re_tixF (v := first_0.a) rfl (by decide) ix_0 (re_var0 rfl)) (re_varS rfl) hv4) (re_c (x := (1 : Int)) rfl)) (ra_n (re_mul (re_tixF (v := first_0.b) rfl (by decide) ix_1 (re_var0 rfl)) (re_varS rfl) hv5) ra_nil))) rfl) ?_
  obtain ⟨v7, hv7, h⟩ := bnd h
  obtain ⟨v8, hv8, h⟩ := bnd h
  obtain ⟨below_1, hbelow_1, h⟩ := bnd h
  refine sp_seq (S' := [some (enc draws_0, (some 0)), some (enc first_0, (some 0)), some (enc second_0, (some 0)), some (enc hair_1, (some 0)), some (enc above_1, (some 0)), some (enc below_1, (some 0))]) (sp_set (re_callF (by decide) (x__law_lowest hbelow_1) rfl (ra_n (re_sub (re_mul (re_tixF (v := first_0.a) rfl (by decide) ix_0 (re_var0 rfl)) (re_varS rfl) hv7) (re_c (x := (1 : Int)) rfl)) (ra_n (re_mul (re_tixF (v := first_0.b) rfl (by decide) ix_1 (re_var0 rfl)) (re_varS rfl) hv8) ra_nil))) rfl) ?_
  have h := Option.some.inj h; subst h
  exact (sp_ret (re_lst0 (v := ([second_0, first_0, (⟨(-first_0.a), first_0.b⟩ : (T2 Int Int)), (⟨(0 : Int), (1 : Int)⟩ : (T2 Int Int)), (⟨(1 : Int), (1 : Int)⟩ : (T2 Int Int)), above_1, below_1, (⟨(first_0.a + first_0.b), first_0.b⟩ : (T2 Int Int))] : (List (T2 Int Int)))) rfl (Nat.le_of_ble_eq_true rfl) (ra_k (re_var0 rfl) (ra_k (re_var0 rfl) (ra_k (re_tup0 (v := (⟨(-first_0.a), first_0.b⟩ : (T2 Int Int))) rfl (Nat.le_of_ble_eq_true rfl) (ra_s (re_neg (re_tixF (v := first_0.a) rfl (by decide) ix_0 (re_var0 rfl))) (ra_s (re_tixF (v := first_0.b) rfl (by decide) ix_1 (re_var0 rfl)) ra_nil))) (ra_k (re_tup0 (v := (⟨(0 : Int), (1 : Int)⟩ : (T2 Int Int))) rfl (Nat.le_of_ble_eq_true rfl) (ra_s (re_c (x := (0 : Int)) rfl) (ra_s (re_c (x := (1 : Int)) rfl) ra_nil))) (ra_k (re_tup0 (v := (⟨(1 : Int), (1 : Int)⟩ : (T2 Int Int))) rfl (Nat.le_of_ble_eq_true rfl) (ra_s (re_c (x := (1 : Int)) rfl) (ra_s (re_c (x := (1 : Int)) rfl) ra_nil))) (ra_k (re_var0 rfl) (ra_k (re_var0 rfl) (ra_k (re_tup0 (v := (⟨(first_0.a + first_0.b), first_0.b⟩ : (T2 Int Int))) rfl (Nat.le_of_ble_eq_true rfl) (ra_s (re_add (re_tixF (v := first_0.a) rfl (by decide) ix_0 (re_var0 rfl)) (re_tixF (v := first_0.b) rfl (by decide) ix_1 (re_var0 rfl))) (ra_s (re_tixF (v := first_0.b) rfl (by decide) ix_1 (re_var0 rfl)) ra_nil))) ra_nil))))))))))
def t_plus (first_0 : (T2 Int Int)) (second_0 : (T2 Int Int)) : Option (T2 Int Int) :=
 ((zMul first_0.a second_0.b).bind fun v1 =>
 ((zMul second_0.a first_0.b).bind fun v2 =>
 ((zMul first_0.b second_0.b).bind fun v3 =>
 ((zOk (t_fraction (v1 + v2) v3)).bind fun v4 =>
 some v4))))
theorem x_plus {first_0 : (T2 Int Int)} {second_0 : (T2 Int Int)} {r : (T2 Int Int)} (h : t_plus first_0 second_0 = some r) : DR (d_plus [enc first_0, enc second_0]) (enc r) (some 0) := by
  unfold t_plus at h
  refine dr_fn (S0 := [some (enc first_0, (some 0)), some (enc second_0, (some 0))]) rfl rfl ?_
  obtain ⟨v1, hv1, h⟩ := bnd h
  obtain ⟨v2, hv2, h⟩ := bnd h
  obtain ⟨v3, hv3, h⟩ := bnd h
  obtain ⟨v4, hv4, h⟩ := bnd h
  have h := Option.some.inj h; subst h
  exact (sp_ret (re_callF (by decide) (drx_ok (fun h => x_fraction h) hv4) rfl (ra_n (re_add (re_mul (re_tixF (v := first_0.a) rfl (by decide) ix_0 (re_var0 rfl)) (re_tixF (v := second_0.b) rfl (by decide) ix_1 (re_var0 rfl)) hv1) (re_mul (re_tixF (v := second_0.a) rfl (by decide) ix_0 (re_var0 rfl)) (re_tixF (v := first_0.b) rfl (by decide) ix_1 (re_var0 rfl)) hv2)) (ra_n (re_mul (re_tixF (v := first_0.b) rfl (by decide) ix_1 (re_var0 rfl)) (re_tixF (v := second_0.b) rfl (by decide) ix_1 (re_var0 rfl)) hv3) ra_nil))))
def t_minus (first_0 : (T2 Int Int)) (second_0 : (T2 Int Int)) : Option (T2 Int Int) :=
 ((zMul first_0.a second_0.b).bind fun v1 =>
 ((zMul second_0.a first_0.b).bind fun v2 =>
 ((zMul first_0.b second_0.b).bind fun v3 =>
 ((zOk (t_fraction (v1 - v2) v3)).bind fun v4 =>
 some v4))))
theorem x_minus {first_0 : (T2 Int Int)} {second_0 : (T2 Int Int)} {r : (T2 Int Int)} (h : t_minus first_0 second_0 = some r) : DR (d_minus [enc first_0, enc second_0]) (enc r) (some 0) := by
  unfold t_minus at h
  refine dr_fn (S0 := [some (enc first_0, (some 0)), some (enc second_0, (some 0))]) rfl rfl ?_
  obtain ⟨v1, hv1, h⟩ := bnd h
  obtain ⟨v2, hv2, h⟩ := bnd h
  obtain ⟨v3, hv3, h⟩ := bnd h
  obtain ⟨v4, hv4, h⟩ := bnd h
  have h := Option.some.inj h; subst h
  exact (sp_ret (re_callF (by decide) (drx_ok (fun h => x_fraction h) hv4) rfl (ra_n (re_sub (re_mul (re_tixF (v := first_0.a) rfl (by decide) ix_0 (re_var0 rfl)) (re_tixF (v := second_0.b) rfl (by decide) ix_1 (re_var0 rfl)) hv1) (re_mul (re_tixF (v := second_0.a) rfl (by decide) ix_0 (re_var0 rfl)) (re_tixF (v := first_0.b) rfl (by decide) ix_1 (re_var0 rfl)) hv2)) (ra_n (re_mul (re_tixF (v := first_0.b) rfl (by decide) ix_1 (re_var0 rfl)) (re_tixF (v := second_0.b) rfl (by decide) ix_1 (re_var0 rfl)) hv3) ra_nil))))
def t_times (first_0 : (T2 Int Int)) (second_0 : (T2 Int Int)) : Option (T2 Int Int) :=
 ((zMul first_0.a second_0.a).bind fun v1 =>
 ((zMul first_0.b second_0.b).bind fun v2 =>
 ((zOk (t_fraction v1 v2)).bind fun v3 =>
 some v3)))
theorem x_times {first_0 : (T2 Int Int)} {second_0 : (T2 Int Int)} {r : (T2 Int Int)} (h : t_times first_0 second_0 = some r) : DR (d_times [enc first_0, enc second_0]) (enc r) (some 0) := by
  unfold t_times at h
  refine dr_fn (S0 := [some (enc first_0, (some 0)), some (enc second_0, (some 0))]) rfl rfl ?_
  obtain ⟨v1, hv1, h⟩ := bnd h
  obtain ⟨v2, hv2, h⟩ := bnd h
  obtain ⟨v3, hv3, h⟩ := bnd h
  have h := Option.some.inj h; subst h
  exact (sp_ret (re_callF (by decide) (drx_ok (fun h => x_fraction h) hv3) rfl (ra_n (re_mul (re_tixF (v := first_0.a) rfl (by decide) ix_0 (re_var0 rfl)) (re_tixF (v := second_0.a) rfl (by decide) ix_0 (re_var0 rfl)) hv1) (ra_n (re_mul (re_tixF (v := first_0.b) rfl (by decide) ix_1 (re_var0 rfl)) (re_tixF (v := second_0.b) rfl (by decide) ix_1 (re_var0 rfl)) hv2) ra_nil))))
def t_order_of (first_0 : (T2 Int Int)) (second_0 : (T2 Int Int)) : Option Int :=
 ((zMul first_0.a second_0.b).bind fun left_1 =>
 ((zMul second_0.a first_0.b).bind fun right_1 =>
 (if (decide (left_1 < right_1)) = true then some (-(1 : Int))
 else some (zB2i (decide (right_1 < left_1))))))
theorem x_order_of {first_0 : (T2 Int Int)} {second_0 : (T2 Int Int)} {r : Int} (h : t_order_of first_0 second_0 = some r) : DR (d_order_of [enc first_0, enc second_0]) (enc r) none := by
  unfold t_order_of at h
  refine dr_fn (S0 := [some (enc first_0, (some 0)), some (enc second_0, (some 0)), none, none]) rfl rfl ?_
  obtain ⟨left_1, hleft_1, h⟩ := bnd h
  refine sp_seq (S' := [some (enc first_0, (some 0)), some (enc second_0, (some 0)), some (enc left_1, (some 0)), none]) (sp_set (re_mul (re_tixF (v := first_0.a) rfl (by decide) ix_0 (re_var0 rfl)) (re_tixF (v := second_0.b) rfl (by decide) ix_1 (re_var0 rfl)) hleft_1) rfl) ?_
  obtain ⟨right_1, hright_1, h⟩ := bnd h
  refine sp_seq (S' := [some (enc first_0, (some 0)), some (enc second_0, (some 0)), some (enc left_1, (some 0)), some (enc right_1, (some 0))]) (sp_set (re_mul (re_tixF (v := second_0.a) rfl (by decide) ix_0 (re_var0 rfl)) (re_tixF (v := first_0.b) rfl (by decide) ix_1 (re_var0 rfl)) hright_1) rfl) ?_
  rcases tif h with ⟨hb, h⟩ | ⟨hb, h⟩
  · refine sp_ifs_t (rt_test (re_lt (re_varS rfl) (re_varS rfl))) hb ?_
    have h := Option.some.inj h; subst h
    exact (sp_seqR (prt_w (sp_ret (re_neg (re_c (x := (1 : Int)) rfl)))))
  · refine sp_ifs_f (rt_test (re_lt (re_varS rfl) (re_varS rfl))) hb ?_
    refine sp_nil ?_
    have h := Option.some.inj h; subst h
    exact (prt_w (sp_ret (re_intB (re_gt (re_varS rfl) (re_varS rfl)))))
def t_over (first_0 : (T2 Int Int)) (second_0 : (T2 Int Int)) : Option (Ex (T2 Int Int)) :=
 ((zMul first_0.a second_0.b).bind fun v1 =>
 ((zMul first_0.b second_0.a).bind fun v2 =>
 (zBx (t_fraction v1 v2) fun v3 =>
 some (.ok v3))))
theorem x_over {first_0 : (T2 Int Int)} {second_0 : (T2 Int Int)} {r : (Ex (T2 Int Int))} (h : t_over first_0 second_0 = some r) : DRX (d_over [enc first_0, enc second_0]) r (some 0) := by
  unfold t_over at h
  refine dr_fnX (S0 := [some (enc first_0, (some 0)), some (enc second_0, (some 0))]) rfl rfl ?_
  obtain ⟨v1, hv1, h⟩ := bnd h
  obtain ⟨v2, hv2, h⟩ := bnd h
  rcases zbx h with ⟨ex_1, hex_1, h⟩ | ⟨v3, hv3, h⟩
  · subst h; exact px_X (px_ret (rx_call (drx_x (x_fraction hex_1)) rfl (ra_n (re_mul (re_tixF (v := first_0.a) rfl (by decide) ix_0 (re_var0 rfl)) (re_tixF (v := second_0.b) rfl (by decide) ix_1 (re_var0 rfl)) hv1) (ra_n (re_mul (re_tixF (v := first_0.b) rfl (by decide) ix_1 (re_var0 rfl)) (re_tixF (v := second_0.a) rfl (by decide) ix_0 (re_var0 rfl)) hv2) ra_nil))))
  have h := Option.some.inj h; subst h
  exact sp_okX (sp_ret (re_callX (re_callF (by decide) (drx_v (x_fraction hv3)) rfl (ra_n (re_mul (re_tixF (v := first_0.a) rfl (by decide) ix_0 (re_var0 rfl)) (re_tixF (v := second_0.b) rfl (by decide) ix_1 (re_var0 rfl)) hv1) (ra_n (re_mul (re_tixF (v := first_0.b) rfl (by decide) ix_1 (re_var0 rfl)) (re_tixF (v := second_0.a) rfl (by decide) ix_0 (re_var0 rfl)) hv2) ra_nil)))))
def t__law_over_is_right (first_0 : (T2 Int Int)) (second_0 : (T2 Int Int)) : Option Bool :=
 (zTr (t_over first_0 second_0) (fun ex_1 => zCat (m_LinkError ex_1.cls)
 (((zAnd (decide (second_0.a = (0 : Int))) (((q__law_is_zero_divisor ex_1.cls).bind fun v2 =>
 some v2))).bind fun v3 =>
 some v3))
 (none)) fun v1 =>
 ((some v1).bind fun told_1 =>
 (if (decide (second_0.a = (0 : Int))) = true then some false
 else ((zMul first_0.a second_0.b).bind fun v4 =>
 ((zMul first_0.b second_0.a).bind fun v5 =>
 ((t__law_lowest v4 v5).bind fun v6 =>
 ((t__law_is_pair told_1 v6).bind fun v7 =>
 some v7)))))))
theorem x__law_over_is_right {first_0 : (T2 Int Int)} {second_0 : (T2 Int Int)} {r : Bool} (h : t__law_over_is_right first_0 second_0 = some r) : DR (d__law_over_is_right [enc first_0, enc second_0]) (enc r) none := by
  unfold t__law_over_is_right at h
  refine dr_fn (S0 := [some (enc first_0, (some 0)), some (enc second_0, (some 0)), none, none]) rfl rfl ?_
  refine sp_tryQ ?_
  rcases ztr h with ⟨ex_1, hex_1, h⟩ | ⟨v1, hv1, h⟩
  · rcases zcat h with ⟨hm, h⟩ | ⟨hm, h⟩
    · refine tq_exc (n := 4) (Sx := fun a d => [some (enc first_0, none), some (enc second_0, none), none, some (excD a d ex_1, (some 0))]) (px_set (rx_call (drx_x (x_over hex_1)) rfl (ra_n (re_var0 rfl) (ra_n (re_var0 rfl) ra_nil)))) hm rfl (fun a d => rfl) ?_
      obtain ⟨v3, hv3, h⟩ := bnd h
      have h := Option.some.inj h; subst h
      exact su_ret (fun a d => (re_andM (re_eq (by decide) (re_tixF (v := second_0.a) rfl (by decide) ix_0 (re_varN rfl)) (re_c (x := (0 : Int)) rfl)) (fun q h => by obtain ⟨v2, hv2, h⟩ := bnd h; exact re_to (re_isX rfl hv2) h) hv3)) rfl prt0
    · cases h
  obtain ⟨told_1, htold_1, h⟩ := bnd h
  refine sp_end (S' := [some (enc first_0, (some 0)), some (enc second_0, (some 0)), some (enc told_1, (some 0)), none]) (sp_set (re_to (re_callX (re_callF (by decide) (drx_v (x_over hv1)) rfl (ra_n (re_var0 rfl) (ra_n (re_var0 rfl) ra_nil)))) htold_1) rfl) ?_
  refine tq_nx ?_
  rcases tif h with ⟨hb, h⟩ | ⟨hb, h⟩
  · refine sp_ifs_t (rt_test (re_eq (by decide) (re_tixF (v := second_0.a) rfl (by decide) ix_0 (re_var0 rfl)) (re_c (x := (0 : Int)) rfl))) hb ?_
    have h := Option.some.inj h; subst h
    exact (sp_seqR (prt_w (sp_ret (re_c (x := false) rfl))))
  · refine sp_ifs_f (rt_test (re_eq (by decide) (re_tixF (v := second_0.a) rfl (by decide) ix_0 (re_var0 rfl)) (re_c (x := (0 : Int)) rfl))) hb ?_
    refine sp_nil ?_
    obtain ⟨v4, hv4, h⟩ := bnd h
    obtain ⟨v5, hv5, h⟩ := bnd h
    obtain ⟨v6, hv6, h⟩ := bnd h
    obtain ⟨v7, hv7, h⟩ := bnd h
    have h := Option.some.inj h; subst h
    exact (prt_w (sp_ret (re_callS (x__law_is_pair hv7) rfl (ra_n (re_var0 rfl) (ra_n (re_callF (by decide) (x__law_lowest hv6) rfl (ra_n (re_mul (re_tixF (v := first_0.a) rfl (by decide) ix_0 (re_var0 rfl)) (re_tixF (v := second_0.b) rfl (by decide) ix_1 (re_var0 rfl)) hv4) (ra_n (re_mul (re_tixF (v := first_0.b) rfl (by decide) ix_1 (re_var0 rfl)) (re_tixF (v := second_0.a) rfl (by decide) ix_0 (re_var0 rfl)) hv5) ra_nil))) ra_nil)))))
def t__law_deeds_are_right (first_0 : (T2 Int Int)) (second_0 : (T2 Int Int)) : Option Bool :=
 ((zMul first_0.b second_0.b).bind fun bottom_1 =>
 ((zMul first_0.a second_0.b).bind fun left_1 =>
 ((zMul second_0.a first_0.b).bind fun right_1 =>
 ((t_plus first_0 second_0).bind fun v4 =>
 ((t__law_lowest (left_1 + right_1) bottom_1).bind fun v5 =>
 ((t__law_is_pair v4 v5).bind fun v6 =>
 (if (!v6) = true then some false
 else ((t_minus first_0 second_0).bind fun v7 =>
 ((t__law_lowest (left_1 - right_1) bottom_1).bind fun v8 =>
 ((t__law_is_pair v7 v8).bind fun v9 =>
 (if (!v9) = true then some false
 else ((t_times first_0 second_0).bind fun v10 =>
 ((zMul first_0.a second_0.a).bind fun v11 =>
 ((t__law_lowest v11 bottom_1).bind fun v12 =>
 ((t__law_is_pair v10 v12).bind fun v13 =>
 (if (!v13) = true then some false
 else ((t_order_of first_0 second_0).bind fun told_1 =>
 ((t__law_is_number told_1).bind fun v15 =>
 (if ((!v15) || (!decide (told_1 = ((zB2i (decide (right_1 < left_1))) - (zB2i (decide (left_1 < right_1))))))) = true then some false
 else ((t__law_over_is_right first_0 second_0).bind fun v16 =>
 some v16))))))))))))))))))))
theorem x__law_deeds_are_right {first_0 : (T2 Int Int)} {second_0 : (T2 Int Int)} {r : Bool} (h : t__law_deeds_are_right first_0 second_0 = some r) : DR (d__law_deeds_are_right [enc first_0, enc second_0]) (enc r) none := by
  unfold t__law_deeds_are_right at h
  refine dr_fn (S0 := [some (enc first_0, (some 0)), some (enc second_0, (some 0)), none, none, none, none]) rfl rfl ?_
  obtain ⟨bottom_1, hbottom_1, h⟩ := bnd h
  refine sp_seq (S' := [some (enc first_0, (some 0)), some (enc second_0, (some 0)), some (enc bottom_1, (some 0)), none, none, none]) (sp_set (re_mul (re_tixF (v := first_0.b) rfl (by decide) ix_1 (re_var0 rfl)) (re_tixF (v := second_0.b) rfl (by decide) ix_1 (re_var0 rfl)) hbottom_1) rfl) ?_
  obtain ⟨left_1, hleft_1, h⟩ := bnd h
  refine sp_seq (S' := [some (enc first_0, (some 0)), some (enc second_0, (some 0)), some (enc bottom_1, (some 0)), some (enc left_1, (some 0)), none, none]) (sp_set (re_mul (re_tixF (v := first_0.a) rfl (by decide) ix_0 (re_var0 rfl)) (re_tixF (v := second_0.b) rfl (by decide) ix_1 (re_var0 rfl)) hleft_1) rfl) ?_
  obtain ⟨right_1, hright_1, h⟩ := bnd h
  refine sp_seq (S' := [some (enc first_0, (some 0)), some (enc second_0, (some 0)), some (enc bottom_1, (some 0)), some (enc left_1, (some 0)), some (enc right_1, (some 0)), none]) (sp_set (re_mul (re_tixF (v := second_0.a) rfl (by decide) ix_0 (re_var0 rfl)) (re_tixF (v := first_0.b) rfl (by decide) ix_1 (re_var0 rfl)) hright_1) rfl) ?_
  obtain ⟨v4, hv4, h⟩ := bnd h
  obtain ⟨v5, hv5, h⟩ := bnd h
  obtain ⟨v6, hv6, h⟩ := bnd h
  rcases tif h with ⟨hb, h⟩ | ⟨hb, h⟩
  · refine sp_ifs_t (rt_not (rt_test (re_callS (x__law_is_pair hv6) rfl (ra_n (re_callF (by decide) (x_plus hv4) rfl (ra_n (re_var0 rfl) (ra_n (re_var0 rfl) ra_nil))) (ra_n (re_callF (by decide) (x__law_lowest hv5) rfl (ra_n (re_add (re_varS rfl) (re_varS rfl)) (ra_n (re_varS rfl) ra_nil))) ra_nil))))) hb ?_
    have h := Option.some.inj h; subst h
    exact (sp_seqR (prt_w (sp_ret (re_c (x := false) rfl))))
  · refine sp_ifs_f (rt_not (rt_test (re_callS (x__law_is_pair hv6) rfl (ra_n (re_callF (by decide) (x_plus hv4) rfl (ra_n (re_var0 rfl) (ra_n (re_var0 rfl) ra_nil))) (ra_n (re_callF (by decide) (x__law_lowest hv5) rfl (ra_n (re_add (re_varS rfl) (re_varS rfl)) (ra_n (re_varS rfl) ra_nil))) ra_nil))))) hb ?_
    refine sp_nil ?_
    obtain ⟨v7, hv7, h⟩ := bnd h
    obtain ⟨v8, hv8, h⟩ := bnd h
    obtain ⟨v9, hv9, h⟩ := bnd h
    rcases tif h with ⟨hb, h⟩ | ⟨hb, h⟩
    · refine sp_ifs_t (rt_not (rt_test (re_callS (x__law_is_pair hv9) rfl (ra_n (re_callF (by decide) (x_minus hv7) rfl (ra_n (re_var0 rfl) (ra_n (re_var0 rfl) ra_nil))) (ra_n (re_callF (by decide) (x__law_lowest hv8) rfl (ra_n (re_sub (re_varS rfl) (re_varS rfl)) (ra_n (re_varS rfl) ra_nil))) ra_nil))))) hb ?_
      have h := Option.some.inj h; subst h
      exact (sp_seqR (prt_w (sp_ret (re_c (x := false) rfl))))
    · refine sp_ifs_f (rt_not (rt_test (re_callS (x__law_is_pair hv9) rfl (ra_n (re_callF (by decide) (x_minus hv7) rfl (ra_n (re_var0 rfl) (ra_n (re_var0 rfl) ra_nil))) (ra_n (re_callF (by decide) (x__law_lowest hv8) rfl (ra_n (re_sub (re_varS rfl) (re_varS rfl)) (ra_n (re_varS rfl) ra_nil))) ra_nil))))) hb ?_
      refine sp_nil ?_
      obtain ⟨v10, hv10, h⟩ := bnd h
      obtain ⟨v11, hv11, h⟩ := bnd h
      obtain ⟨v12, hv12, h⟩ := bnd h
      obtain ⟨v13, hv13, h⟩ := bnd h
      rcases tif h with ⟨hb, h⟩ | ⟨hb, h⟩
      · refine sp_ifs_t (rt_not (rt_test (re_callS (x__law_is_pair hv13) rfl (ra_n (re_callF (by decide) (x_times hv10) rfl (ra_n (re_var0 rfl) (ra_n (re_var0 rfl) ra_nil))) (ra_n (re_callF (by decide) (x__law_lowest hv12) rfl (ra_n (re_mul (re_tixF (v := first_0.a) rfl (by decide) ix_0 (re_var0 rfl)) (re_tixF (v := second_0.a) rfl (by decide) ix_0 (re_var0 rfl)) hv11) (ra_n (re_varS rfl) ra_nil))) ra_nil))))) hb ?_
        have h := Option.some.inj h; subst h
        exact (sp_seqR (prt_w (sp_ret (re_c (x := false) rfl))))
      · refine sp_ifs_f (rt_not (rt_test (re_callS (x__law_is_pair hv13) rfl (ra_n (re_callF (by decide) (x_times hv10) rfl (ra_n (re_var0 rfl) (ra_n (re_var0 rfl) ra_nil))) (ra_n (re_callF (by decide) (x__law_lowest hv12) rfl (ra_n (re_mul (re_tixF (v := first_0.a) rfl (by decide) ix_0 (re_var0 rfl)) (re_tixF (v := second_0.a) rfl (by decide) ix_0 (re_var0 rfl)) hv11) (ra_n (re_varS rfl) ra_nil))) ra_nil))))) hb ?_
        refine sp_nil ?_
        obtain ⟨told_1, htold_1, h⟩ := bnd h
        refine sp_seq (S' := [some (enc first_0, (some 0)), some (enc second_0, (some 0)), some (enc bottom_1, (some 0)), some (enc left_1, (some 0)), some (enc right_1, (some 0)), some (enc told_1, none)]) (sp_set (re_callS (x_order_of htold_1) rfl (ra_n (re_var0 rfl) (ra_n (re_var0 rfl) ra_nil))) rfl) ?_
        obtain ⟨v15, hv15, h⟩ := bnd h
        rcases tif h with ⟨hb, h⟩ | ⟨hb, h⟩
        · refine sp_ifs_t (rt_or (rt_not (rt_test (re_callS (x__law_is_number hv15) rfl (ra_n (re_varS rfl) ra_nil)))) (rt_test (re_ne (by decide) (re_varS rfl) (re_sub (re_intB (re_gt (re_varS rfl) (re_varS rfl))) (re_intB (re_lt (re_varS rfl) (re_varS rfl))))))) hb ?_
          have h := Option.some.inj h; subst h
          exact (sp_seqR (prt_w (sp_ret (re_c (x := false) rfl))))
        · refine sp_ifs_f (rt_or (rt_not (rt_test (re_callS (x__law_is_number hv15) rfl (ra_n (re_varS rfl) ra_nil)))) (rt_test (re_ne (by decide) (re_varS rfl) (re_sub (re_intB (re_gt (re_varS rfl) (re_varS rfl))) (re_intB (re_lt (re_varS rfl) (re_varS rfl))))))) hb ?_
          refine sp_nil ?_
          obtain ⟨v16, hv16, h⟩ := bnd h
          have h := Option.some.inj h; subst h
          exact (prt_w (sp_ret (re_callS (x__law_over_is_right hv16) rfl (ra_n (re_var0 rfl) (ra_n (re_var0 rfl) ra_nil)))))
def u_law_1 : (T2 Int Int) → Unit → Option (Ctl Unit Bool) := fun e_1 s_1 =>
 ((t__law_quotient_is_right e_1.a e_1.b).bind fun v9 =>
 (if (!v9) = true then some (.ret false)
 else some (.go ())))
def u_law_2 (first_1 : (T2 Int Int)) : (T2 Int Int) → Unit → Option (Ctl Unit Bool) := fun e_2 s_2 =>
 ((t__law_deeds_are_right first_1 e_2).bind fun v13 =>
 ((zOr (!v13) (((t__law_deeds_are_right e_2 first_1).bind fun v14 =>
 some (!v14)))).bind fun v15 =>
 (if v15 = true then some (.ret false)
 else some (.go ()))))
def t_law (L : List Int) : Option Bool :=
 ((some L).bind fun draws_1 =>
 ((t__law_number draws_1 (0 : Int)).bind fun a_1 =>
 ((t__law_number draws_1 (3 : Int)).bind fun b_1 =>
 ((t__law_number draws_1 (6 : Int)).bind fun c_1 =>
 ((t__law_number draws_1 (9 : Int)).bind fun d_1 =>
 ((atI draws_1 (12 : Int)).bind fun v5 =>
 ((zMod v5 (13 : Int)).bind fun v6 =>
 ((some (v6 - (6 : Int))).bind fun m_1 =>
 ((if (decide (m_1 = (0 : Int))) = true then ((some (7 : Int)).bind fun m_2 =>
 some m_2)
 else some m_1 : Option Int).bind fun j_1 =>
 ((zMul a_1 j_1).bind fun v7 =>
 ((zMul b_1 j_1).bind fun v8 =>
 ((some ([(⟨a_1, b_1⟩ : (T2 Int Int)), (⟨c_1, d_1⟩ : (T2 Int Int)), (⟨v7, v8⟩ : (T2 Int Int)), (⟨a_1, (0 : Int)⟩ : (T2 Int Int)), (⟨(0 : Int), b_1⟩ : (T2 Int Int)), (⟨(-a_1), b_1⟩ : (T2 Int Int)), (⟨a_1, (-b_1)⟩ : (T2 Int Int)), (⟨(-a_1), (-b_1)⟩ : (T2 Int Int)), (⟨(0 : Int), (0 : Int)⟩ : (T2 Int Int)), (⟨b_1, a_1⟩ : (T2 Int Int)), (⟨a_1, b_1⟩ : (T2 Int Int))] : (List (T2 Int Int)))).bind fun pairs_1 =>
 ((zForC u_law_1 pairs_1 ()).bind fun o_1 =>
 (match o_1 with
 | .inl r_1 => ((t__law_share a_1 b_1).bind fun first_1 =>
 ((t__law_share c_1 d_1).bind fun v11 =>
 ((t__law_seconds draws_1 first_1 v11).bind fun v12 =>
 ((zForC (u_law_2 first_1) v12 ()).bind fun o_2 =>
 (match o_2 with
 | .inl r_2 => ((t__law_quotient_is_right a_1 b_1).bind fun v16 =>
 some v16)
 | .inr r => some r)))))
 | .inr r => some r))))))))))))))
theorem x_law {K : PySem.W.Frag} {d : D} {L : List Int} {r : Bool} (hL : DR (d__law_draws K [enc d, enc (20 : Int)]) (enc L) (some 1)) (h : t_law L = some r) : DR ((d_law K) [enc d]) (enc r) none := by
  unfold t_law at h
  refine dr_fn (S0 := [some (enc d, (some 0)), none, none, none, none, none, none, none, none, none, none, none]) rfl rfl ?_
  obtain ⟨draws_1, hdraws_1, h⟩ := bnd h
  refine sp_seq (S' := [some (enc d, (some 0)), some (enc draws_1, (some 1)), none, none, none, none, none, none, none, none, none, none]) (sp_set (re_to (re_callF (v := L) (by decide) hL rfl (ra_n (re_var0 rfl) (ra_n (re_c (x := (20 : Int)) rfl) ra_nil))) hdraws_1) rfl) ?_
  obtain ⟨a_1, ha_1, h⟩ := bnd h
  refine sp_seq (S' := [some (enc d, (some 0)), some (enc draws_1, (some 1)), some (enc a_1, none), none, none, none, none, none, none, none, none, none]) (sp_set (re_callS (x__law_number ha_1) rfl (ra_n (re_var1 rfl) (ra_n (re_c (x := (0 : Int)) rfl) ra_nil))) rfl) ?_
  obtain ⟨b_1, hb_1, h⟩ := bnd h
  refine sp_seq (S' := [some (enc d, (some 0)), some (enc draws_1, (some 1)), some (enc a_1, none), some (enc b_1, none), none, none, none, none, none, none, none, none]) (sp_set (re_callS (x__law_number hb_1) rfl (ra_n (re_var1 rfl) (ra_n (re_c (x := (3 : Int)) rfl) ra_nil))) rfl) ?_
  obtain ⟨c_1, hc_1, h⟩ := bnd h
  refine sp_seq (S' := [some (enc d, (some 0)), some (enc draws_1, (some 1)), some (enc a_1, none), some (enc b_1, none), some (enc c_1, none), none, none, none, none, none, none, none]) (sp_set (re_callS (x__law_number hc_1) rfl (ra_n (re_var1 rfl) (ra_n (re_c (x := (6 : Int)) rfl) ra_nil))) rfl) ?_
  obtain ⟨d_1, hd_1, h⟩ := bnd h
  refine sp_seq (S' := [some (enc d, (some 0)), some (enc draws_1, (some 1)), some (enc a_1, none), some (enc b_1, none), some (enc c_1, none), some (enc d_1, none), none, none, none, none, none, none]) (sp_set (re_callS (x__law_number hd_1) rfl (ra_n (re_var1 rfl) (ra_n (re_c (x := (9 : Int)) rfl) ra_nil))) rfl) ?_
  obtain ⟨v5, hv5, h⟩ := bnd h
  obtain ⟨v6, hv6, h⟩ := bnd h
  obtain ⟨m_1, hm_1, h⟩ := bnd h
  refine sp_seq (S' := [some (enc d, (some 0)), some (enc draws_1, (some 1)), some (enc a_1, none), some (enc b_1, none), some (enc c_1, none), some (enc d_1, none), some (enc m_1, (some 0)), none, none, none, none, none]) (sp_set (re_to (re_sub (re_mod (re_ixF (by decide) (re_var1 rfl) (re_c (x := (12 : Int)) rfl) hv5) (re_c (x := (13 : Int)) rfl) hv6) (re_c (x := (6 : Int)) rfl)) hm_1) rfl) ?_
  obtain ⟨j_1, hj_1, h⟩ := bnd h
  refine sp_seq (S' := [some (enc d, (some 0)), some (enc draws_1, (some 1)), some (enc a_1, none), some (enc b_1, none), some (enc c_1, none), some (enc d_1, none), some (enc j_1, (some 0)), none, none, none, none, none]) ?_ ?_
  · rcases tif hj_1 with ⟨hb, h⟩ | ⟨hb, h⟩
    · refine sp_if_t (rt_test (re_eq (by decide) (re_varS rfl) (re_c (x := (0 : Int)) rfl))) hb ?_
      obtain ⟨m_2, hm_2, h⟩ := bnd h
      refine sp_end (S' := [some (enc d, (some 0)), some (enc draws_1, (some 1)), some (enc a_1, none), some (enc b_1, none), some (enc c_1, none), some (enc d_1, none), some (enc m_2, (some 0)), none, none, none, none, none]) (sp_set (re_to (re_c (x := (7 : Int)) rfl) hm_2) rfl) ?_
      have h := Option.some.inj h; subst h
      exact pnx_c (.e (.e (.e (.e (.e (.e (.e (.a (.a (.a (.a (.a .nil))))))))))))
    · refine sp_if_f (rt_test (re_eq (by decide) (re_varS rfl) (re_c (x := (0 : Int)) rfl))) hb ?_
      refine sp_end (S' := [some (enc d, (some 0)), some (enc draws_1, (some 1)), some (enc a_1, none), some (enc b_1, none), some (enc c_1, none), some (enc d_1, none), some (enc m_1, (some 0)), none, none, none, none, none]) sp_nilN ?_
      have h := Option.some.inj h; subst h
      exact pnx_c (.e (.e (.e (.e (.e (.e (.e (.a (.a (.a (.a (.a .nil))))))))))))
  obtain ⟨v7, hv7, h⟩ := bnd h
  obtain ⟨v8, hv8, h⟩ := bnd h
  obtain ⟨pairs_1, hpairs_1, h⟩ := bnd h
  refine sp_seq (S' := [some (enc d, (some 0)), some (enc draws_1, (some 1)), some (enc a_1, none), some (enc b_1, none), some (enc c_1, none), some (enc d_1, none), some (enc j_1, (some 0)), some (enc pairs_1, (some 1)), none, none, none, none]) (sp_set (re_to (re_lst0 (v := ([(⟨a_1, b_1⟩ : (T2 Int Int)), (⟨c_1, d_1⟩ : (T2 Int Int)), (⟨v7, v8⟩ : (T2 Int Int)), (⟨a_1, (0 : Int)⟩ : (T2 Int Int)), (⟨(0 : Int), b_1⟩ : (T2 Int Int)), (⟨(-a_1), b_1⟩ : (T2 Int Int)), (⟨a_1, (-b_1)⟩ : (T2 Int Int)), (⟨(-a_1), (-b_1)⟩ : (T2 Int Int)), (⟨(0 : Int), (0 : Int)⟩ : (T2 Int Int)), (⟨b_1, a_1⟩ : (T2 Int Int)), (⟨a_1, b_1⟩ : (T2 Int Int))] : (List (T2 Int Int)))) rfl (Nat.le_of_ble_eq_true rfl) (ra_k (re_tup0 (v := (⟨a_1, b_1⟩ : (T2 Int Int))) rfl (Nat.le_of_ble_eq_true rfl) (ra_s (re_varS rfl) (ra_s (re_varS rfl) ra_nil))) (ra_k (re_tup0 (v := (⟨c_1, d_1⟩ : (T2 Int Int))) rfl (Nat.le_of_ble_eq_true rfl) (ra_s (re_varS rfl) (ra_s (re_varS rfl) ra_nil))) (ra_k (re_tup0 (v := (⟨v7, v8⟩ : (T2 Int Int))) rfl (Nat.le_of_ble_eq_true rfl) (ra_s (re_mul (re_varS rfl) (re_varS rfl) hv7) (ra_s (re_mul (re_varS rfl) (re_varS rfl) hv8) ra_nil))) (ra_k (re_tup0 (v := (⟨a_1, (0 : Int)⟩ : (T2 Int Int))) rfl (Nat.le_of_ble_eq_true rfl) (ra_s (re_varS rfl) (ra_s (re_c (x := (0 : Int)) rfl) ra_nil))) (ra_k (re_tup0 (v := (⟨(0 : Int), b_1⟩ : (T2 Int Int))) rfl (Nat.le_of_ble_eq_true rfl) (ra_s (re_c (x := (0 : Int)) rfl) (ra_s (re_varS rfl) ra_nil))) (ra_k (re_tup0 (v := (⟨(-a_1), b_1⟩ : (T2 Int Int))) rfl (Nat.le_of_ble_eq_true rfl) (ra_s (re_neg (re_varS rfl)) (ra_s (re_varS rfl) ra_nil))) (ra_k (re_tup0 (v := (⟨a_1, (-b_1)⟩ : (T2 Int Int))) rfl (Nat.le_of_ble_eq_true rfl) (ra_s (re_varS rfl) (ra_s (re_neg (re_varS rfl)) ra_nil))) (ra_k (re_tup0 (v := (⟨(-a_1), (-b_1)⟩ : (T2 Int Int))) rfl (Nat.le_of_ble_eq_true rfl) (ra_s (re_neg (re_varS rfl)) (ra_s (re_neg (re_varS rfl)) ra_nil))) (ra_k (re_tup0 (v := (⟨(0 : Int), (0 : Int)⟩ : (T2 Int Int))) rfl (Nat.le_of_ble_eq_true rfl) (ra_s (re_c (x := (0 : Int)) rfl) (ra_s (re_c (x := (0 : Int)) rfl) ra_nil))) (ra_k (re_tup0 (v := (⟨b_1, a_1⟩ : (T2 Int Int))) rfl (Nat.le_of_ble_eq_true rfl) (ra_s (re_varS rfl) (ra_s (re_varS rfl) ra_nil))) (ra_k (re_tup0 (v := (⟨a_1, b_1⟩ : (T2 Int Int))) rfl (Nat.le_of_ble_eq_true rfl) (ra_s (re_varS rfl) (ra_s (re_varS rfl) ra_nil))) ra_nil)))))))))))) hpairs_1) rfl) ?_
  obtain ⟨o_1, ho_1, h⟩ := bnd h
  refine sp_forCs (Sf := fun (s_1 : Unit) => [some (enc d, (some 0)), some (enc draws_1, (some 1)), some (enc a_1, none), some (enc b_1, none), some (enc c_1, none), some (enc d_1, none), some (enc j_1, (some 0)), some (enc pairs_1, none), none, none, none, none]) (s0 := ()) (kk := none) (ri_seq (re_var1 rfl)) (.e (.e (.e (.e (.e (.e (.e (.e (.a (.a (.a (.a .nil)))))))))))) ?_ ho_1 ?_ ?_
  · intro e_1 s_1 ctl_1 hx h
    unfold u_law_1 at h
    refine ⟨[some (enc d, (some 0)), some (enc draws_1, (some 1)), some (enc a_1, none), some (enc b_1, none), some (enc c_1, none), some (enc d_1, none), some (enc j_1, (some 0)), some (enc pairs_1, none), some (enc e_1.a, (some 0)), some (enc e_1.b, (some 0)), none, none], (bg_t rfl rfl rfl), ?_⟩
    obtain ⟨v9, hv9, h⟩ := bnd h
    rcases tif h with ⟨hb, h⟩ | ⟨hb, h⟩
    · refine sp_if_t (rt_not (rt_test (re_callS (x__law_quotient_is_right hv9) rfl (ra_n (re_varS rfl) (ra_n (re_varS rfl) ra_nil))))) hb ?_
      have h := Option.some.inj h; subst h
      exact (prt_w (sp_ret (re_c (x := false) rfl)))
    · refine sp_if_f (rt_not (rt_test (re_callS (x__law_quotient_is_right hv9) rfl (ra_n (re_varS rfl) (ra_n (re_varS rfl) ra_nil))))) hb ?_
      refine sp_end (S' := [some (enc d, (some 0)), some (enc draws_1, (some 1)), some (enc a_1, none), some (enc b_1, none), some (enc c_1, none), some (enc d_1, none), some (enc j_1, (some 0)), some (enc pairs_1, none), some (enc e_1.a, (some 0)), some (enc e_1.b, (some 0)), none, none]) sp_nilN ?_
      have h := Option.some.inj h; subst h
      exact plp_c (.e (.e (.e (.e (.e (.e (.e (.e (.a (.a (.a (.a .nil))))))))))))
  · rintro r_1 rfl
    dsimp only at h
    obtain ⟨first_1, hfirst_1, h⟩ := bnd h
    refine sp_seq (S' := [some (enc d, (some 0)), some (enc draws_1, (some 1)), some (enc a_1, none), some (enc b_1, none), some (enc c_1, none), some (enc d_1, none), some (enc j_1, (some 0)), some (enc pairs_1, none), none, none, some (enc first_1, (some 0)), none]) (sp_set (re_callF (by decide) (x__law_share hfirst_1) rfl (ra_n (re_varS rfl) (ra_n (re_varS rfl) ra_nil))) rfl) ?_
    obtain ⟨v11, hv11, h⟩ := bnd h
    obtain ⟨v12, hv12, h⟩ := bnd h
    obtain ⟨o_2, ho_2, h⟩ := bnd h
    refine sp_forCs (Sf := fun (s_2 : Unit) => [some (enc d, (some 0)), some (enc draws_1, (some 1)), some (enc a_1, none), some (enc b_1, none), some (enc c_1, none), some (enc d_1, none), some (enc j_1, (some 0)), some (enc pairs_1, none), none, none, some (enc first_1, (some 0)), none]) (s0 := ()) (kk := none) (ri_seq (re_callF (by decide) (x__law_seconds hv12) rfl (ra_n (re_var1 rfl) (ra_n (re_var0 rfl) (ra_n (re_callF (by decide) (x__law_share hv11) rfl (ra_n (re_varS rfl) (ra_n (re_varS rfl) ra_nil))) ra_nil))))) (.e (.e (.e (.e (.e (.e (.e (.e (.a (.a (.e (.a .nil)))))))))))) ?_ ho_2 ?_ ?_
    · intro e_2 s_2 ctl_2 hx h
      unfold u_law_2 at h
      refine ⟨[some (enc d, (some 0)), some (enc draws_1, (some 1)), some (enc a_1, none), some (enc b_1, none), some (enc c_1, none), some (enc d_1, none), some (enc j_1, (some 0)), some (enc pairs_1, none), none, none, some (enc first_1, (some 0)), some (enc e_2, (some 0))], (bg_n rfl), ?_⟩
      obtain ⟨v13, hv13, h⟩ := bnd h
      obtain ⟨v15, hv15, h⟩ := bnd h
      rcases tif h with ⟨hb, h⟩ | ⟨hb, h⟩
      · refine sp_if_t (rt_orM (rt_not (rt_test (re_callS (x__law_deeds_are_right hv13) rfl (ra_n (re_var0 rfl) (ra_n (re_var0 rfl) ra_nil))))) (fun q h => by obtain ⟨v14, hv14, h⟩ := bnd h; exact rt_to (rt_not (rt_test (re_callS (x__law_deeds_are_right hv14) rfl (ra_n (re_var0 rfl) (ra_n (re_var0 rfl) ra_nil))))) h) hv15) hb ?_
        have h := Option.some.inj h; subst h
        exact (prt_w (sp_ret (re_c (x := false) rfl)))
      · refine sp_if_f (rt_orM (rt_not (rt_test (re_callS (x__law_deeds_are_right hv13) rfl (ra_n (re_var0 rfl) (ra_n (re_var0 rfl) ra_nil))))) (fun q h => by obtain ⟨v14, hv14, h⟩ := bnd h; exact rt_to (rt_not (rt_test (re_callS (x__law_deeds_are_right hv14) rfl (ra_n (re_var0 rfl) (ra_n (re_var0 rfl) ra_nil))))) h) hv15) hb ?_
        refine sp_end (S' := [some (enc d, (some 0)), some (enc draws_1, (some 1)), some (enc a_1, none), some (enc b_1, none), some (enc c_1, none), some (enc d_1, none), some (enc j_1, (some 0)), some (enc pairs_1, none), none, none, some (enc first_1, (some 0)), some (enc e_2, (some 0))]) sp_nilN ?_
        have h := Option.some.inj h; subst h
        exact plp_c (.e (.e (.e (.e (.e (.e (.e (.e (.a (.a (.e (.a .nil))))))))))))
    · rintro r_2 rfl
      dsimp only at h
      obtain ⟨v16, hv16, h⟩ := bnd h
      have h := Option.some.inj h; subst h
      exact (prt_w (sp_ret (re_callS (x__law_quotient_is_right hv16) rfl (ra_n (re_varS rfl) (ra_n (re_varS rfl) ra_nil)))))
    · rintro r rfl
      cases h
      exact fun _ q => q
  · rintro r rfl
    cases h
    exact fun _ q => q

end Lw
namespace Lw
open PySem PySem.Spec PyL L2 PyL.Enc
set_option autoImplicit false
def gms (s : Int × Int) : Nat := if s.2 = 0 then 0 else (s.1.natAbs * s.2.natAbs).log2 + 1 + (if s.1 < s.2 then 1 else 0)
theorem gms_lt {x y : Nat} (hy : 0 < y) : gms ((y : Int), ((x % y : Nat) : Int)) < gms ((x : Int), (y : Int)) := by
  have hr : x % y < y := Nat.mod_lt _ hy
  unfold gms
  simp only [Int.natAbs_natCast]
  rw [if_neg (show ¬ ((y : Int) = 0) by omega)]
  by_cases h0 : x % y = 0
  · rw [if_pos (show (((x % y : Nat) : Int) = 0) by omega)]; omega
  · rw [if_neg (show ¬ (((x % y : Nat) : Int) = 0) by omega), if_neg (show ¬ ((y : Int) < ((x % y : Nat) : Int)) by omega)]
    by_cases hxy : x < y
    · rw [if_pos (show ((x : Int) < (y : Int)) by omega), Nat.mod_eq_of_lt hxy, Nat.mul_comm y x]; omega
    · rw [if_neg (show ¬ ((x : Int) < (y : Int)) by omega)]
      have h1 : 2 * (y * (x % y)) ≤ x * y := by
        have : 2 * (x % y) ≤ x := by
          have := Nat.div_add_mod x y
          have hq : 1 ≤ x / y := (Nat.one_le_div_iff hy).mpr (by omega)
          have : y * 1 ≤ y * (x / y) := Nat.mul_le_mul_left _ hq
          omega
        calc 2 * (y * (x % y)) = y * (2 * (x % y)) := by rw [Nat.mul_left_comm]
          _ ≤ y * x := Nat.mul_le_mul_left _ this
          _ = x * y := Nat.mul_comm _ _
      have h2 : 0 < y * (x % y) := Nat.mul_pos hy (by omega)
      have h3 : (y * (x % y)).log2 + 1 ≤ (x * y).log2 := by
        have : 2 ^ ((y * (x % y)).log2 + 1) ≤ x * y := by
          have := Nat.log2_self_le (n := y * (x % y)) (by omega)
          rw [Nat.pow_succ]; omega
        exact (Nat.le_log2 (by omega)).mpr this
      omega
theorem lgcd_ok {a b : Int} {k : Nat} (ha : Bd k a) (hb : Bd k b) (hk : k ≤ 100000) : t__law_gcd a b = some (Int.gcd a b : Int) := by
  have absE : ∀ z : Int, (if z < 0 then -z else z) = (z.natAbs : Int) := fun z => by split <;> omega
  obtain ⟨s', e, q⟩ := zWhile_ex (t := y__law_gcd_2) (f := u__law_gcd_1) (fun s => ∃ x y : Nat, s = ((x : Int), (y : Int)) ∧ Nat.gcd x y = Nat.gcd a.natAbs b.natAbs) gms (fun s => s.1 = (Int.gcd a b : Int)) (fun s hs => by
    obtain ⟨x, y, rfl, hg⟩ := hs
    by_cases hy : y = 0
    · subst hy
      refine .inl ⟨by simp [y__law_gcd_2], ?_⟩
      show (x : Int) = _
      rw [Nat.gcd_zero_right] at hg
      rw [hg]; rfl
    · refine .inr ⟨by simp [y__law_gcd_2, hy], (((y : Nat) : Int), ((x % y : Nat) : Int)), ?_, ⟨y, x % y, rfl, ?_⟩, gms_lt (by omega)⟩
      · unfold u__law_gcd_1
        simp only [zMod_ok (show (0 : Int) < (y : Int) by omega), zb]
        rfl
      · rw [← hg, Nat.gcd_comm y (x % y), ← Nat.gcd_rec, Nat.gcd_comm]) 1000000000 ((a.natAbs : Int), (b.natAbs : Int)) ⟨a.natAbs, b.natAbs, rfl, rfl⟩ (by
    have key : gms ((a.natAbs : Int), (b.natAbs : Int)) ≤ 2 * k + 2 := by
      unfold gms
      by_cases hz : ((b.natAbs : Nat) : Int) = 0
      · rw [if_pos hz]; omega
      · rw [if_neg hz]
        simp only [Int.natAbs_natCast]
        have h1 : a.natAbs * b.natAbs < 2 ^ (k + k) := by rw [Nat.pow_add]; exact Nat.mul_lt_mul'' ha hb
        have h2 : (a.natAbs * b.natAbs).log2 ≤ k + k := by
          by_cases h0 : a.natAbs * b.natAbs = 0
          · rw [h0]; exact Nat.zero_le _
          · exact Nat.le_of_lt ((Nat.log2_lt h0).mpr h1)
        split <;> omega
    omega)
  unfold t__law_gcd
  simp only [zb, absE]
  rw [e, zb, q]

theorem zTr_x {α β : Type} {x : Exn} {s : Exn → Option β} {k : α → Option β} : zTr (some (.exn x)) s k = s x := rfl
theorem zTr_v {α β : Type} {v : α} {s : Exn → Option β} {k : α → Option β} : zTr (some (.ok v)) s k = k v := rfl
theorem zCat_t {β : Type} {s p : Option β} : zCat (some true) s p = s := rfl
/-- the common part with the sign of the denominator -/
def sg (a b : Int) : Int := if b < 0 then -(Int.gcd a b : Int) else (Int.gcd a b : Int)
def LW (a b : Int) : T2 Int Int := ⟨a / sg a b, b / sg a b⟩
theorem gcd0 {a b : Int} (hb : b ≠ 0) : 0 < (Int.gcd a b : Int) := by
  have : 0 < Int.gcd a b := Int.gcd_pos_of_ne_zero_right _ hb
  omega
theorem sg0 {a b : Int} (hb : b ≠ 0) : sg a b ≠ 0 := by
  have := gcd0 (a := a) hb
  unfold sg; split <;> omega
theorem sg_a {a b : Int} : sg a b * (a / sg a b) = a := by
  refine Int.mul_ediv_cancel' ?_
  unfold sg; split
  · exact Int.neg_dvd.mpr (Int.gcd_dvd_left ..)
  · exact Int.gcd_dvd_left ..
theorem sg_b {a b : Int} : sg a b * (b / sg a b) = b := by
  refine Int.mul_ediv_cancel' ?_
  unfold sg; split
  · exact Int.neg_dvd.mpr (Int.gcd_dvd_right ..)
  · exact Int.gcd_dvd_right ..
theorem sg_bd {a b : Int} {k : Nat} (hb : b ≠ 0) (h : Bd k b) : Bd k (sg a b) := by
  have e : (sg a b).natAbs = Int.gcd a b := by unfold sg; split <;> omega
  have : Int.gcd a b ≤ b.natAbs := Nat.le_of_dvd (by omega) (Nat.gcd_dvd_right _ _)
  unfold Bd at h ⊢
  omega
theorem div_a {a b : Int} {k : Nat} (hb : b ≠ 0) (h : Bd k b) (hk : k ≤ 4000) (k0 : 0 < k) : zDiv a (sg a b) = some (a / sg a b) := zDiv_e sg_a.symm (sg0 hb) (.inl (Nat.lt_of_lt_of_le ((sg_bd hb h).log2 k0) (by omega)))
theorem div_b {a b : Int} {k : Nat} (hb : b ≠ 0) (h : Bd k b) (hk : k ≤ 4000) (k0 : 0 < k) : zDiv b (sg a b) = some (b / sg a b) := zDiv_e sg_b.symm (sg0 hb) (.inl (Nat.lt_of_lt_of_le ((sg_bd hb h).log2 k0) (by omega)))
theorem sg_if {a b : Int} : ((if (decide (b < (0 : Int))) = true then ((some (-(Int.gcd a b : Int))).bind fun part_2 => some part_2) else some (Int.gcd a b : Int) : Option Int)) = some (sg a b) := by
  unfold sg
  by_cases q : b < 0
  · rw [if_pos (decide_eq_true q), if_pos q]; rfl
  · rw [if_neg (by simpa using q), if_neg q]
theorem low_ok {a b : Int} {k : Nat} (ha : Bd k a) (hb : Bd k b) (h0 : b ≠ 0) (hk : k ≤ 4000) (k0 : 0 < k) : t__law_lowest a b = some (LW a b) := by
  unfold t__law_lowest
  rw [lgcd_ok ha hb (by omega), zb, sg_if, zb, div_a h0 hb hk k0, zb, div_b h0 hb hk k0, zb]
  rfl
theorem frac_ok {a b : Int} {k : Nat} (hb : Bd k b) (hk : k ≤ 4000) (k0 : 0 < k) : t_fraction a b = some (if b = 0 then .exn ⟨"ZeroDivisor", []⟩ else .ok (LW a b)) := by
  unfold t_fraction
  by_cases h0 : b = 0
  · rw [if_pos (decide_eq_true h0), if_pos h0]; rfl
  · have e : ((Nat.gcd a.natAbs b.natAbs : Nat) : Int) = (Int.gcd a b : Int) := rfl
    rw [if_neg (by simpa using h0), if_neg h0, e, zb, sg_if, zb, div_a h0 hb hk k0, zb, div_b h0 hb hk k0, zb]
    rfl
theorem pair_ok {t : T2 Int Int} : t__law_is_pair t t = some true := by
  unfold t__law_is_pair t__law_is_number
  simp
  rfl
theorem bd_div {a s : Int} {k : Nat} (h : Bd k a) : Bd k (a / s) := Nat.lt_of_le_of_lt (Int.natAbs_ediv_le_natAbs a s) h
theorem mLE : m_LinkError ("ZeroDivisor" : Str) = some true := by decide +kernel
theorem qZD : q__law_is_zero_divisor ("ZeroDivisor" : Str) = some true := by decide +kernel
theorem quot_ok {a b : Int} {k : Nat} (ha : Bd k a) (hb : Bd k b) (hk : k ≤ 4000) (k0 : 0 < k) : t__law_quotient_is_right a b = some true := by
  unfold t__law_quotient_is_right
  rw [frac_ok hb hk k0]
  by_cases h0 : b = 0
  · rw [if_pos h0, zTr_x]
    show zCat (m_LinkError ("ZeroDivisor" : Str)) _ _ = _
    rw [mLE, zCat_t, decide_eq_true h0, zAnd_t]
    show (((q__law_is_zero_divisor ("ZeroDivisor" : Str)).bind _).bind _) = _
    rw [qZD, zb, zb]
  · rw [if_neg h0, zTr_v, zb, decide_eq_false h0, Bool.not_false, zAnd_t, low_ok ha hb h0 hk k0, zb, pair_ok, zb, zb]
/-- a fraction of numbers of k bits -/
structure Fr (k : Nat) (t : T2 Int Int) : Prop where
  a : Bd k t.a
  b : Bd k t.b
  z : t.b ≠ 0
theorem LW_fr {a b : Int} {k : Nat} (ha : Bd k a) (hb : Bd k b) (h0 : b ≠ 0) : Fr k (LW a b) := ⟨bd_div ha, bd_div hb, fun z => by
  have := sg_b (a := a) (b := b)
  have z : b / sg a b = 0 := z
  rw [z, Int.mul_zero] at this
  exact h0 this.symm⟩
theorem Fr.mono {k m : Nat} {t : T2 Int Int} (h : Fr k t) (hm : k ≤ m) : Fr m t := ⟨h.a.mono hm, h.b.mono hm, h.z⟩
section
variable {f s : T2 Int Int} (hf : Fr 300 f) (hs : Fr 300 s)
include hf hs
theorem over_ok : t__law_over_is_right f s = some true := by
  have m1 := zMul_b hf.a hs.b (by omega)
  have m2 := zMul_b hf.b hs.a (by omega)
  have b1 := hf.a.mul hs.b
  have b2 := hf.b.mul hs.a
  unfold t__law_over_is_right t_over
  rw [m1, zb, m2, zb, frac_ok b2 (by omega) (by omega)]
  by_cases h0 : s.a = 0
  · rw [if_pos (by rw [h0, Int.mul_zero])]
    show zTr (some (.exn ⟨"ZeroDivisor", []⟩)) _ _ = _
    rw [zTr_x]
    show zCat (m_LinkError ("ZeroDivisor" : Str)) _ _ = _
    rw [mLE, zCat_t, decide_eq_true h0, zAnd_t]
    show (((q__law_is_zero_divisor ("ZeroDivisor" : Str)).bind _).bind _) = _
    rw [qZD, zb, zb]
  · have h1 : f.b * s.a ≠ 0 := Int.mul_ne_zero hf.z h0
    rw [if_neg h1]
    show zTr (some (.ok (LW (f.a * s.b) (f.b * s.a)))) _ _ = _
    rw [zTr_v, zb, if_neg (by simpa using h0), zb, zb, low_ok b1 b2 h1 (by omega) (by omega), zb, pair_ok, zb]
theorem deeds_ok : t__law_deeds_are_right f s = some true := by
  have m1 := zMul_b hf.b hs.b (by omega)
  have m2 := zMul_b hf.a hs.b (by omega)
  have m3 := zMul_b hs.a hf.b (by omega)
  have m4 := zMul_b hf.a hs.a (by omega)
  have b1 := (hf.b.mul hs.b).mono (show 300 + 300 ≤ 601 by omega)
  have b2 := hf.a.mul hs.b
  have b3 := hs.a.mul hf.b
  have b4 := (hf.a.mul hs.a).mono (show 300 + 300 ≤ 601 by omega)
  have z1 : f.b * s.b ≠ 0 := Int.mul_ne_zero hf.z hs.z
  have e1 : t_plus f s = some (LW (f.a * s.b + s.a * f.b) (f.b * s.b)) := by
    unfold t_plus
    rw [m2, zb, m3, zb, m1, zb, frac_ok b1 (by omega) (by omega), if_neg z1]; rfl
  have e2 : t_minus f s = some (LW (f.a * s.b - s.a * f.b) (f.b * s.b)) := by
    unfold t_minus
    rw [m2, zb, m3, zb, m1, zb, frac_ok b1 (by omega) (by omega), if_neg z1]; rfl
  have e3 : t_times f s = some (LW (f.a * s.a) (f.b * s.b)) := by
    unfold t_times
    rw [m4, zb, m1, zb, frac_ok b1 (by omega) (by omega), if_neg z1]; rfl
  have e4 : t_order_of f s = some (zB2i (decide (s.a * f.b < f.a * s.b)) - zB2i (decide (f.a * s.b < s.a * f.b))) := by
    unfold t_order_of
    rw [m2, zb, m3, zb]
    by_cases q : f.a * s.b < s.a * f.b
    · rw [if_pos (decide_eq_true q), decide_eq_true q, decide_eq_false (show ¬ s.a * f.b < f.a * s.b by omega)]; rfl
    · rw [if_neg (by simpa using q), decide_eq_false q]
      show some _ = some (_ - 0)
      rw [Int.sub_zero]
  unfold t__law_deeds_are_right
  rw [m1, zb, m2, zb, m3, zb, e1, zb, low_ok (Bd.add b2 b3) b1 z1 (by omega) (by omega), zb, pair_ok, zb, if_neg (by decide), e2, zb, low_ok (Bd.sub b2 b3) b1 z1 (by omega) (by omega), zb, pair_ok, zb, if_neg (by decide), e3, zb, m4, zb, low_ok b4 b1 z1 (by omega) (by omega), zb, pair_ok, zb, if_neg (by decide), e4, zb]
  show (if (!true || !decide _) = true then _ else _) = _
  rw [decide_eq_true rfl, if_neg (by decide), over_ok hf hs, zb]
end
theorem num_ok {L : List Int} (hd : Drs L 20) {k : Int} (k0 : 0 ≤ k) (k1 : k + 2 < 20) : ∃ a, t__law_number L k = some a ∧ Bd 90 a := by
  have b0 := hd.bd k.toNat
  have b1 := hd.bd (k + 1).toNat
  have b2 := hd.bd (k + 2).toNat
  have e18 : zPow (10 : Int) (18 : Int) = some 1000000000000000000 := by decide +kernel
  have sm : ∀ z : Int, -1000000 ≤ z → z ≤ 1000000 → Bd 90 z := fun z h1 h2 => Bd.of 1000001 (by omega) (by decide)
  unfold t__law_number
  rw [hd.at k0 (by omega), zb, zMod_ok (by decide), zb]
  by_cases c0 : L.getD k.toNat 0 % 9 = 0
  · rw [if_pos (decide_eq_true c0)]; exact ⟨0, rfl, sm 0 (by omega) (by omega)⟩
  · rw [if_neg (by simpa using c0), hd.at (by omega) (by omega), zb]
    by_cases c1 : L.getD k.toNat 0 % 9 = 1 ∨ L.getD k.toNat 0 % 9 = 2
    · rw [if_pos (by simpa using c1)]
      exact ⟨_, rfl, sm _ (by omega) (by omega)⟩
    · rw [if_neg (by simpa using c1)]
      by_cases c2 : L.getD k.toNat 0 % 9 = 3 ∨ L.getD k.toNat 0 % 9 = 4
      · rw [if_pos (by simpa using c2), zb, e18, zb, hd.at (by omega) (by omega), zb, zMul_ok (by omega) (by omega) (by omega) (by omega), zb]
        refine ⟨_, rfl, ?_⟩
        have x1 : Bd 20 (L.getD (k + 1).toNat 0 - 500000) := Bd.of 600000 (by omega) (by decide)
        have x2 : Bd 60 ((1000000000000000000 : Int) + L.getD (k + 2).toNat 0) := Bd.of 1000000000001000004 (by omega) (by decide)
        exact (x1.mul x2).mono (by omega)
      · rw [if_neg (by simpa using c2), zb, zMod_ok (by decide), zb]
        exact ⟨_, rfl, sm _ (by omega) (by omega)⟩
theorem share_ok {a b : Int} (ha : Bd 90 a) (hb : Bd 90 b) : ∃ t, t__law_share a b = some t ∧ Fr 90 t := by
  unfold t__law_share
  have one : Bd 90 (1 : Int) := Bd.of 2 (by decide) (by decide)
  by_cases h0 : b = 0
  · rw [if_pos (decide_eq_true h0), low_ok ha one (by decide) (by omega) (by omega), zb]
    exact ⟨_, rfl, LW_fr ha one (by decide)⟩
  · rw [if_neg (by simpa using h0), low_ok ha hb h0 (by omega) (by omega), zb]
    exact ⟨_, rfl, LW_fr ha hb h0⟩
theorem law_true {L : List Int} (h1 : OkN L) (h2 : L.length = 20) : t_law L = some true := by
  have hd : Drs L 20 := ⟨h2, h1⟩
  obtain ⟨a, ea, ha⟩ := num_ok hd (k := 0) (by decide) (by decide)
  obtain ⟨b, eb, hb⟩ := num_ok hd (k := 3) (by decide) (by decide)
  obtain ⟨c, ec, hc⟩ := num_ok hd (k := 6) (by decide) (by decide)
  obtain ⟨e, ee, he⟩ := num_ok hd (k := 9) (by decide) (by decide)
  have d12 := hd.bd (12 : Int).toNat
  have d13 := hd.bd (13 : Int).toNat
  obtain ⟨m, em, hm⟩ : ∃ m : Int, ((if (decide (L.getD (12 : Int).toNat 0 % 13 - 6 = (0 : Int))) = true then ((some (7 : Int)).bind fun m_2 => some m_2) else some (L.getD (12 : Int).toNat 0 % 13 - 6) : Option Int)) = some m ∧ Bd 4 m := by
    by_cases q : L.getD (12 : Int).toNat 0 % 13 - 6 = 0
    · rw [if_pos (decide_eq_true q)]; exact ⟨7, rfl, Bd.of 8 (by decide) (by decide)⟩
    · rw [if_neg (by simpa using q)]; exact ⟨_, rfl, Bd.of 8 (by omega) (by decide)⟩
  have B : ∀ z : Int, Bd 90 z → Bd 94 z := fun z h => h.mono (by omega)
  have b0 : Bd 94 (0 : Int) := Bd.of 1 (by decide) (by decide)
  have neg : ∀ z : Int, Bd 90 z → Bd 94 (-z) := fun z h => B _ (by unfold Bd at h ⊢; omega)
  have ep : zForC u_law_1 ([(⟨a, b⟩ : (T2 Int Int)), (⟨c, e⟩ : (T2 Int Int)), (⟨a * m, b * m⟩ : (T2 Int Int)), (⟨a, (0 : Int)⟩ : (T2 Int Int)), (⟨(0 : Int), b⟩ : (T2 Int Int)), (⟨(-a), b⟩ : (T2 Int Int)), (⟨a, (-b)⟩ : (T2 Int Int)), (⟨(-a), (-b)⟩ : (T2 Int Int)), (⟨(0 : Int), (0 : Int)⟩ : (T2 Int Int)), (⟨b, a⟩ : (T2 Int Int)), (⟨a, b⟩ : (T2 Int Int))] : (List (T2 Int Int))) () = some (.inl ()) := zForC_unit fun t ht => by
    have ht2 : Bd 94 t.a ∧ Bd 94 t.b := by
      simp only [List.mem_cons, List.not_mem_nil, or_false] at ht
      rcases ht with rfl | rfl | rfl | rfl | rfl | rfl | rfl | rfl | rfl | rfl | rfl
      · exact ⟨B _ ha, B _ hb⟩
      · exact ⟨B _ hc, B _ he⟩
      · exact ⟨ha.mul hm, hb.mul hm⟩
      · exact ⟨B _ ha, b0⟩
      · exact ⟨b0, B _ hb⟩
      · exact ⟨neg _ ha, B _ hb⟩
      · exact ⟨B _ ha, neg _ hb⟩
      · exact ⟨neg _ ha, neg _ hb⟩
      · exact ⟨b0, b0⟩
      · exact ⟨B _ hb, B _ ha⟩
      · exact ⟨B _ ha, B _ hb⟩
    unfold u_law_1
    rw [quot_ok ht2.1 ht2.2 (by omega) (by omega), zb, if_neg (by decide)]
  obtain ⟨f, ef, hf⟩ := share_ok ha hb
  obtain ⟨s, es, hs⟩ := share_ok hc he
  have v1 : Bd 5 ((1 : Int) + L.getD (13 : Int).toNat 0 % 30) := Bd.of 31 (by omega) (by decide)
  have x1 := hf.b.mul v1
  have x2 := hf.a.mul x1
  have x3 := hf.b.mul x1
  have one : Bd (90 + (90 + 5)) (1 : Int) := Bd.of 2 (by decide) (by decide)
  have vz : (1 : Int) + L.getD (13 : Int).toNat 0 % 30 ≠ 0 := by omega
  have z3 : f.b * (f.b * (1 + L.getD (13 : Int).toNat 0 % 30)) ≠ 0 := Int.mul_ne_zero hf.z (Int.mul_ne_zero hf.z vz)
  have l1 := low_ok (Bd.add x2 one) (x3.mono (show _ ≤ 90 + (90 + 5) + 1 by omega)) z3 (by omega) (by omega)
  have l2 := low_ok (Bd.sub x2 one) (x3.mono (show _ ≤ 90 + (90 + 5) + 1 by omega)) z3 (by omega) (by omega)
  have f1 := (LW_fr (Bd.add x2 one) (x3.mono (show _ ≤ 90 + (90 + 5) + 1 by omega)) z3).mono (show _ ≤ 300 by omega)
  have f2 := (LW_fr (Bd.sub x2 one) (x3.mono (show _ ≤ 90 + (90 + 5) + 1 by omega)) z3).mono (show _ ≤ 300 by omega)
  have F300 := hf.mono (show 90 ≤ 300 by omega)
  have S300 := hs.mono (show 90 ≤ 300 by omega)
  have e12 : t__law_seconds L f s = some ([s, f, (⟨(-f.a), f.b⟩ : (T2 Int Int)), (⟨(0 : Int), (1 : Int)⟩ : (T2 Int Int)), (⟨(1 : Int), (1 : Int)⟩ : (T2 Int Int)), LW (f.a * (f.b * (1 + L.getD (13 : Int).toNat 0 % 30)) + 1) (f.b * (f.b * (1 + L.getD (13 : Int).toNat 0 % 30))), LW (f.a * (f.b * (1 + L.getD (13 : Int).toNat 0 % 30)) - 1) (f.b * (f.b * (1 + L.getD (13 : Int).toNat 0 % 30))), (⟨(f.a + f.b), f.b⟩ : (T2 Int Int))] : (List (T2 Int Int))) := by
    unfold t__law_seconds
    rw [hd.at (by decide) (by decide), zb, zMod_ok (by decide), zb, zMul_b hf.b v1 (by omega), zb, zMul_b hf.a x1 (by omega), zb, zMul_b hf.b x1 (by omega), zb, l1, zb, zb, zb, l2, zb]
  have es2 : zForC (u_law_2 f) ([s, f, (⟨(-f.a), f.b⟩ : (T2 Int Int)), (⟨(0 : Int), (1 : Int)⟩ : (T2 Int Int)), (⟨(1 : Int), (1 : Int)⟩ : (T2 Int Int)), LW (f.a * (f.b * (1 + L.getD (13 : Int).toNat 0 % 30)) + 1) (f.b * (f.b * (1 + L.getD (13 : Int).toNat 0 % 30))), LW (f.a * (f.b * (1 + L.getD (13 : Int).toNat 0 % 30)) - 1) (f.b * (f.b * (1 + L.getD (13 : Int).toNat 0 % 30))), (⟨(f.a + f.b), f.b⟩ : (T2 Int Int))] : (List (T2 Int Int))) () = some (.inl ()) := zForC_unit fun t ht => by
    have ht2 : Fr 300 t := by
      simp only [List.mem_cons, List.not_mem_nil, or_false] at ht
      have one3 : Bd 300 (1 : Int) := Bd.of 2 (by decide) (by decide)
      rcases ht with rfl | rfl | rfl | rfl | rfl | rfl | rfl | rfl
      · exact S300
      · exact F300
      · exact ⟨by have := F300.a; unfold Bd at this ⊢; show (-f.a).natAbs < _; omega, F300.b, F300.z⟩
      · exact ⟨Bd.of 1 (by decide) (by decide), one3, by decide⟩
      · exact ⟨one3, one3, by decide⟩
      · exact f1
      · exact f2
      · exact ⟨(Bd.add hf.a hf.b).mono (by omega), F300.b, F300.z⟩
    unfold u_law_2
    rw [deeds_ok F300 ht2, zb, Bool.not_true, zOr_f, deeds_ok ht2 F300, zb, zb, if_neg (by decide)]
  unfold t_law
  rw [zb, ea, zb, eb, zb, ec, zb, ee, zb, hd.at (by decide) (by decide), zb, zMod_ok (by decide), zb, zb, em, zb, zMul_b ha hm (by omega), zb, zMul_b hb hm (by omega), zb, zb, ep, zb]
  simp only
  rw [ef, zb, es, zb, e12, zb, es2, zb]
  simp only
  rw [quot_ok ha hb (by omega) (by omega), zb]
end Lw

namespace Lw
open PySem PySem.Spec PyL L2 PyL.Enc
set_option autoImplicit false
structure Top (P : Program) (K : PySem.W.Frag) (mg : Str → Option Value) : Prop where
  c_ZeroDivisor : ∃ C, ErrC P K mg "ZeroDivisor" [] C
  k_ZeroDivisor : ∀ C, mg "ZeroDivisor" = some (.ref C) → ErrK K (kf "ZeroDivisor") C
  g_LinkError : ∃ c, mg "LinkError" = some (.ref c)
  x_ZeroDivisor_LinkError : ∀ C, mg "ZeroDivisor" = some (.ref C) → ∀ c, mg "LinkError" = some (.ref c) → PySem.W.exmOne K (.ref C) (.ref c) = some true
  i_ZeroDivisor_LinkError : ∀ C, mg "ZeroDivisor" = some (.ref C) → ∀ c, mg "LinkError" = some (.ref c) → PySem.W.kitOne K (.ref C) (.ref c) = some true
  g_ZeroDivisor : ∃ c, mg "ZeroDivisor" = some (.ref c)
  x_ZeroDivisor_ZeroDivisor : ∀ C, mg "ZeroDivisor" = some (.ref C) → ∀ c, mg "ZeroDivisor" = some (.ref c) → PySem.W.exmOne K (.ref C) (.ref c) = some true
  i_ZeroDivisor_ZeroDivisor : ∀ C, mg "ZeroDivisor" = some (.ref C) → ∀ c, mg "ZeroDivisor" = some (.ref c) → PySem.W.kitOne K (.ref C) (.ref c) = some true
  i_ZeroDivisor_ValueError : ∀ C, mg "ZeroDivisor" = some (.ref C) → PySem.W.kitOne K (.ref C) (.type "ValueError") = some true
  f_fraction : TopF K mg "fraction" s_fraction
  f_order_of : TopF K mg "order_of" s_order_of
  f__law_draws : TopF K mg "_law_draws" s__law_draws
  f__law_is_number : TopF K mg "_law_is_number" s__law_is_number
  f__law_gcd : TopF K mg "_law_gcd" s__law_gcd
  f__law_number : TopF K mg "_law_number" s__law_number
  f__law_is_zero_divisor : TopF K mg "_law_is_zero_divisor" s__law_is_zero_divisor
  f_plus : TopF K mg "plus" s_plus
  f_minus : TopF K mg "minus" s_minus
  f_times : TopF K mg "times" s_times
  f_over : TopF K mg "over" s_over
  f__law_lowest : TopF K mg "_law_lowest" s__law_lowest
  f__law_is_pair : TopF K mg "_law_is_pair" s__law_is_pair
  f__law_quotient_is_right : TopF K mg "_law_quotient_is_right" s__law_quotient_is_right
  f__law_over_is_right : TopF K mg "_law_over_is_right" s__law_over_is_right
  f__law_share : TopF K mg "_law_share" s__law_share
  f__law_seconds : TopF K mg "_law_seconds" s__law_seconds
  f__law_deeds_are_right : TopF K mg "_law_deeds_are_right" s__law_deeds_are_right
  f_law : TopF K mg "law" s_law
  z_ValueError : mg "ValueError" = none
  z_abs : mg "abs" = none
  z_bool : mg "bool" = none
  z_gcd : mg "gcd" = some (.builtin "math.gcd")
  z_int : mg "int" = none
  z_isinstance : mg "isinstance" = none
  z_len : mg "len" = none
  z_range : mg "range" = none
  z_tuple : mg "tuple" = none
theorem sc_fraction : FnScope ["numerator", "denominator", "part"] ["numerator", "denominator"] (defScope s_fraction) := ⟨rfl, rfl, rfl, by decide +kernel, rfl, by decide +kernel, by decide +kernel⟩
theorem sc_order_of : FnScope ["first", "second", "left", "right"] ["first", "second"] (defScope s_order_of) := ⟨rfl, rfl, rfl, by decide +kernel, rfl, by decide +kernel, by decide +kernel⟩
theorem sc__law_draws : FnScope ["script", "many", "found", "cell", "number", "k", "mixed", "base"] ["script", "many"] (defScope s__law_draws) := ⟨rfl, rfl, rfl, by decide +kernel, rfl, by decide +kernel, by decide +kernel⟩
theorem sc__law_is_number : FnScope ["value"] ["value"] (defScope s__law_is_number) := ⟨rfl, rfl, rfl, by decide +kernel, rfl, by decide +kernel, by decide +kernel⟩
theorem sc__law_gcd : FnScope ["first", "second", "rest"] ["first", "second"] (defScope s__law_gcd) := ⟨rfl, rfl, rfl, by decide +kernel, rfl, by decide +kernel, by decide +kernel⟩
theorem sc__law_number : FnScope ["draws", "k", "choice"] ["draws", "k"] (defScope s__law_number) := ⟨rfl, rfl, rfl, by decide +kernel, rfl, by decide +kernel, by decide +kernel⟩
theorem sc__law_is_zero_divisor : FnScope ["error"] ["error"] (defScope s__law_is_zero_divisor) := ⟨rfl, rfl, rfl, by decide +kernel, rfl, by decide +kernel, by decide +kernel⟩
theorem sc_plus : FnScope ["first", "second"] ["first", "second"] (defScope s_plus) := ⟨rfl, rfl, rfl, by decide +kernel, rfl, by decide +kernel, by decide +kernel⟩
theorem sc_minus : FnScope ["first", "second"] ["first", "second"] (defScope s_minus) := ⟨rfl, rfl, rfl, by decide +kernel, rfl, by decide +kernel, by decide +kernel⟩
theorem sc_times : FnScope ["first", "second"] ["first", "second"] (defScope s_times) := ⟨rfl, rfl, rfl, by decide +kernel, rfl, by decide +kernel, by decide +kernel⟩
theorem sc_over : FnScope ["first", "second"] ["first", "second"] (defScope s_over) := ⟨rfl, rfl, rfl, by decide +kernel, rfl, by decide +kernel, by decide +kernel⟩
theorem sc__law_lowest : FnScope ["top", "bottom", "part"] ["top", "bottom"] (defScope s__law_lowest) := ⟨rfl, rfl, rfl, by decide +kernel, rfl, by decide +kernel, by decide +kernel⟩
theorem sc__law_is_pair : FnScope ["value", "due"] ["value", "due"] (defScope s__law_is_pair) := ⟨rfl, rfl, rfl, by decide +kernel, rfl, by decide +kernel, by decide +kernel⟩
theorem sc__law_quotient_is_right : FnScope ["top", "bottom", "told", "e"] ["top", "bottom"] (defScope s__law_quotient_is_right) := ⟨rfl, rfl, rfl, by decide +kernel, rfl, by decide +kernel, by decide +kernel⟩
theorem sc__law_over_is_right : FnScope ["first", "second", "told", "e"] ["first", "second"] (defScope s__law_over_is_right) := ⟨rfl, rfl, rfl, by decide +kernel, rfl, by decide +kernel, by decide +kernel⟩
theorem sc__law_share : FnScope ["top", "bottom"] ["top", "bottom"] (defScope s__law_share) := ⟨rfl, rfl, rfl, by decide +kernel, rfl, by decide +kernel, by decide +kernel⟩
theorem sc__law_seconds : FnScope ["draws", "first", "second", "hair", "above", "below"] ["draws", "first", "second"] (defScope s__law_seconds) := ⟨rfl, rfl, rfl, by decide +kernel, rfl, by decide +kernel, by decide +kernel⟩
theorem sc__law_deeds_are_right : FnScope ["first", "second", "bottom", "left", "right", "told"] ["first", "second"] (defScope s__law_deeds_are_right) := ⟨rfl, rfl, rfl, by decide +kernel, rfl, by decide +kernel, by decide +kernel⟩
theorem sc_law : FnScope ["script", "draws", "a", "b", "c", "d", "m", "pairs", "top", "bottom", "first", "second"] ["script"] (defScope s_law) := ⟨rfl, rfl, rfl, by decide +kernel, rfl, by decide +kernel, by decide +kernel⟩
section
variable {P : Program} {w : World} {K : PySem.W.Frag} {mg : Str → Option Value} {base : Heap}
theorem calh__law_is_zero_divisor (T : Top P K mg) : CalH P w K mg base 1 "_law_is_zero_divisor" 1 d__law_is_zero_divisor := by
  have nd := (sc__law_is_zero_divisor).nd
  have z_isinstance := T.z_isinstance
  refine cal_mkH (k := 0) T.f__law_is_zero_divisor sc__law_is_zero_divisor rfl (by decide) (fun _ _ _ _ _ _ us hl => match us, hl with | [_], _ => rfl) fun f cdv A outer s H E p hr hu hc => ?_
  have hv := hu
  replace hu := un62 hu
  exact b_one (s_bad)
end
section
variable {P : Program} {w : World} {K : PySem.W.Frag} {mg : Str → Option Value} {base : Heap}
theorem calx_fraction (T : Top P K mg) : CalX P w K mg base 1 "fraction" 2 d_fraction := by
  have nd := (sc_fraction).nd
  have z_gcd := T.z_gcd
  obtain ⟨C_ZeroDivisor, TE_ZeroDivisor⟩ := T.c_ZeroDivisor
  refine cal_mkX (k := 0) T.f_fraction sc_fraction rfl (by decide) (fun _ _ _ _ _ _ us hl => match us, hl with | [_, _], _ => rfl) fun f cdv A outer s H E hr hu tk => ?_
  have hv := hu
  replace hu := un62 hu
  exact b_cons (s_if (t_cmp (or_eq hu) ok_eq (e_var 1) (e_int) (nomark _)) (b_one (s_raise0 TE_ZeroDivisor hr rfl tk (by rfl))) (b_nil))
    (b_cons (s_set (i := 2) nd rfl (by first | exact .inl rfl | exact .inr rfl) (e_callBfun cr_gcd ok_gcd (by rfl) z_gcd (a_cons (e_var 0) (a_cons (e_var 1) (a_nil)))))
    (b_cons (s_if (t_cmp op_lt ok_lt (e_var 1) (e_int) (nomark _)) (b_one (s_set (i := 2) nd rfl (by first | exact .inl rfl | exact .inr rfl) (e_neg (e_var 2)))) (b_nil))
    (b_one (s_ret (e_tup (a_cons (e_bin op_fdivL ok_div (e_var 0) (e_var 2)) (a_cons (e_bin op_fdivL ok_div (e_var 1) (e_var 2)) (a_nil))))))))
theorem cal_fraction (T : Top P K mg) : CalD P w K mg base 1 "fraction" 2 d_fraction := (calx_fraction T).calD
theorem cal_order_of (T : Top P K mg) : CalD P w K mg base 1 "order_of" 2 d_order_of := by
  have nd := (sc_order_of).nd
  have z_int := T.z_int
  refine cal_mk (k := 0) T.f_order_of sc_order_of rfl (by decide) (fun _ _ _ _ _ _ us hl => match us, hl with | [_, _], _ => rfl) fun f cdv A outer s H E hr hu => ?_
  have hv := hu
  replace hu := un62 hu
  exact b_cons (s_set (i := 2) nd rfl (by first | exact .inl rfl | exact .inr rfl) (e_bin (op_mulL.or op_rep) ok_mul (e_ix (e_var 0) (e_int)) (e_ix (e_var 1) (e_int))))
    (b_cons (s_set (i := 3) nd rfl (by first | exact .inl rfl | exact .inr rfl) (e_bin (op_mulL.or op_rep) ok_mul (e_ix (e_var 1) (e_int)) (e_ix (e_var 0) (e_int))))
    (b_cons (s_if (t_cmp op_lt ok_lt (e_var 2) (e_var 3) (nomark _)) (b_one (s_ret (e_neg (e_int)))) (b_nil))
    (b_one (s_ret (e_callTy call_int1 ok_int (by rfl) z_int PyProof.Rows.boot_int (a_cons (e_cmp op_gt ok_gt (e_var 2) (e_var 3) (nomark _)) (a_nil)))))))
theorem cal__law_draws (T : Top P K mg) : CalD P w K mg base 1 "_law_draws" 2 (d__law_draws K) := by
  have nd := (sc__law_draws).nd
  have z_abs := T.z_abs
  have z_int := T.z_int
  have z_len := T.z_len
  have z_range := T.z_range
  refine cal_mk (k := 0) T.f__law_draws sc__law_draws rfl (by decide) (fun _ _ _ _ _ _ us hl => match us, hl with | [_, _], _ => rfl) fun f cdv A outer s H E hr hu => ?_
  have hv := hu
  replace hu := un62 hu
  exact b_cons (s_set (i := 2) nd rfl (by first | exact .inl rfl | exact .inr rfl) e_lstE)
    (b_cons (s_for (vs := [3]) PassesOwn.never rfl (i_seq (e_slK (e_var 0) (o_none) (o_some (e_int)))) (g_name 3 nd rfl (by first | exact .inl rfl | exact .inr rfl) (by decide)) (b_cons (s_set (i := 4) nd rfl (by first | exact .inl rfl | exact .inr rfl) (e_callB call_abs ok_abs (by rfl) z_abs PyProof.Rows.boot_abs (a_cons (e_callTy call_int1 ok_int (by rfl) z_int PyProof.Rows.boot_int (a_cons (e_var 3) (a_nil))) (a_nil))))
    (b_one (s_if (t_cmp op_ge ok_ge (e_var 4) (e_bin op_pow ok_pow (e_int) (e_int)) (nomark _)) (b_one (s_for (vs := [5]) PassesOwn.never rfl (i_rng1 (by rfl) z_range (a_cons (e_int) (a_nil))) (g_name 5 nd rfl (by first | exact .inl rfl | exact .inr rfl) (by decide)) (b_one (s_if (t_cmp op_gt ok_gt (e_var 4) (e_int) (nomark _)) (b_cons (s_app 2 (e_bin op_modN ok_mod (e_var 4) (e_int)) (pe_bm PySem.F.plainAttrs_list PySem.F.slot_list_append PySem.F.type_list_append mt_append (pv 2) (pa_cons (e_bin op_modN ok_mod (e_var 4) (e_int)) pa_nil)))
    (b_one (s_set (i := 4) nd rfl (by first | exact .inl rfl | exact .inr rfl) (e_bin op_fdivL ok_div (e_var 4) (e_int))))) (b_nil))))) (b_cons (s_set (i := 6) nd rfl (by first | exact .inl rfl | exact .inr rfl) (e_bin op_modN ok_mod (e_bin or_add ok_add (e_bin or_add ok_add (e_bin (op_mulL.or op_rep) ok_mul (e_var 4) (e_int)) (e_bin (op_mulL.or op_rep) ok_mul (e_int) (e_callB cr_len ok_len (by rfl) z_len PySem.boot_len (a_cons (e_var 2) (a_nil))))) (e_int)) (e_int)))
    (b_one (s_for (vs := [5]) PassesOwn.never rfl (i_rng1 (by rfl) z_range (a_cons (e_int) (a_nil))) (g_name 5 nd rfl (by first | exact .inl rfl | exact .inr rfl) (by decide)) (b_cons (s_set (i := 6) nd rfl (by first | exact .inl rfl | exact .inr rfl) (e_bin op_modN ok_mod (e_bin or_add ok_add (e_bin or_add ok_add (e_bin or_add ok_add (e_bin (op_mulL.or op_rep) ok_mul (e_var 6) (e_int)) (e_bin op_fdivL ok_div (e_var 6) (e_int))) (e_bin (op_mulL.or op_rep) ok_mul (e_int) (e_var 5))) (e_int)) (e_int)))
    (b_one (s_app 2 (e_bin op_modN ok_mod (e_bin op_fdivL ok_div (e_var 6) (e_int)) (e_int)) (pe_bm PySem.F.plainAttrs_list PySem.F.slot_list_append PySem.F.type_list_append mt_append (pv 2) (pa_cons (e_bin op_modN ok_mod (e_bin op_fdivL ok_div (e_var 6) (e_int)) (e_int)) pa_nil))))))))))))
    (b_cons (s_for (vs := [5]) PassesOwn.never rfl (i_rng1 (by rfl) z_range (a_cons (e_var 1) (a_nil))) (g_name 5 nd rfl (by first | exact .inl rfl | exact .inr rfl) (by decide)) (b_one (s_if (t_cmp op_lt ok_lt (e_callB cr_len ok_len (by rfl) z_len PySem.boot_len (a_cons (e_var 2) (a_nil))) (e_var 1) (nomark _)) (b_cons (s_set (i := 7) nd rfl (by first | exact .inl rfl | exact .inr rfl) (e_int))
    (b_cons (s_if (t_cmp op_gt ok_gt (e_callB cr_len ok_len (by rfl) z_len PySem.boot_len (a_cons (e_var 2) (a_nil))) (e_int) (nomark _)) (b_one (s_set (i := 7) nd rfl (by first | exact .inl rfl | exact .inr rfl) (e_ix (e_var 2) (e_bin op_modN ok_mod (e_var 5) (e_callB cr_len ok_len (by rfl) z_len PySem.boot_len (a_cons (e_var 2) (a_nil))))))) (b_nil))
    (b_one (s_app 2 (e_bin op_modN ok_mod (e_bin or_add ok_add (e_bin or_add ok_add (e_bin (op_mulL.or op_rep) ok_mul (e_var 7) (e_int)) (e_bin (op_mulL.or op_rep) ok_mul (e_int) (e_callB cr_len ok_len (by rfl) z_len PySem.boot_len (a_cons (e_var 2) (a_nil))))) (e_int)) (e_int)) (pe_bm PySem.F.plainAttrs_list PySem.F.slot_list_append PySem.F.type_list_append mt_append (pv 2) (pa_cons (e_bin op_modN ok_mod (e_bin or_add ok_add (e_bin or_add ok_add (e_bin (op_mulL.or op_rep) ok_mul (e_var 7) (e_int)) (e_bin (op_mulL.or op_rep) ok_mul (e_int) (e_callB cr_len ok_len (by rfl) z_len PySem.boot_len (a_cons (e_var 2) (a_nil))))) (e_int)) (e_int)) pa_nil)))))) (b_nil))))
    (b_one (s_ret (e_sl (e_var 2) (o_none) (o_some (e_var 1)))))))
theorem cal__law_is_number (T : Top P K mg) : CalD P w K mg base 1 "_law_is_number" 1 d__law_is_number := by
  have nd := (sc__law_is_number).nd
  have z_bool := T.z_bool
  have z_int := T.z_int
  have z_isinstance := T.z_isinstance
  refine cal_mk (k := 0) T.f__law_is_number sc__law_is_number rfl (by decide) (fun _ _ _ _ _ _ us hl => match us, hl with | [_], _ => rfl) fun f cdv A outer s H E hr hu => ?_
  have hv := hu
  replace hu := un62 hu
  exact b_one (s_ret (e_and (e_isi (T := "int") (.inl rfl) (by rfl) z_isinstance (by rfl) z_int PyProof.Rows.boot_int (e_var 0)) (e_one (e_not (e_isi (T := "bool") (.inr (.inl rfl)) (by rfl) z_isinstance (by rfl) z_bool PyProof.Rows.boot_bool (e_var 0))))))
theorem cal__law_gcd (T : Top P K mg) : CalD P w K mg base 1 "_law_gcd" 2 d__law_gcd := by
  have nd := (sc__law_gcd).nd
  have z_abs := T.z_abs
  refine cal_mk (k := 0) T.f__law_gcd sc__law_gcd rfl (by decide) (fun _ _ _ _ _ _ us hl => match us, hl with | [_, _], _ => rfl) fun f cdv A outer s H E hr hu => ?_
  have hv := hu
  replace hu := un62 hu
  exact b_cons (s_set (i := 0) nd rfl (by first | exact .inl rfl | exact .inr rfl) (e_callB call_abs ok_abs (by rfl) z_abs PyProof.Rows.boot_abs (a_cons (e_var 0) (a_nil))))
    (b_cons (s_set (i := 1) nd rfl (by first | exact .inl rfl | exact .inr rfl) (e_callB call_abs ok_abs (by rfl) z_abs PyProof.Rows.boot_abs (a_cons (e_var 1) (a_nil))))
    (b_cons (s_while 1000000000 PassesOwn.never (t_cmp (or_ne hu) ok_ne (e_var 1) (e_int) (nomark _)) (b_cons (s_set (i := 2) nd rfl (by first | exact .inl rfl | exact .inr rfl) (e_bin op_modN ok_mod (e_var 0) (e_var 1)))
    (b_cons (s_set (i := 0) nd rfl (by first | exact .inl rfl | exact .inr rfl) (e_var 1))
    (b_one (s_set (i := 1) nd rfl (by first | exact .inl rfl | exact .inr rfl) (e_var 2))))))
    (b_one (s_retV 0))))
theorem cal__law_number (T : Top P K mg) : CalD P w K mg base 1 "_law_number" 2 d__law_number := by
  have nd := (sc__law_number).nd
  refine cal_mk (k := 0) T.f__law_number sc__law_number rfl (by decide) (fun _ _ _ _ _ _ us hl => match us, hl with | [_, _], _ => rfl) fun f cdv A outer s H E hr hu => ?_
  have hv := hu
  replace hu := un62 hu
  exact b_cons (s_set (i := 2) nd rfl (by first | exact .inl rfl | exact .inr rfl) (e_bin op_modN ok_mod (e_ix (e_var 0) (e_var 1)) (e_int)))
    (b_cons (s_if (t_cmp (or_eq hu) ok_eq (e_var 2) (e_int) (nomark _)) (b_one (s_ret (e_int))) (b_nil))
    (b_cons (s_if (t_w (w_or (t_cmp (or_eq hu) ok_eq (e_var 2) (e_int) (nomark _)) (w_or1 (t_cmp (or_eq hu) ok_eq (e_var 2) (e_int) (nomark _))))) (b_one (s_ret (e_bin op_sub ok_sub (e_ix (e_var 0) (e_bin or_add ok_add (e_var 1) (e_int))) (e_int)))) (b_nil))
    (b_cons (s_if (t_w (w_or (t_cmp (or_eq hu) ok_eq (e_var 2) (e_int) (nomark _)) (w_or1 (t_cmp (or_eq hu) ok_eq (e_var 2) (e_int) (nomark _))))) (b_one (s_ret (e_bin (op_mulL.or op_rep) ok_mul (e_bin op_sub ok_sub (e_ix (e_var 0) (e_bin or_add ok_add (e_var 1) (e_int))) (e_int)) (e_bin or_add ok_add (e_bin op_pow ok_pow (e_int) (e_int)) (e_ix (e_var 0) (e_bin or_add ok_add (e_var 1) (e_int))))))) (b_nil))
    (b_one (s_ret (e_bin op_sub ok_sub (e_bin op_modN ok_mod (e_ix (e_var 0) (e_bin or_add ok_add (e_var 1) (e_int))) (e_int)) (e_int)))))))
theorem cal__law_is_zero_divisor (T : Top P K mg) : CalD P w K mg base 1 "_law_is_zero_divisor" 1 d__law_is_zero_divisor := by
  have nd := (sc__law_is_zero_divisor).nd
  have z_isinstance := T.z_isinstance
  refine cal_mk (k := 0) T.f__law_is_zero_divisor sc__law_is_zero_divisor rfl (by decide) (fun _ _ _ _ _ _ us hl => match us, hl with | [_], _ => rfl) fun f cdv A outer s H E hr hu => ?_
  have hv := hu
  replace hu := un62 hu
  exact b_one (s_bad)
theorem cal_plus (T : Top P K mg) : CalD P w K mg base 2 "plus" 2 d_plus := by
  have nd := (sc_plus).nd
  have C_fraction := cal_fraction (P := P) (w := w) (base := base) T
  refine cal_mk (k := 1) T.f_plus sc_plus rfl (by decide) (fun _ _ _ _ _ _ us hl => match us, hl with | [_, _], _ => rfl) fun f cdv A outer s H E hr hu => ?_
  have hv := hu
  replace hu := un62 hu
  exact b_one (s_ret (e_cal (C_fraction) hr (by decide) (by rfl) (a_cons (e_bin or_add ok_add (e_bin (op_mulL.or op_rep) ok_mul (e_ix (e_var 0) (e_int)) (e_ix (e_var 1) (e_int))) (e_bin (op_mulL.or op_rep) ok_mul (e_ix (e_var 1) (e_int)) (e_ix (e_var 0) (e_int)))) (a_cons (e_bin (op_mulL.or op_rep) ok_mul (e_ix (e_var 0) (e_int)) (e_ix (e_var 1) (e_int))) (a_nil)))))
theorem cal_minus (T : Top P K mg) : CalD P w K mg base 2 "minus" 2 d_minus := by
  have nd := (sc_minus).nd
  have C_fraction := cal_fraction (P := P) (w := w) (base := base) T
  refine cal_mk (k := 1) T.f_minus sc_minus rfl (by decide) (fun _ _ _ _ _ _ us hl => match us, hl with | [_, _], _ => rfl) fun f cdv A outer s H E hr hu => ?_
  have hv := hu
  replace hu := un62 hu
  exact b_one (s_ret (e_cal (C_fraction) hr (by decide) (by rfl) (a_cons (e_bin op_sub ok_sub (e_bin (op_mulL.or op_rep) ok_mul (e_ix (e_var 0) (e_int)) (e_ix (e_var 1) (e_int))) (e_bin (op_mulL.or op_rep) ok_mul (e_ix (e_var 1) (e_int)) (e_ix (e_var 0) (e_int)))) (a_cons (e_bin (op_mulL.or op_rep) ok_mul (e_ix (e_var 0) (e_int)) (e_ix (e_var 1) (e_int))) (a_nil)))))
theorem cal_times (T : Top P K mg) : CalD P w K mg base 2 "times" 2 d_times := by
  have nd := (sc_times).nd
  have C_fraction := cal_fraction (P := P) (w := w) (base := base) T
  refine cal_mk (k := 1) T.f_times sc_times rfl (by decide) (fun _ _ _ _ _ _ us hl => match us, hl with | [_, _], _ => rfl) fun f cdv A outer s H E hr hu => ?_
  have hv := hu
  replace hu := un62 hu
  exact b_one (s_ret (e_cal (C_fraction) hr (by decide) (by rfl) (a_cons (e_bin (op_mulL.or op_rep) ok_mul (e_ix (e_var 0) (e_int)) (e_ix (e_var 1) (e_int))) (a_cons (e_bin (op_mulL.or op_rep) ok_mul (e_ix (e_var 0) (e_int)) (e_ix (e_var 1) (e_int))) (a_nil)))))
theorem calx_over (T : Top P K mg) : CalX P w K mg base 2 "over" 2 d_over := by
  have nd := (sc_over).nd
  have CX_fraction := calx_fraction (P := P) (w := w) (base := base) T
  refine cal_mkX (k := 1) T.f_over sc_over rfl (by decide) (fun _ _ _ _ _ _ us hl => match us, hl with | [_, _], _ => rfl) fun f cdv A outer s H E hr hu tk => ?_
  have hv := hu
  replace hu := un62 hu
  exact b_one (s_ret (e_calX CX_fraction hr (by decide) tk (by rfl) (a_cons (e_bin (op_mulL.or op_rep) ok_mul (e_ix (e_var 0) (e_int)) (e_ix (e_var 1) (e_int))) (a_cons (e_bin (op_mulL.or op_rep) ok_mul (e_ix (e_var 0) (e_int)) (e_ix (e_var 1) (e_int))) (a_nil)))))
theorem cal_over (T : Top P K mg) : CalD P w K mg base 2 "over" 2 d_over := (calx_over T).calD
theorem cal__law_lowest (T : Top P K mg) : CalD P w K mg base 2 "_law_lowest" 2 d__law_lowest := by
  have nd := (sc__law_lowest).nd
  have C__law_gcd := cal__law_gcd (P := P) (w := w) (base := base) T
  refine cal_mk (k := 1) T.f__law_lowest sc__law_lowest rfl (by decide) (fun _ _ _ _ _ _ us hl => match us, hl with | [_, _], _ => rfl) fun f cdv A outer s H E hr hu => ?_
  have hv := hu
  replace hu := un62 hu
  exact b_cons (s_set (i := 2) nd rfl (by first | exact .inl rfl | exact .inr rfl) (e_cal (C__law_gcd) hr (by decide) (by rfl) (a_cons (e_var 0) (a_cons (e_var 1) (a_nil)))))
    (b_cons (s_if (t_cmp op_lt ok_lt (e_var 1) (e_int) (nomark _)) (b_one (s_set (i := 2) nd rfl (by first | exact .inl rfl | exact .inr rfl) (e_neg (e_var 2)))) (b_nil))
    (b_one (s_ret (e_tup (a_cons (e_bin op_fdivL ok_div (e_var 0) (e_var 2)) (a_cons (e_bin op_fdivL ok_div (e_var 1) (e_var 2)) (a_nil)))))))
theorem cal__law_is_pair (T : Top P K mg) : CalD P w K mg base 2 "_law_is_pair" 2 d__law_is_pair := by
  have nd := (sc__law_is_pair).nd
  have z_isinstance := T.z_isinstance
  have z_len := T.z_len
  have z_tuple := T.z_tuple
  have C__law_is_number := cal__law_is_number (P := P) (w := w) (base := base) T
  refine cal_mk (k := 1) T.f__law_is_pair sc__law_is_pair rfl (by decide) (fun _ _ _ _ _ _ us hl => match us, hl with | [_, _], _ => rfl) fun f cdv A outer s H E hr hu => ?_
  have hv := hu
  replace hu := un62 hu
  exact b_cons (s_if (t_w (w_or (t_not (t_val (e_isi (T := "tuple") (.inr (.inr (.inr (.inl rfl)))) (by rfl) z_isinstance (by rfl) z_tuple PyProof.Rows.boot_tuple (e_var 0)))) (w_or1 (t_cmp (or_ne hu) ok_ne (e_callB cr_len ok_len (by rfl) z_len PySem.boot_len (a_cons (e_var 0) (a_nil))) (e_int) (nomark _))))) (b_one (s_ret (e_bl))) (b_nil))
    (b_cons (s_if (t_w (w_or (t_not (t_val (e_cal (C__law_is_number) hr (by decide) (by rfl) (a_cons (e_ix (e_var 0) (e_int)) (a_nil))))) (w_or1 (t_not (t_val (e_cal (C__law_is_number) hr (by decide) (by rfl) (a_cons (e_ix (e_var 0) (e_int)) (a_nil)))))))) (b_one (s_ret (e_bl))) (b_nil))
    (b_one (s_ret (e_and (e_cmp (or_eq hu) ok_eq (e_ix (e_var 0) (e_int)) (e_ix (e_var 1) (e_int)) (nomark _)) (e_one (e_cmp (or_eq hu) ok_eq (e_ix (e_var 0) (e_int)) (e_ix (e_var 1) (e_int)) (nomark _)))))))
theorem cal__law_quotient_is_right (T : Top P K mg) : CalD P w K mg base 3 "_law_quotient_is_right" 2 d__law_quotient_is_right := by
  have nd := (sc__law_quotient_is_right).nd
  have z_ValueError := T.z_ValueError
  have z_isinstance := T.z_isinstance
  have C__law_is_pair := cal__law_is_pair (P := P) (w := w) (base := base) T
  have C__law_lowest := cal__law_lowest (P := P) (w := w) (base := base) T
  have CX_fraction := calx_fraction (P := P) (w := w) (base := base) T
  have CH__law_is_zero_divisor := calh__law_is_zero_divisor (P := P) (w := w) (base := base) T
  obtain ⟨c_LinkError, g_LinkError⟩ := T.g_LinkError
  obtain ⟨c_ZeroDivisor, g_ZeroDivisor⟩ := T.g_ZeroDivisor
  have M_LinkError : ∀ nm b, m_LinkError nm = some b → ∀ C, mg nm = some (.ref C) → PySem.W.exmOne K (.ref C) (.ref c_LinkError) = some b := (tb_cons (Q := fun nm b => ∀ C, mg nm = some (.ref C) → PySem.W.exmOne K (.ref C) (.ref c_LinkError) = some b) (fun C hC => T.x_ZeroDivisor_LinkError C hC _ g_LinkError) tb_nil)
  have KK_LinkError : ∀ nm b, m_LinkError nm = some b → ∀ C, mg nm = some (.ref C) → ErrK K (kf nm) C := (tb_cons (Q := fun nm (_ : Bool) => ∀ C, mg nm = some (.ref C) → ErrK K (kf nm) C) T.k_ZeroDivisor tb_nil)
  have I_ZeroDivisor : ∀ nm b, m_ZeroDivisor nm = some b → ∀ C, mg nm = some (.ref C) → PySem.W.kitOne K (.ref C) (.ref c_ZeroDivisor) = some b := (tb_cons (Q := fun nm b => ∀ C, mg nm = some (.ref C) → PySem.W.kitOne K (.ref C) (.ref c_ZeroDivisor) = some b) (fun C hC => T.i_ZeroDivisor_ZeroDivisor C hC _ g_ZeroDivisor) tb_nil)
  have I_ValueError : ∀ nm b, m_ValueError nm = some b → ∀ C, mg nm = some (.ref C) → PySem.W.kitOne K (.ref C) (.type "ValueError") = some b := (tb_cons (Q := fun nm b => ∀ C, mg nm = some (.ref C) → PySem.W.kitOne K (.ref C) (.type "ValueError") = some b) T.i_ZeroDivisor_ValueError tb_nil)
  refine cal_mk (k := 2) T.f__law_quotient_is_right sc__law_quotient_is_right rfl (by decide) (fun _ _ _ _ _ _ us hl => match us, hl with | [_, _], _ => rfl) fun f cdv A outer s H E hr hu => ?_
  have hv := hu
  replace hu := un62 hu
  exact b_cons (s_no (s_tryAs (i := 3) rfl rfl nd rfl rfl ⟨by rfl, by decide, .inl g_LinkError⟩ takes0N M_LinkError (fun W1 pn1 xe1 tk1 hp1 => b_one (s_set (i := 2) nd rfl (by first | exact .inl rfl | exact .inr rfl) (e_calX CX_fraction hr (by decide) tk1 (by rfl) (a_cons (e_var 0) (a_cons (e_var 1) (a_nil)))))) (fun a oe nm C d pn hmt hC hz hv => have TK := KK_LinkError nm true hmt C hC; b_one (s_retS (e_and (e_cmp (or_eq hu) ok_eq (e_var 1) (e_int) (nomark _)) (e_one (e_callE (k := 0) (bd := sRet (fAndV (fIsX m_ZeroDivisor a d nm 0) (fIsX m_ValueError a d nm 0))) hz hv (TopF.g T.f__law_is_zero_divisor) sc__law_is_zero_divisor (by rfl) (fun _ _ _ _ _ _ us hl => match us, hl with | [_], _ => rfl) (fun f cdv A outer s H E => b_one (s_ret (e_and (e_isP (c := .ref c_ZeroDivisor) (cv := .ref c_ZeroDivisor) (List.mem_singleton.mpr rfl) TK hz hv (by rfl) z_isinstance (pv 0) (pe_glob (by rfl) g_ZeroDivisor rfl) (fun _ h => h) (fun b hb => I_ZeroDivisor nm b hb C hC)) (e_one (e_isP (c := .ty "ValueError") (cv := .type "ValueError") (List.mem_singleton.mpr rfl) TK hz hv (by rfl) z_isinstance (pv 0) (pe_bltn (by rfl) z_ValueError (by rfl) rfl) (fun _ h => h) (fun b hb => I_ValueError nm b hb C hC)))))) (fun ns ds b hb => ask2 hb) ((room_suite hr).mono (by decide)) (pv 3))))))))
    (b_one (s_ret (e_and (e_cmp (or_ne hu) ok_ne (e_var 1) (e_int) (nomark _)) (e_one (e_cal (C__law_is_pair) hr (by decide) (by rfl) (a_cons (e_var 2) (a_cons (e_cal (C__law_lowest) hr (by decide) (by rfl) (a_cons (e_var 0) (a_cons (e_var 1) (a_nil)))) (a_nil))))))))
theorem cal__law_over_is_right (T : Top P K mg) : CalD P w K mg base 3 "_law_over_is_right" 2 d__law_over_is_right := by
  have nd := (sc__law_over_is_right).nd
  have z_ValueError := T.z_ValueError
  have z_isinstance := T.z_isinstance
  have C__law_is_pair := cal__law_is_pair (P := P) (w := w) (base := base) T
  have C__law_lowest := cal__law_lowest (P := P) (w := w) (base := base) T
  have CX_over := calx_over (P := P) (w := w) (base := base) T
  have CH__law_is_zero_divisor := calh__law_is_zero_divisor (P := P) (w := w) (base := base) T
  obtain ⟨c_LinkError, g_LinkError⟩ := T.g_LinkError
  obtain ⟨c_ZeroDivisor, g_ZeroDivisor⟩ := T.g_ZeroDivisor
  have M_LinkError : ∀ nm b, m_LinkError nm = some b → ∀ C, mg nm = some (.ref C) → PySem.W.exmOne K (.ref C) (.ref c_LinkError) = some b := (tb_cons (Q := fun nm b => ∀ C, mg nm = some (.ref C) → PySem.W.exmOne K (.ref C) (.ref c_LinkError) = some b) (fun C hC => T.x_ZeroDivisor_LinkError C hC _ g_LinkError) tb_nil)
  have KK_LinkError : ∀ nm b, m_LinkError nm = some b → ∀ C, mg nm = some (.ref C) → ErrK K (kf nm) C := (tb_cons (Q := fun nm (_ : Bool) => ∀ C, mg nm = some (.ref C) → ErrK K (kf nm) C) T.k_ZeroDivisor tb_nil)
  have I_ZeroDivisor : ∀ nm b, m_ZeroDivisor nm = some b → ∀ C, mg nm = some (.ref C) → PySem.W.kitOne K (.ref C) (.ref c_ZeroDivisor) = some b := (tb_cons (Q := fun nm b => ∀ C, mg nm = some (.ref C) → PySem.W.kitOne K (.ref C) (.ref c_ZeroDivisor) = some b) (fun C hC => T.i_ZeroDivisor_ZeroDivisor C hC _ g_ZeroDivisor) tb_nil)
  have I_ValueError : ∀ nm b, m_ValueError nm = some b → ∀ C, mg nm = some (.ref C) → PySem.W.kitOne K (.ref C) (.type "ValueError") = some b := (tb_cons (Q := fun nm b => ∀ C, mg nm = some (.ref C) → PySem.W.kitOne K (.ref C) (.type "ValueError") = some b) T.i_ZeroDivisor_ValueError tb_nil)
  refine cal_mk (k := 2) T.f__law_over_is_right sc__law_over_is_right rfl (by decide) (fun _ _ _ _ _ _ us hl => match us, hl with | [_, _], _ => rfl) fun f cdv A outer s H E hr hu => ?_
  have hv := hu
  replace hu := un62 hu
  exact b_cons (s_no (s_tryAs (i := 3) rfl rfl nd rfl rfl ⟨by rfl, by decide, .inl g_LinkError⟩ takes0N M_LinkError (fun W1 pn1 xe1 tk1 hp1 => b_one (s_set (i := 2) nd rfl (by first | exact .inl rfl | exact .inr rfl) (e_calX CX_over hr (by decide) tk1 (by rfl) (a_cons (e_var 0) (a_cons (e_var 1) (a_nil)))))) (fun a oe nm C d pn hmt hC hz hv => have TK := KK_LinkError nm true hmt C hC; b_one (s_retS (e_and (e_cmp (or_eq hu) ok_eq (e_ix (e_var 1) (e_int)) (e_int) (nomark _)) (e_one (e_callE (k := 0) (bd := sRet (fAndV (fIsX m_ZeroDivisor a d nm 0) (fIsX m_ValueError a d nm 0))) hz hv (TopF.g T.f__law_is_zero_divisor) sc__law_is_zero_divisor (by rfl) (fun _ _ _ _ _ _ us hl => match us, hl with | [_], _ => rfl) (fun f cdv A outer s H E => b_one (s_ret (e_and (e_isP (c := .ref c_ZeroDivisor) (cv := .ref c_ZeroDivisor) (List.mem_singleton.mpr rfl) TK hz hv (by rfl) z_isinstance (pv 0) (pe_glob (by rfl) g_ZeroDivisor rfl) (fun _ h => h) (fun b hb => I_ZeroDivisor nm b hb C hC)) (e_one (e_isP (c := .ty "ValueError") (cv := .type "ValueError") (List.mem_singleton.mpr rfl) TK hz hv (by rfl) z_isinstance (pv 0) (pe_bltn (by rfl) z_ValueError (by rfl) rfl) (fun _ h => h) (fun b hb => I_ValueError nm b hb C hC)))))) (fun ns ds b hb => ask2 hb) ((room_suite hr).mono (by decide)) (pv 3))))))))
    (b_cons (s_if (t_cmp (or_eq hu) ok_eq (e_ix (e_var 1) (e_int)) (e_int) (nomark _)) (b_one (s_ret (e_bl))) (b_nil))
    (b_one (s_ret (e_cal (C__law_is_pair) hr (by decide) (by rfl) (a_cons (e_var 2) (a_cons (e_cal (C__law_lowest) hr (by decide) (by rfl) (a_cons (e_bin (op_mulL.or op_rep) ok_mul (e_ix (e_var 0) (e_int)) (e_ix (e_var 1) (e_int))) (a_cons (e_bin (op_mulL.or op_rep) ok_mul (e_ix (e_var 0) (e_int)) (e_ix (e_var 1) (e_int))) (a_nil)))) (a_nil)))))))
theorem cal__law_share (T : Top P K mg) : CalD P w K mg base 3 "_law_share" 2 d__law_share := by
  have nd := (sc__law_share).nd
  have C__law_lowest := cal__law_lowest (P := P) (w := w) (base := base) T
  refine cal_mk (k := 2) T.f__law_share sc__law_share rfl (by decide) (fun _ _ _ _ _ _ us hl => match us, hl with | [_, _], _ => rfl) fun f cdv A outer s H E hr hu => ?_
  have hv := hu
  replace hu := un62 hu
  exact b_cons (s_if (t_cmp (or_eq hu) ok_eq (e_var 1) (e_int) (nomark _)) (b_one (s_ret (e_cal (C__law_lowest) hr (by decide) (by rfl) (a_cons (e_var 0) (a_cons (e_int) (a_nil)))))) (b_nil))
    (b_one (s_ret (e_cal (C__law_lowest) hr (by decide) (by rfl) (a_cons (e_var 0) (a_cons (e_var 1) (a_nil))))))
theorem cal__law_seconds (T : Top P K mg) : CalD P w K mg base 3 "_law_seconds" 3 d__law_seconds := by
  have nd := (sc__law_seconds).nd
  have C__law_lowest := cal__law_lowest (P := P) (w := w) (base := base) T
  refine cal_mk (k := 2) T.f__law_seconds sc__law_seconds rfl (by decide) (fun _ _ _ _ _ _ us hl => match us, hl with | [_, _, _], _ => rfl) fun f cdv A outer s H E hr hu => ?_
  have hv := hu
  replace hu := un62 hu
  exact b_cons (s_set (i := 3) nd rfl (by first | exact .inl rfl | exact .inr rfl) (e_bin (op_mulL.or op_rep) ok_mul (e_ix (e_var 1) (e_int)) (e_bin or_add ok_add (e_int) (e_bin op_modN ok_mod (e_ix (e_var 0) (e_int)) (e_int)))))
    (b_cons (s_set (i := 4) nd rfl (by first | exact .inl rfl | exact .inr rfl) (e_cal (C__law_lowest) hr (by decide) (by rfl) (a_cons (e_bin or_add ok_add (e_bin (op_mulL.or op_rep) ok_mul (e_ix (e_var 1) (e_int)) (e_var 3)) (e_int)) (a_cons (e_bin (op_mulL.or op_rep) ok_mul (e_ix (e_var 1) (e_int)) (e_var 3)) (a_nil)))))
    (b_cons (s_set (i := 5) nd rfl (by first | exact .inl rfl | exact .inr rfl) (e_cal (C__law_lowest) hr (by decide) (by rfl) (a_cons (e_bin op_sub ok_sub (e_bin (op_mulL.or op_rep) ok_mul (e_ix (e_var 1) (e_int)) (e_var 3)) (e_int)) (a_cons (e_bin (op_mulL.or op_rep) ok_mul (e_ix (e_var 1) (e_int)) (e_var 3)) (a_nil)))))
    (b_one (s_ret (e_lst (a_cons (e_var 2) (a_cons (e_var 1) (a_cons (e_tup (a_cons (e_neg (e_ix (e_var 1) (e_int))) (a_cons (e_ix (e_var 1) (e_int)) (a_nil)))) (a_cons (e_tup (a_cons (e_int) (a_cons (e_int) (a_nil)))) (a_cons (e_tup (a_cons (e_int) (a_cons (e_int) (a_nil)))) (a_cons (e_var 4) (a_cons (e_var 5) (a_cons (e_tup (a_cons (e_bin or_add ok_add (e_ix (e_var 1) (e_int)) (e_ix (e_var 1) (e_int))) (a_cons (e_ix (e_var 1) (e_int)) (a_nil)))) (a_nil))))))))))))))
theorem cal__law_deeds_are_right (T : Top P K mg) : CalD P w K mg base 4 "_law_deeds_are_right" 2 d__law_deeds_are_right := by
  have nd := (sc__law_deeds_are_right).nd
  have z_int := T.z_int
  have C__law_is_pair := cal__law_is_pair (P := P) (w := w) (base := base) T
  have C__law_lowest := cal__law_lowest (P := P) (w := w) (base := base) T
  have C_plus := cal_plus (P := P) (w := w) (base := base) T
  have C_minus := cal_minus (P := P) (w := w) (base := base) T
  have C_times := cal_times (P := P) (w := w) (base := base) T
  have C_order_of := cal_order_of (P := P) (w := w) (base := base) T
  have C__law_is_number := cal__law_is_number (P := P) (w := w) (base := base) T
  have C__law_over_is_right := cal__law_over_is_right (P := P) (w := w) (base := base) T
  refine cal_mk (k := 3) T.f__law_deeds_are_right sc__law_deeds_are_right rfl (by decide) (fun _ _ _ _ _ _ us hl => match us, hl with | [_, _], _ => rfl) fun f cdv A outer s H E hr hu => ?_
  have hv := hu
  replace hu := un62 hu
  exact b_cons (s_set (i := 2) nd rfl (by first | exact .inl rfl | exact .inr rfl) (e_bin (op_mulL.or op_rep) ok_mul (e_ix (e_var 0) (e_int)) (e_ix (e_var 1) (e_int))))
    (b_cons (s_set (i := 3) nd rfl (by first | exact .inl rfl | exact .inr rfl) (e_bin (op_mulL.or op_rep) ok_mul (e_ix (e_var 0) (e_int)) (e_ix (e_var 1) (e_int))))
    (b_cons (s_set (i := 4) nd rfl (by first | exact .inl rfl | exact .inr rfl) (e_bin (op_mulL.or op_rep) ok_mul (e_ix (e_var 1) (e_int)) (e_ix (e_var 0) (e_int))))
    (b_cons (s_if (t_not (t_val (e_cal (C__law_is_pair) hr (by decide) (by rfl) (a_cons (e_cal (C_plus) hr (by decide) (by rfl) (a_cons (e_var 0) (a_cons (e_var 1) (a_nil)))) (a_cons (e_cal (C__law_lowest) hr (by decide) (by rfl) (a_cons (e_bin or_add ok_add (e_var 3) (e_var 4)) (a_cons (e_var 2) (a_nil)))) (a_nil)))))) (b_one (s_ret (e_bl))) (b_nil))
    (b_cons (s_if (t_not (t_val (e_cal (C__law_is_pair) hr (by decide) (by rfl) (a_cons (e_cal (C_minus) hr (by decide) (by rfl) (a_cons (e_var 0) (a_cons (e_var 1) (a_nil)))) (a_cons (e_cal (C__law_lowest) hr (by decide) (by rfl) (a_cons (e_bin op_sub ok_sub (e_var 3) (e_var 4)) (a_cons (e_var 2) (a_nil)))) (a_nil)))))) (b_one (s_ret (e_bl))) (b_nil))
    (b_cons (s_if (t_not (t_val (e_cal (C__law_is_pair) hr (by decide) (by rfl) (a_cons (e_cal (C_times) hr (by decide) (by rfl) (a_cons (e_var 0) (a_cons (e_var 1) (a_nil)))) (a_cons (e_cal (C__law_lowest) hr (by decide) (by rfl) (a_cons (e_bin (op_mulL.or op_rep) ok_mul (e_ix (e_var 0) (e_int)) (e_ix (e_var 1) (e_int))) (a_cons (e_var 2) (a_nil)))) (a_nil)))))) (b_one (s_ret (e_bl))) (b_nil))
    (b_cons (s_set (i := 5) nd rfl (by first | exact .inl rfl | exact .inr rfl) (e_cal (C_order_of) hr (by decide) (by rfl) (a_cons (e_var 0) (a_cons (e_var 1) (a_nil)))))
    (b_cons (s_if (t_w (w_or (t_not (t_val (e_cal (C__law_is_number) hr (by decide) (by rfl) (a_cons (e_var 5) (a_nil))))) (w_or1 (t_cmp (or_ne hu) ok_ne (e_var 5) (e_bin op_sub ok_sub (e_callTy call_int1 ok_int (by rfl) z_int PyProof.Rows.boot_int (a_cons (e_cmp op_gt ok_gt (e_var 3) (e_var 4) (nomark _)) (a_nil))) (e_callTy call_int1 ok_int (by rfl) z_int PyProof.Rows.boot_int (a_cons (e_cmp op_lt ok_lt (e_var 3) (e_var 4) (nomark _)) (a_nil)))) (nomark _))))) (b_one (s_ret (e_bl))) (b_nil))
    (b_one (s_ret (e_cal (C__law_over_is_right) hr (by decide) (by rfl) (a_cons (e_var 0) (a_cons (e_var 1) (a_nil)))))))))))))
theorem ok_law {fa : Addr} {fd : FuncData} (F : Fun K "law" "law" s_law fa fd) (T : Top P K mg) : FnOk P w K mg base CX0 5 fa fd ["script"] (spD 1 (d_law K)) := by
  have nd := (sc_law).nd
  have C__law_draws := cal__law_draws (P := P) (w := w) (base := base) T
  have C__law_number := cal__law_number (P := P) (w := w) (base := base) T
  have C__law_quotient_is_right := cal__law_quotient_is_right (P := P) (w := w) (base := base) T
  have C__law_share := cal__law_share (P := P) (w := w) (base := base) T
  have C__law_seconds := cal__law_seconds (P := P) (w := w) (base := base) T
  have C__law_deeds_are_right := cal__law_deeds_are_right (P := P) (w := w) (base := base) T
  refine def_ok (k := 4) F sc_law rfl (by decide) fun cdv A outer s H E hr hu => ?_
  have hv := hu
  replace hu := un62 hu
  exact b_cons (s_set (i := 1) nd rfl (by first | exact .inl rfl | exact .inr rfl) (e_cal (C__law_draws) hr (by decide) (by rfl) (a_cons (e_var 0) (a_cons (e_int) (a_nil)))))
    (b_cons (s_set (i := 2) nd rfl (by first | exact .inl rfl | exact .inr rfl) (e_cal (C__law_number) hr (by decide) (by rfl) (a_cons (e_var 1) (a_cons (e_int) (a_nil)))))
    (b_cons (s_set (i := 3) nd rfl (by first | exact .inl rfl | exact .inr rfl) (e_cal (C__law_number) hr (by decide) (by rfl) (a_cons (e_var 1) (a_cons (e_int) (a_nil)))))
    (b_cons (s_set (i := 4) nd rfl (by first | exact .inl rfl | exact .inr rfl) (e_cal (C__law_number) hr (by decide) (by rfl) (a_cons (e_var 1) (a_cons (e_int) (a_nil)))))
    (b_cons (s_set (i := 5) nd rfl (by first | exact .inl rfl | exact .inr rfl) (e_cal (C__law_number) hr (by decide) (by rfl) (a_cons (e_var 1) (a_cons (e_int) (a_nil)))))
    (b_cons (s_set (i := 6) nd rfl (by first | exact .inl rfl | exact .inr rfl) (e_bin op_sub ok_sub (e_bin op_modN ok_mod (e_ix (e_var 1) (e_int)) (e_int)) (e_int)))
    (b_cons (s_if (t_cmp (or_eq hu) ok_eq (e_var 6) (e_int) (nomark _)) (b_one (s_set (i := 6) nd rfl (by first | exact .inl rfl | exact .inr rfl) (e_int))) (b_nil))
    (b_cons (s_set (i := 7) nd rfl (by first | exact .inl rfl | exact .inr rfl) (e_lst (a_cons (e_tup (a_cons (e_var 2) (a_cons (e_var 3) (a_nil)))) (a_cons (e_tup (a_cons (e_var 4) (a_cons (e_var 5) (a_nil)))) (a_cons (e_tup (a_cons (e_bin (op_mulL.or op_rep) ok_mul (e_var 2) (e_var 6)) (a_cons (e_bin (op_mulL.or op_rep) ok_mul (e_var 3) (e_var 6)) (a_nil)))) (a_cons (e_tup (a_cons (e_var 2) (a_cons (e_int) (a_nil)))) (a_cons (e_tup (a_cons (e_int) (a_cons (e_var 3) (a_nil)))) (a_cons (e_tup (a_cons (e_neg (e_var 2)) (a_cons (e_var 3) (a_nil)))) (a_cons (e_tup (a_cons (e_var 2) (a_cons (e_neg (e_var 3)) (a_nil)))) (a_cons (e_tup (a_cons (e_neg (e_var 2)) (a_cons (e_neg (e_var 3)) (a_nil)))) (a_cons (e_tup (a_cons (e_int) (a_cons (e_int) (a_nil)))) (a_cons (e_tup (a_cons (e_var 3) (a_cons (e_var 2) (a_nil)))) (a_cons (e_tup (a_cons (e_var 2) (a_cons (e_var 3) (a_nil)))) (a_nil))))))))))))))
    (b_cons (s_for (vs := [8, 9]) PassesOwn.never rfl (i_seq (e_var 7)) (g_tup rfl (.cons (pg_name (i := 8) nd rfl (by first | exact .inl rfl | exact .inr rfl)) (.cons (pg_name (i := 9) nd rfl (by first | exact .inl rfl | exact .inr rfl)) .nil)) (by decide)) (b_one (s_if (t_not (t_val (e_cal (C__law_quotient_is_right) hr (by decide) (by rfl) (a_cons (e_var 8) (a_cons (e_var 9) (a_nil)))))) (b_one (s_ret (e_bl))) (b_nil))))
    (b_cons (s_set (i := 10) nd rfl (by first | exact .inl rfl | exact .inr rfl) (e_cal (C__law_share) hr (by decide) (by rfl) (a_cons (e_var 2) (a_cons (e_var 3) (a_nil)))))
    (b_cons (s_for (vs := [11]) PassesOwn.never rfl (i_seq (e_cal (C__law_seconds) hr (by decide) (by rfl) (a_cons (e_var 1) (a_cons (e_var 10) (a_cons (e_cal (C__law_share) hr (by decide) (by rfl) (a_cons (e_var 4) (a_cons (e_var 5) (a_nil)))) (a_nil)))))) (g_name 11 nd rfl (by first | exact .inl rfl | exact .inr rfl) (by decide)) (b_one (s_if (t_w (w_or (t_not (t_val (e_cal (C__law_deeds_are_right) hr (by decide) (by rfl) (a_cons (e_var 10) (a_cons (e_var 11) (a_nil)))))) (w_or1 (t_not (t_val (e_cal (C__law_deeds_are_right) hr (by decide) (by rfl) (a_cons (e_var 11) (a_cons (e_var 10) (a_nil))))))))) (b_one (s_ret (e_bl))) (b_nil))))
    (b_one (s_ret (e_cal (C__law_quotient_is_right) hr (by decide) (by rfl) (a_cons (e_var 2) (a_cons (e_var 3) (a_nil))))))))))))))))
end
theorem law_holds {K : PySem.W.Frag} {ns : List Int} {d : D} (hl : ns.length ≤ 63) (h : ScrD K ns d) : ∃ k, d_law K [d] = .ok (.bl true, k) := by
  obtain ⟨L, h1, h2, e⟩ := draws_ok (m := 20) h (by decide)
  obtain ⟨k, e2, _⟩ := x_law (K := K) (d := d) (L := L) (r := true) ⟨1, e, fun m q => by cases q; rfl⟩ (law_true h1 h2)
  exact ⟨k, e2⟩
theorem top_mk {P : Program} {K : PySem.W.Frag} {h : Heap} {mg : Str → Option Value} (X : K.In h) (G : h.Ns mainGlobals mg) {f0 f1 f2 f3 f4 f5 f6 f7 f8 f9 f10 f11 f12 f13 f14 f15 f16 f17 f18 KA0 KA1 KI0 KC0 KD0 xN0 : Addr} {od0 an0 od1 an1 od2 an2 od3 an3 od4 an4 od5 an5 od6 an6 od7 an7 od8 an8 od9 an9 od10 an10 od11 an11 od12 an12 od13 an13 od14 an14 od15 an15 od16 an16 od17 an17 od18 an18 : Option Addr} {sl0 sl1 sl2 sl3 sl4 sl5 sl6 sl7 sl8 sl9 sl10 sl11 sl12 sl13 sl14 sl15 sl16 sl17 sl18 : Array (Option Value)} {oc0 kV0 dc0 pm0 cd0 ct0 oc1 kV1 dc1 pm1 cd1 ct1 oc2 kV2 dc2 pm2 cd2 ct2 oc3 kV3 dc3 pm3 cd3 ct3 oc4 kV4 dc4 pm4 cd4 ct4 oc5 kV5 dc5 pm5 cd5 ct5 oc6 kV6 dc6 pm6 cd6 ct6 oc7 kV7 dc7 pm7 cd7 ct7 oc8 kV8 dc8 pm8 cd8 ct8 oc9 kV9 dc9 pm9 cd9 ct9 oc10 kV10 dc10 pm10 cd10 ct10 oc11 kV11 dc11 pm11 cd11 ct11 oc12 kV12 dc12 pm12 cd12 ct12 oc13 kV13 dc13 pm13 cd13 ct13 oc14 kV14 dc14 pm14 cd14 ct14 oc15 kV15 dc15 pm15 cd15 ct15 oc16 kV16 dc16 pm16 cd16 ct16 oc17 kV17 dc17 pm17 cd17 ct17 oc18 kV18 dc18 pm18 cd18 ct18 : Value} {xn0 xq0 gf0 : Str} {xb0 xu0 : List Value} {xs0 : List Str} {xa0 : Bool} {xc0 : Option Bool} {xd0 id0 in0 e10 g10 : Option Addr} {m00 m10 m20 m30 m50 : Option Value} {io0 iv0 ic0 ip0 it0 e00 g00 : Value} {il0 e20 g20 : Array (Option Value)} {gv0 : Array Value} {gt0 : Tok}
  (a0 : PySem.W.nsIn K mainGlobals "fraction" = some (some (.ref f0))) (l0 : K.lookup f0 = some ⟨oc0, od0, .func (PySem.W.fnOf "fraction" "fraction" (defArgs s_fraction) (defBody s_fraction) (defScope s_fraction) .none kV0 dc0 pm0 an0 cd0 ct0), sl0⟩) (c0 : PySem.W.codeIn K cd0 "fraction" = true) (k0 : PySem.W.keepIn K (.ref f0) = true)
  (a1 : PySem.W.nsIn K mainGlobals "order_of" = some (some (.ref f1))) (l1 : K.lookup f1 = some ⟨oc1, od1, .func (PySem.W.fnOf "order_of" "order_of" (defArgs s_order_of) (defBody s_order_of) (defScope s_order_of) .none kV1 dc1 pm1 an1 cd1 ct1), sl1⟩) (c1 : PySem.W.codeIn K cd1 "order_of" = true) (k1 : PySem.W.keepIn K (.ref f1) = true)
  (a2 : PySem.W.nsIn K mainGlobals "_law_draws" = some (some (.ref f2))) (l2 : K.lookup f2 = some ⟨oc2, od2, .func (PySem.W.fnOf "_law_draws" "_law_draws" (defArgs s__law_draws) (defBody s__law_draws) (defScope s__law_draws) .none kV2 dc2 pm2 an2 cd2 ct2), sl2⟩) (c2 : PySem.W.codeIn K cd2 "_law_draws" = true) (k2 : PySem.W.keepIn K (.ref f2) = true)
  (a3 : PySem.W.nsIn K mainGlobals "_law_is_number" = some (some (.ref f3))) (l3 : K.lookup f3 = some ⟨oc3, od3, .func (PySem.W.fnOf "_law_is_number" "_law_is_number" (defArgs s__law_is_number) (defBody s__law_is_number) (defScope s__law_is_number) .none kV3 dc3 pm3 an3 cd3 ct3), sl3⟩) (c3 : PySem.W.codeIn K cd3 "_law_is_number" = true) (k3 : PySem.W.keepIn K (.ref f3) = true)
  (a4 : PySem.W.nsIn K mainGlobals "_law_gcd" = some (some (.ref f4))) (l4 : K.lookup f4 = some ⟨oc4, od4, .func (PySem.W.fnOf "_law_gcd" "_law_gcd" (defArgs s__law_gcd) (defBody s__law_gcd) (defScope s__law_gcd) .none kV4 dc4 pm4 an4 cd4 ct4), sl4⟩) (c4 : PySem.W.codeIn K cd4 "_law_gcd" = true) (k4 : PySem.W.keepIn K (.ref f4) = true)
  (a5 : PySem.W.nsIn K mainGlobals "_law_number" = some (some (.ref f5))) (l5 : K.lookup f5 = some ⟨oc5, od5, .func (PySem.W.fnOf "_law_number" "_law_number" (defArgs s__law_number) (defBody s__law_number) (defScope s__law_number) .none kV5 dc5 pm5 an5 cd5 ct5), sl5⟩) (c5 : PySem.W.codeIn K cd5 "_law_number" = true) (k5 : PySem.W.keepIn K (.ref f5) = true)
  (a6 : PySem.W.nsIn K mainGlobals "_law_is_zero_divisor" = some (some (.ref f6))) (l6 : K.lookup f6 = some ⟨oc6, od6, .func (PySem.W.fnOf "_law_is_zero_divisor" "_law_is_zero_divisor" (defArgs s__law_is_zero_divisor) (defBody s__law_is_zero_divisor) (defScope s__law_is_zero_divisor) .none kV6 dc6 pm6 an6 cd6 ct6), sl6⟩) (c6 : PySem.W.codeIn K cd6 "_law_is_zero_divisor" = true) (k6 : PySem.W.keepIn K (.ref f6) = true)
  (a7 : PySem.W.nsIn K mainGlobals "plus" = some (some (.ref f7))) (l7 : K.lookup f7 = some ⟨oc7, od7, .func (PySem.W.fnOf "plus" "plus" (defArgs s_plus) (defBody s_plus) (defScope s_plus) .none kV7 dc7 pm7 an7 cd7 ct7), sl7⟩) (c7 : PySem.W.codeIn K cd7 "plus" = true) (k7 : PySem.W.keepIn K (.ref f7) = true)
  (a8 : PySem.W.nsIn K mainGlobals "minus" = some (some (.ref f8))) (l8 : K.lookup f8 = some ⟨oc8, od8, .func (PySem.W.fnOf "minus" "minus" (defArgs s_minus) (defBody s_minus) (defScope s_minus) .none kV8 dc8 pm8 an8 cd8 ct8), sl8⟩) (c8 : PySem.W.codeIn K cd8 "minus" = true) (k8 : PySem.W.keepIn K (.ref f8) = true)
  (a9 : PySem.W.nsIn K mainGlobals "times" = some (some (.ref f9))) (l9 : K.lookup f9 = some ⟨oc9, od9, .func (PySem.W.fnOf "times" "times" (defArgs s_times) (defBody s_times) (defScope s_times) .none kV9 dc9 pm9 an9 cd9 ct9), sl9⟩) (c9 : PySem.W.codeIn K cd9 "times" = true) (k9 : PySem.W.keepIn K (.ref f9) = true)
  (a10 : PySem.W.nsIn K mainGlobals "over" = some (some (.ref f10))) (l10 : K.lookup f10 = some ⟨oc10, od10, .func (PySem.W.fnOf "over" "over" (defArgs s_over) (defBody s_over) (defScope s_over) .none kV10 dc10 pm10 an10 cd10 ct10), sl10⟩) (c10 : PySem.W.codeIn K cd10 "over" = true) (k10 : PySem.W.keepIn K (.ref f10) = true)
  (a11 : PySem.W.nsIn K mainGlobals "_law_lowest" = some (some (.ref f11))) (l11 : K.lookup f11 = some ⟨oc11, od11, .func (PySem.W.fnOf "_law_lowest" "_law_lowest" (defArgs s__law_lowest) (defBody s__law_lowest) (defScope s__law_lowest) .none kV11 dc11 pm11 an11 cd11 ct11), sl11⟩) (c11 : PySem.W.codeIn K cd11 "_law_lowest" = true) (k11 : PySem.W.keepIn K (.ref f11) = true)
  (a12 : PySem.W.nsIn K mainGlobals "_law_is_pair" = some (some (.ref f12))) (l12 : K.lookup f12 = some ⟨oc12, od12, .func (PySem.W.fnOf "_law_is_pair" "_law_is_pair" (defArgs s__law_is_pair) (defBody s__law_is_pair) (defScope s__law_is_pair) .none kV12 dc12 pm12 an12 cd12 ct12), sl12⟩) (c12 : PySem.W.codeIn K cd12 "_law_is_pair" = true) (k12 : PySem.W.keepIn K (.ref f12) = true)
  (a13 : PySem.W.nsIn K mainGlobals "_law_quotient_is_right" = some (some (.ref f13))) (l13 : K.lookup f13 = some ⟨oc13, od13, .func (PySem.W.fnOf "_law_quotient_is_right" "_law_quotient_is_right" (defArgs s__law_quotient_is_right) (defBody s__law_quotient_is_right) (defScope s__law_quotient_is_right) .none kV13 dc13 pm13 an13 cd13 ct13), sl13⟩) (c13 : PySem.W.codeIn K cd13 "_law_quotient_is_right" = true) (k13 : PySem.W.keepIn K (.ref f13) = true)
  (a14 : PySem.W.nsIn K mainGlobals "_law_over_is_right" = some (some (.ref f14))) (l14 : K.lookup f14 = some ⟨oc14, od14, .func (PySem.W.fnOf "_law_over_is_right" "_law_over_is_right" (defArgs s__law_over_is_right) (defBody s__law_over_is_right) (defScope s__law_over_is_right) .none kV14 dc14 pm14 an14 cd14 ct14), sl14⟩) (c14 : PySem.W.codeIn K cd14 "_law_over_is_right" = true) (k14 : PySem.W.keepIn K (.ref f14) = true)
  (a15 : PySem.W.nsIn K mainGlobals "_law_share" = some (some (.ref f15))) (l15 : K.lookup f15 = some ⟨oc15, od15, .func (PySem.W.fnOf "_law_share" "_law_share" (defArgs s__law_share) (defBody s__law_share) (defScope s__law_share) .none kV15 dc15 pm15 an15 cd15 ct15), sl15⟩) (c15 : PySem.W.codeIn K cd15 "_law_share" = true) (k15 : PySem.W.keepIn K (.ref f15) = true)
  (a16 : PySem.W.nsIn K mainGlobals "_law_seconds" = some (some (.ref f16))) (l16 : K.lookup f16 = some ⟨oc16, od16, .func (PySem.W.fnOf "_law_seconds" "_law_seconds" (defArgs s__law_seconds) (defBody s__law_seconds) (defScope s__law_seconds) .none kV16 dc16 pm16 an16 cd16 ct16), sl16⟩) (c16 : PySem.W.codeIn K cd16 "_law_seconds" = true) (k16 : PySem.W.keepIn K (.ref f16) = true)
  (a17 : PySem.W.nsIn K mainGlobals "_law_deeds_are_right" = some (some (.ref f17))) (l17 : K.lookup f17 = some ⟨oc17, od17, .func (PySem.W.fnOf "_law_deeds_are_right" "_law_deeds_are_right" (defArgs s__law_deeds_are_right) (defBody s__law_deeds_are_right) (defScope s__law_deeds_are_right) .none kV17 dc17 pm17 an17 cd17 ct17), sl17⟩) (c17 : PySem.W.codeIn K cd17 "_law_deeds_are_right" = true) (k17 : PySem.W.keepIn K (.ref f17) = true)
  (a18 : PySem.W.nsIn K mainGlobals "law" = some (some (.ref f18))) (l18 : K.lookup f18 = some ⟨oc18, od18, .func (PySem.W.fnOf "law" "law" (defArgs s_law) (defBody s_law) (defScope s_law) .none kV18 dc18 pm18 an18 cd18 ct18), sl18⟩) (c18 : PySem.W.codeIn K cd18 "law" = true) (k18 : PySem.W.keepIn K (.ref f18) = true)
  (y0 : PySem.W.nsIn K mainGlobals "ValueError" = some none)
  (y1 : PySem.W.nsIn K mainGlobals "abs" = some none)
  (y2 : PySem.W.nsIn K mainGlobals "bool" = some none)
  (y3 : PySem.W.nsIn K mainGlobals "gcd" = some (some (.builtin "math.gcd")))
  (y4 : PySem.W.nsIn K mainGlobals "int" = some none)
  (y5 : PySem.W.nsIn K mainGlobals "isinstance" = some none)
  (y6 : PySem.W.nsIn K mainGlobals "len" = some none)
  (y7 : PySem.W.nsIn K mainGlobals "range" = some none)
  (y8 : PySem.W.nsIn K mainGlobals "tuple" = some none)
  (gtp : (P.main.scope.names.lookup ("super" : Str)).isSome = false)
  (gsu : PySem.W.nsIn K mainGlobals "super" = some none)
  (gop : PySem.W.nsIn K cStatics "thirdparty.any" = some none)
  (gsp : PySem.W.specialIn K (.builtin "object.__class__") "__get__" = some (some (.builtin "getset_descriptor.__get__")))
  (gtk : PySem.W.takesIn K (.builtin "object.__class__") = some true)
  (aK0 : PySem.W.nsIn K mainGlobals "ZeroDivisor" = some (some (.ref KA0)))
  (aK1 : PySem.W.nsIn K mainGlobals "LinkError" = some (some (.ref KA1)))
  (xL0 : K.lookup KA0 = some (excClassObj xn0 xq0 KA0 xN0 xb0 [.ref KA1, .type "ValueError", .type "Exception", .type "BaseException", .type "object"] true xs0 xu0 xa0 xc0 xd0 m00 m10 m20 m30 m50 "ValueError.__new__"))
  (sa0 : PySem.W.findIn K (.ref KA0) "__setattr__" = some (some (.builtin "object.__setattr__")))
  (ga0 : PySem.W.findIn K (.ref KA0) "__getattribute__" = some (some (.builtin "BaseException.__getattribute__")))
  (gg0 : PySem.W.findIn K (.ref KA0) "__getattr__" = some none)
  (n1_0 : PySem.W.findIn K (.ref KA0) "__init__" = some (some (.ref KI0)))
  (t1_0 : PySem.W.typeIn K (.ref KI0) = some (.type "function"))
  (l1_0 : K.lookup KI0 = some ⟨io0, id0, .func (PySem.W.ksFn "__init__" "ZeroDivisor.__init__" (defArgs si_ZeroDivisor) (defBody si_ZeroDivisor) (defScope si_ZeroDivisor) .none iv0 ic0 ip0 in0 (.ref KD0) it0 KC0), il0⟩)
  (q1_0 : PySem.W.codeIn K (.ref KD0) "ZeroDivisor.__init__" = true)
  (lc0 : K.lookup KC0 = some ⟨e00, e10, .cell (some (.ref KA0)), e20⟩)
  (la0 : K.lookup KD0 = some ⟨g00, g10, .fields gv0, g20⟩)
  (hv0 : gv0[2]? = some (.str gf0 gt0))
  (hf0 : ((P.main.file : Str) == gf0) = true)
  (kC0 : PySem.W.keepIn K (.ref KA0) = true)
  (eC0 : PySem.W.subIn K (.ref KA0) (.type "BaseException") = some true)
  (vC0 : PySem.W.subIn K (.ref KA0) (.type "ValueError") = some true)
  (tC0 : PySem.W.typeIn K (.ref KA0) = some (.type "type"))
  (hC0 : PySem.W.hasDictIn K KA0 = true)
  (slC0 : PySem.W.mroIn K KA0 (.ref KA0) = some true)
  (su0 : PySem.W.ks_superIn K KA0 KA0 "__init__" = some (some (.builtin "ValueError.__init__")))
  (ac0 : PySem.W.findIn K (.ref KA0) "__class__" = some (some (.builtin "object.__class__")))
  (mo0 : PySem.W.mroIn K KA0 (.type "object") = some true)
  (eT1 : PySem.W.subIn K (.ref KA1) (.type "BaseException") = some true)
  (hT1 : PySem.W.hasDictIn K KA1 = true)
  (tT1 : PySem.W.typeIn K (.ref KA1) = some (.type "type"))
  (sx0_1 : PySem.W.subIn K (.ref KA0) (.ref KA1) = some true)
  (qk0_1 : PySem.W.kitOne K (.ref KA0) (.ref KA1) = some true)
  (eT0 : PySem.W.subIn K (.ref KA0) (.type "BaseException") = some true)
  (hT0 : PySem.W.hasDictIn K KA0 = true)
  (tT0 : PySem.W.typeIn K (.ref KA0) = some (.type "type"))
  (sx0_0 : PySem.W.subIn K (.ref KA0) (.ref KA0) = some true)
  (qk0_0 : PySem.W.kitOne K (.ref KA0) (.ref KA0) = some true)
  (w0_ValueError : PySem.W.kitOne K (.ref KA0) (.type "ValueError") = some true) : Top P K mg where
  c_ZeroDivisor := ⟨KA0, { gC := PySem.W.mg_of X G aK0, gS := PySem.W.mg_none_of X G gsu, cls := ⟨_, _, _, _, _, _, _, _, _, _, _, _, _, _, _, xL0, by rfl⟩, sa := sa0, ga := ga0, gg := gg0, noN := (by intro f hf; cases hf), kC := kC0, exC := eC0, veC := vC0, tyC := tC0, hdC := hC0, slf := slC0, opq := gop, sup := su0, top := gtp, ini := ⟨_, _, _, _, _, _, _, _, _, _, _, _, _, _, _, _, _, _, _, _, _, _, _, _, ini_ZeroDivisor, n1_0, t1_0, l1_0, q1_0, lc0, la0, hv0, hf0⟩ }⟩
  k_ZeroDivisor := fun C hCC => by
    have e := hCC.symm.trans (PySem.W.mg_of X G aK0)
    cases e
    exact ⟨⟨ga0, gg0, eC0, hC0⟩, (show ∀ f ∈ ([] : List Str), _ from (by intro f hf; cases hf)), by unfold PySem.W.clsIn; rw [xL0] <;> rfl, ac0, gsp, gtk, mo0⟩
  g_LinkError := ⟨KA1, PySem.W.mg_of X G aK1⟩
  x_ZeroDivisor_LinkError := fun C hCC c hc => by
    have e := hCC.symm.trans (PySem.W.mg_of X G aK0)
    cases e
    have e := hc.symm.trans (PySem.W.mg_of X G aK1)
    cases e
    exact PySem.W.exm_ref eT1 hT1 tT1 sx0_1
  i_ZeroDivisor_LinkError := fun C hCC c hc => by
    have e := hCC.symm.trans (PySem.W.mg_of X G aK0)
    cases e
    have e := hc.symm.trans (PySem.W.mg_of X G aK1)
    cases e
    exact qk0_1
  g_ZeroDivisor := ⟨KA0, PySem.W.mg_of X G aK0⟩
  x_ZeroDivisor_ZeroDivisor := fun C hCC c hc => by
    have e := hCC.symm.trans (PySem.W.mg_of X G aK0)
    cases e
    have e := hc.symm.trans (PySem.W.mg_of X G aK0)
    cases e
    exact PySem.W.exm_ref eT0 hT0 tT0 sx0_0
  i_ZeroDivisor_ZeroDivisor := fun C hCC c hc => by
    have e := hCC.symm.trans (PySem.W.mg_of X G aK0)
    cases e
    have e := hc.symm.trans (PySem.W.mg_of X G aK0)
    cases e
    exact qk0_0
  i_ZeroDivisor_ValueError := fun C hCC => by
    have e := hCC.symm.trans (PySem.W.mg_of X G aK0)
    cases e
    exact w0_ValueError
  f_fraction := ⟨f0, _, fun_mk (st := s_fraction) l0 c0 k0, PySem.W.mg_of X G a0⟩
  f_order_of := ⟨f1, _, fun_mk (st := s_order_of) l1 c1 k1, PySem.W.mg_of X G a1⟩
  f__law_draws := ⟨f2, _, fun_mk (st := s__law_draws) l2 c2 k2, PySem.W.mg_of X G a2⟩
  f__law_is_number := ⟨f3, _, fun_mk (st := s__law_is_number) l3 c3 k3, PySem.W.mg_of X G a3⟩
  f__law_gcd := ⟨f4, _, fun_mk (st := s__law_gcd) l4 c4 k4, PySem.W.mg_of X G a4⟩
  f__law_number := ⟨f5, _, fun_mk (st := s__law_number) l5 c5 k5, PySem.W.mg_of X G a5⟩
  f__law_is_zero_divisor := ⟨f6, _, fun_mk (st := s__law_is_zero_divisor) l6 c6 k6, PySem.W.mg_of X G a6⟩
  f_plus := ⟨f7, _, fun_mk (st := s_plus) l7 c7 k7, PySem.W.mg_of X G a7⟩
  f_minus := ⟨f8, _, fun_mk (st := s_minus) l8 c8 k8, PySem.W.mg_of X G a8⟩
  f_times := ⟨f9, _, fun_mk (st := s_times) l9 c9 k9, PySem.W.mg_of X G a9⟩
  f_over := ⟨f10, _, fun_mk (st := s_over) l10 c10 k10, PySem.W.mg_of X G a10⟩
  f__law_lowest := ⟨f11, _, fun_mk (st := s__law_lowest) l11 c11 k11, PySem.W.mg_of X G a11⟩
  f__law_is_pair := ⟨f12, _, fun_mk (st := s__law_is_pair) l12 c12 k12, PySem.W.mg_of X G a12⟩
  f__law_quotient_is_right := ⟨f13, _, fun_mk (st := s__law_quotient_is_right) l13 c13 k13, PySem.W.mg_of X G a13⟩
  f__law_over_is_right := ⟨f14, _, fun_mk (st := s__law_over_is_right) l14 c14 k14, PySem.W.mg_of X G a14⟩
  f__law_share := ⟨f15, _, fun_mk (st := s__law_share) l15 c15 k15, PySem.W.mg_of X G a15⟩
  f__law_seconds := ⟨f16, _, fun_mk (st := s__law_seconds) l16 c16 k16, PySem.W.mg_of X G a16⟩
  f__law_deeds_are_right := ⟨f17, _, fun_mk (st := s__law_deeds_are_right) l17 c17 k17, PySem.W.mg_of X G a17⟩
  f_law := ⟨f18, _, fun_mk (st := s_law) l18 c18 k18, PySem.W.mg_of X G a18⟩
  z_ValueError := PySem.W.mg_none_of X G y0
  z_abs := PySem.W.mg_none_of X G y1
  z_bool := PySem.W.mg_none_of X G y2
  z_gcd := PySem.W.mg_of X G y3
  z_int := PySem.W.mg_none_of X G y4
  z_isinstance := PySem.W.mg_none_of X G y5
  z_len := PySem.W.mg_none_of X G y6
  z_range := PySem.W.mg_none_of X G y7
  z_tuple := PySem.W.mg_none_of X G y8
theorem fin_mk {l : PySem.W.OpenLaw} {w : World} {K : PySem.W.Frag} {h : Heap} {mg : Str → Option Value} {fa : Addr} (T : Top l.prog K mg) (hfa : mg "law" = some (.ref fa)) :
    ∃ fd : FuncData, (∀ (s : Shared) (v : Value), BindsTo s fd ⟨[v], []⟩ [("script", v)]) ∧ ∀ base : Heap, K.In base → base.Ns mainGlobals mg → FnOk l.prog w K mg base CX0 5 fa fd ["script"] (spD 1 (d_law K)) := by
  obtain ⟨f, fd, F, hm⟩ := T.f_law
  have e := hfa.symm.trans hm
  cases e
  refine ⟨fd, ?_, fun base _ _ => ok_law F T⟩
  obtain ⟨oc, od, kV, doc, pm, an, cdv, ct, osl, rfl, lk, hcd⟩ := F.ex
  exact fun s v => .of_eq rfl
end Lw

open PySem PySem.W PyProof.Rows
set_option maxHeartbeats 0 in
theorem PySem.Challenge.cw_linktrees_k00_fractions_holds : PySem.Challenge.rw_linktrees_k00_fractions.Holds := by
  w_on; o_law; k_head; (case hw => w_witness2)
  k_fill
  refine L2.walk_of (l := PySem.Challenge.rw_linktrees_k00_fractions) (n := 63) (k := 5) (x := "script") (CX := fun _ => L2.CX0) (sp := fun w => PyL.spD 1 (Lw.d_law _)) rfl (by decide) rfl ⟨rfl, by decide, by decide⟩ (fun w h Y => PySem.W.kIn_of Y) ?F (fun _ _ a ns hl _ hS => PyL.law_sp2 hS fun d hd => Lw.law_holds hl hd) (fun _ _ _ _ _ h => h)
  case F =>
    intro w mg fa h KX G hmg
    refine' Lw.fin_mk (h := h) (Lw.top_mk KX G ?a0 ?l0 ?c0 ?k0 ?a1 ?l1 ?c1 ?k1 ?a2 ?l2 ?c2 ?k2 ?a3 ?l3 ?c3 ?k3 ?a4 ?l4 ?c4 ?k4 ?a5 ?l5 ?c5 ?k5 ?a6 ?l6 ?c6 ?k6 ?a7 ?l7 ?c7 ?k7 ?a8 ?l8 ?c8 ?k8 ?a9 ?l9 ?c9 ?k9 ?a10 ?l10 ?c10 ?k10 ?a11 ?l11 ?c11 ?k11 ?a12 ?l12 ?c12 ?k12 ?a13 ?l13 ?c13 ?k13 ?a14 ?l14 ?c14 ?k14 ?a15 ?l15 ?c15 ?k15 ?a16 ?l16 ?c16 ?k16 ?a17 ?l17 ?c17 ?k17 ?a18 ?l18 ?c18 ?k18 ?y0 ?y1 ?y2 ?y3 ?y4 ?y5 ?y6 ?y7 ?y8 ?gtp ?gsu ?gop ?gsp ?gtk ?aK0 ?aK1 ?xL0 ?sa0 ?ga0 ?gg0 ?n1_0 ?t1_0 ?l1_0 ?q1_0 ?lc0 ?la0 ?hv0 ?hf0 ?kC0 ?eC0 ?vC0 ?tC0 ?hC0 ?slC0 ?su0 ?ac0 ?mo0 ?eT1 ?hT1 ?tT1 ?sx0_1 ?qk0_1 ?eT0 ?hT0 ?tT0 ?sx0_0 ?qk0_0 ?w0_ValueError) hmg
    (case a0 => k_is); (case l0 => k_is); (case c0 => k_is); (case k0 => k_is); (case a1 => k_is); (case l1 => k_is); (case c1 => k_is); (case k1 => k_is); (case a2 => k_is); (case l2 => k_is); (case c2 => k_is); (case k2 => k_is); (case a3 => k_is); (case l3 => k_is); (case c3 => k_is); (case k3 => k_is); (case a4 => k_is); (case l4 => k_is); (case c4 => k_is); (case k4 => k_is); (case a5 => k_is); (case l5 => k_is); (case c5 => k_is); (case k5 => k_is); (case a6 => k_is); (case l6 => k_is); (case c6 => k_is); (case k6 => k_is); (case a7 => k_is); (case l7 => k_is); (case c7 => k_is); (case k7 => k_is); (case a8 => k_is); (case l8 => k_is); (case c8 => k_is); (case k8 => k_is); (case a9 => k_is); (case l9 => k_is); (case c9 => k_is); (case k9 => k_is); (case a10 => k_is); (case l10 => k_is); (case c10 => k_is); (case k10 => k_is); (case a11 => k_is); (case l11 => k_is); (case c11 => k_is); (case k11 => k_is); (case a12 => k_is); (case l12 => k_is); (case c12 => k_is); (case k12 => k_is); (case a13 => k_is); (case l13 => k_is); (case c13 => k_is); (case k13 => k_is); (case a14 => k_is); (case l14 => k_is); (case c14 => k_is); (case k14 => k_is); (case a15 => k_is); (case l15 => k_is); (case c15 => k_is); (case k15 => k_is); (case a16 => k_is); (case l16 => k_is); (case c16 => k_is); (case k16 => k_is); (case a17 => k_is); (case l17 => k_is); (case c17 => k_is); (case k17 => k_is); (case a18 => k_is); (case l18 => k_is); (case c18 => k_is); (case k18 => k_is); (case y0 => k_is); (case y1 => k_is); (case y2 => k_is); (case y3 => k_is); (case y4 => k_is); (case y5 => k_is); (case y6 => k_is); (case y7 => k_is); (case y8 => k_is); (case gtp => rfl); (case gsu => k_is); (case gop => k_is); (case gsp => k_is); (case gtk => k_is); (case aK0 => k_is); (case aK1 => k_is); (case xL0 => k_is); (case sa0 => k_is); (case ga0 => k_is); (case gg0 => k_is); (case n1_0 => k_is); (case t1_0 => k_is); (case l1_0 => k_is); (case q1_0 => k_is); (case lc0 => k_is); (case la0 => k_is); (case hv0 => rfl); (case hf0 => rfl); (case kC0 => k_is); (case eC0 => k_is); (case vC0 => k_is); (case tC0 => k_is); (case hC0 => k_is); (case slC0 => k_is); (case su0 => ks_is); (case ac0 => k_is); (case mo0 => k_is); (case eT1 => k_is); (case hT1 => k_is); (case tT1 => k_is); (case sx0_1 => first | k_is | rfl); (case qk0_1 => first | kit_is | rfl); (case eT0 => k_is); (case hT0 => k_is); (case tT0 => k_is); (case sx0_0 => first | k_is | rfl); (case qk0_0 => first | kit_is | rfl); (case w0_ValueError => first | kit_is | rfl)
