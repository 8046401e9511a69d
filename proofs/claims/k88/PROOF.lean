import PyProof.Rows.All
import Wide.All
import OpenK.AllK
import Wide.FinOn
import HandS.ForMost
import KE.DataEq
import HandS.Wide
import HandS.TupAny
import HandS.IsInst
import HandS.Gcd
import HandS.SortInts
import HandS.Deep
import HandS.Conv
import HandS.Style
import HandS.RevRange
import HandS.SetFor
import HandS.More
import HandS.Remove
import HandS.TupLe
import HandS.Dict
import HandS.WordsDict
import HandS.SortRule
import HandS.Zip
import HandS.TupSets
import HandS.Comp
import HandS.Strs
import KE.SortData
import HandS.TupLen
import PySem.Challenge.RW_linktrees_k88_whole_the_coarsest_plain_d
set_option Elab.async false
set_option linter.all false
set_option maxRecDepth 100000
namespace PyL
open PySem PySem.Spec L2
set_option autoImplicit false

/-- data without addresses -/
inductive D where
  | non | bl (b : Bool) | int (i : Int) | str (x : Str)
  | lst (ds : List D) | tup (ds : List D)
  | dK (kvs : List (Key × V)) | dT (kvs : List (List Key × V))
  | scr (K : PySem.W.Frag) (ns : List Int)
  | exc (a : Addr) (dd : Option Addr) (cls : Str) (ns : List Str) (ds : List D)

abbrev PA1 := Addr → Prop
/-- a list of the module's own writing -/
def WrL (K : PySem.W.Frag) (a : Addr) (xs : List V) : Prop :=
  ∃ (o : Obj) (its : Array Value) (n : Nat), K.lookup a = some o ∧ o.cls = .type "list" ∧ o.dict = none ∧ o.data = .seq its n ∧ its.size ≤ sizeLine ∧ Vals xs its.toList

/-- the dict of an exception -/
def XdAt (S : PA1) (H : Hp) (d : Option Addr) (l : List (Str × V)) : Prop := match d with
  | none => l = []
  | some p => ¬ S p ∧ H p = some (.xd l)
theorem XdAt.imp {S S' : PA1} {H H' : Hp} (h : ∀ b o, H b = some o → ¬ S b → H' b = some o ∧ ¬ S' b) {d : Option Addr} {l : List (Str × V)} (x : XdAt S H d l) : XdAt S' H' d l := by
  cases d with
  | none => exact x
  | some p => exact ⟨(h p _ x.2 x.1).2, (h p _ x.2 x.1).1⟩

mutual
/-- v stands for d in H, all of it outside of S -/
def Rp (S : PA1) (H : Hp) : D → V → Prop
  | .non, v => v = .non
  | .bl b, v => v = .bl b
  | .int i, v => v = .int i
  | .str x, v => v = .str x
  | .lst ds, v => ∃ a xs, v = .ref a ∧ ¬ S a ∧ H a = some (.lst xs) ∧ RpL S H ds xs
  | .tup ds, v => ∃ a xs, v = .ref a ∧ ¬ S a ∧ H a = some (.tup xs) ∧ RpL S H ds xs
  | .dK kvs, v => ∃ a, v = .ref a ∧ ¬ S a ∧ H a = some (.dK kvs)
  | .dT kvs, v => ∃ a, v = .ref a ∧ ¬ S a ∧ H a = some (.dT kvs)
  | .scr K ns, v => ∃ a, v = .ref a ∧ ((¬ S a ∧ ∃ o, H a = some (.frz o (.lst (ns.map V.int)))) ∨ WrL K a (ns.map V.int))
  | .exc a dd _ ns ds, v => v = .ref a ∧ ∃ l xs, XdAt S H dd l ∧ RpL S H ds xs ∧ ∀ p ∈ ns.zip xs, l.lookup p.1 = some p.2
def RpL (S : PA1) (H : Hp) : List D → List V → Prop
  | [], xs => xs = []
  | d :: ds, xs => ∃ x r, xs = x :: r ∧ Rp S H d x ∧ RpL S H ds r
end

mutual
theorem Rp.imp {S S' : PA1} {H H' : Hp} (h : ∀ b o, H b = some o → ¬ S b → H' b = some o ∧ ¬ S' b) : ∀ (d : D) (v : V), Rp S H d v → Rp S' H' d v
  | .non, _, x => x
  | .bl _, _, x => x
  | .int _, _, x => x
  | .str _, _, x => x
  | .lst ds, _, ⟨a, xs, e, n, r, l⟩ =>
    let ⟨o, ho⟩ : ∃ o, H a = some o := ⟨_, r⟩
    ⟨a, xs, e, (h a o ho n).2, (h a _ r n).1, RpL.imp h ds xs l⟩
  | .tup ds, _, ⟨a, xs, e, n, r, l⟩ =>
    let ⟨o, ho⟩ : ∃ o, H a = some o := ⟨_, r⟩
    ⟨a, xs, e, (h a o ho n).2, (h a _ r n).1, RpL.imp h ds xs l⟩
  | .dK kvs, _, ⟨a, e, n, r⟩ => ⟨a, e, (h a _ r n).2, (h a _ r n).1⟩
  | .dT kvs, _, ⟨a, e, n, r⟩ => ⟨a, e, (h a _ r n).2, (h a _ r n).1⟩
  | .scr _ _, _, ⟨a, e, q⟩ => ⟨a, e, q.elim (fun ⟨n, o, r⟩ => .inl ⟨(h a _ r n).2, o, (h a _ r n).1⟩) .inr⟩
  | .exc _ _ _ _ ds, _, ⟨e, l, xs, x, r, n⟩ => ⟨e, l, xs, x.imp h, RpL.imp h ds xs r, n⟩
theorem RpL.imp {S S' : PA1} {H H' : Hp} (h : ∀ b o, H b = some o → ¬ S b → H' b = some o ∧ ¬ S' b) : ∀ (ds : List D) (xs : List V), RpL S H ds xs → RpL S' H' ds xs
  | [], _, x => x
  | d :: ds, _, ⟨x, r, e, p, q⟩ => ⟨x, r, e, Rp.imp h d x p, RpL.imp h ds r q⟩
end

theorem RpL.length {S : PA1} {H : Hp} : ∀ {ds : List D} {xs : List V}, RpL S H ds xs → ds.length = xs.length
  | [], _, e => by rw [show _ = [] from e]; rfl
  | _ :: _, _, ⟨_, _, e, _, q⟩ => by rw [e, List.length_cons, List.length_cons, q.length]
theorem RpL.get {S : PA1} {H : Hp} : ∀ {ds : List D} {xs : List V} {i : Nat} {d : D}, RpL S H ds xs → ds[i]? = some d → ∃ x, xs[i]? = some x ∧ Rp S H d x
  | [], _, _, _, _, h => by simp at h
  | c :: ds, _, 0, d, ⟨x, r, e, p, q⟩, h => by
    have : c = d := by simpa using h
    subst this; subst e
    exact ⟨x, rfl, p⟩
  | c :: ds, _, i + 1, d, ⟨x, r, e, p, q⟩, h => by
    subst e
    obtain ⟨y, hy, py⟩ := RpL.get (i := i) q (by simpa using h)
    exact ⟨y, by simpa using hy, py⟩
theorem RpL.get' {S : PA1} {H : Hp} {ds : List D} {xs : List V} {i : Nat} {x : V} (r : RpL S H ds xs) (h : xs[i]? = some x) : ∃ d, ds[i]? = some d ∧ Rp S H d x := by
  have hi : i < xs.length := (List.getElem?_eq_some_iff.mp h).1
  have hj : i < ds.length := by rw [r.length]; exact hi
  obtain ⟨y, hy, py⟩ := r.get (List.getElem?_eq_getElem hj)
  rw [h] at hy; cases hy
  exact ⟨_, List.getElem?_eq_getElem hj, py⟩
theorem RpL.append {S : PA1} {H : Hp} : ∀ {ds es : List D} {xs ys : List V}, RpL S H ds xs → RpL S H es ys → RpL S H (ds ++ es) (xs ++ ys)
  | [], _, _, _, e, q => by rw [show _ = [] from e]; exact q
  | _ :: _, _, _, _, ⟨x, r, e, p, q⟩, q' => ⟨x, _, by rw [e]; rfl, p, q.append q'⟩
theorem RpL.take {S : PA1} {H : Hp} : ∀ {ds : List D} {xs : List V} (n : Nat), RpL S H ds xs → RpL S H (ds.take n) (xs.take n)
  | [], _, n, e => by rw [show _ = [] from e]; simp [RpL]
  | _ :: _, _, 0, _ => rfl
  | _ :: _, _, n + 1, ⟨x, r, e, p, q⟩ => ⟨x, _, by rw [e]; rfl, p, q.take n⟩
theorem RpL.drop {S : PA1} {H : Hp} : ∀ {ds : List D} {xs : List V} (n : Nat), RpL S H ds xs → RpL S H (ds.drop n) (xs.drop n)
  | [], _, n, e => by rw [show _ = [] from e]; simp [RpL]
  | _ :: _, _, 0, h => h
  | _ :: _, _, n + 1, ⟨x, r, e, p, q⟩ => by rw [e]; exact q.drop n
theorem RpL.snoc {S : PA1} {H : Hp} {ds : List D} {xs : List V} {d : D} {x : V} (h : RpL S H ds xs) (p : Rp S H d x) : RpL S H (ds ++ [d]) (xs ++ [x]) := h.append ⟨x, [], rfl, p, rfl⟩
theorem RpL.of_get {S : PA1} {H : Hp} : ∀ {ds : List D} {xs : List V}, ds.length = xs.length → (∀ (i : Nat) d x, ds[i]? = some d → xs[i]? = some x → Rp S H d x) → RpL S H ds xs
  | [], xs, h, _ => by cases xs with | nil => rfl | cons _ _ => simp at h
  | d :: ds, [], h, _ => by simp at h
  | d :: ds, x :: xs, h, g => ⟨x, xs, rfl, g 0 d x rfl rfl, RpL.of_get (by simpa using h) fun i d' x' a b => g (i + 1) d' x' (by simpa using a) (by simpa using b)⟩
theorem RpL.reverse {S : PA1} {H : Hp} : ∀ {ds : List D} {xs : List V}, RpL S H ds xs → RpL S H ds.reverse xs.reverse
  | [], _, e => by rw [show _ = [] from e]; rfl
  | d :: ds, _, ⟨x, r, e, p, q⟩ => by rw [e, List.reverse_cons, List.reverse_cons]; exact q.reverse.snoc p
theorem RpL.set {S : PA1} {H : Hp} {d : D} {x : V} (p : Rp S H d x) : ∀ {ds : List D} {xs : List V} (i : Nat), RpL S H ds xs → RpL S H (ds.set i d) (xs.set i x)
  | [], _, i, e => by rw [show _ = [] from e]; rfl
  | _ :: _, _, 0, ⟨y, r, e, _, q⟩ => ⟨x, r, by rw [e]; rfl, p, q⟩
  | _ :: _, _, i + 1, ⟨y, r, e, p', q⟩ => ⟨y, _, by rw [e]; rfl, p', q.set p i⟩

/-! ### owned -/
/-- items one by one, the footprints apart -/
def AllF (P : D → V → List Addr → Prop) : List D → List V → List Addr → Prop
  | [], xs, fp => xs = [] ∧ fp = []
  | d :: ds, xs, fp => ∃ x r f1 f2, xs = x :: r ∧ P d x f1 ∧ AllF P ds r f2 ∧ fp = f1 ++ f2 ∧ ∀ a, a ∈ f1 → a ∉ f2

def Ow (S : PA1) (H : Hp) : Nat → D → V → List Addr → Prop
  | 0, d, v, fp => Rp S H d v ∧ fp = []
  | k + 1, .lst ds, v, fp => ∃ a xs fq, v = .ref a ∧ H a = some (.lst xs) ∧ AllF (Ow S H k) ds xs fq ∧ fp = a :: fq ∧ a ∉ fq
  | k + 1, .tup ds, v, fp => ∃ a xs, v = .ref a ∧ ¬ S a ∧ H a = some (.tup xs) ∧ AllF (Ow S H k) ds xs fp
  | k + 1, .dK kvs, v, fp => ∃ a, v = .ref a ∧ H a = some (.dK kvs) ∧ fp = [a]
  | k + 1, .dT kvs, v, fp => ∃ a, v = .ref a ∧ H a = some (.dT kvs) ∧ fp = [a]
  | k + 1, .scr K ns, v, fp => Rp S H (.scr K ns) v ∧ fp = []
  | k + 1, .exc a dd c ns ds, v, fp => Rp S H (.exc a dd c ns ds) v ∧ fp = []
  | k + 1, .non, v, fp => v = .non ∧ fp = []
  | k + 1, .bl b, v, fp => v = .bl b ∧ fp = []
  | k + 1, .int i, v, fp => v = .int i ∧ fp = []
  | k + 1, .str x, v, fp => v = .str x ∧ fp = []

theorem AllF.imp {P Q : D → V → List Addr → Prop} : ∀ {ds : List D} {xs : List V} {fp : List Addr}, AllF P ds xs fp → (∀ d v f, (∀ a ∈ f, a ∈ fp) → P d v f → Q d v f) → AllF Q ds xs fp
  | [], _, _, h, _ => h
  | _ :: _, _, _, ⟨x, r, f1, f2, e, p, q, ef, dj⟩, g =>
    ⟨x, r, f1, f2, e, g _ _ _ (fun a ha => by rw [ef]; exact List.mem_append_left _ ha) p, q.imp fun d v f hf => g d v f fun a ha => by rw [ef]; exact List.mem_append_right _ (hf a ha), ef, dj⟩

theorem Ow.imp {S S' : PA1} {H H' : Hp} (h : ∀ b o, H b = some o → ¬ S b → H' b = some o ∧ ¬ S' b) : ∀ (k : Nat) (d : D) (v : V) (fp : List Addr), (∀ b o, b ∈ fp → H b = some o → H' b = some o) → Ow S H k d v fp → Ow S' H' k d v fp
  | 0, d, v, fp, _, ⟨p, e⟩ => ⟨Rp.imp h d v p, e⟩
  | k + 1, .lst ds, v, fp, g, ⟨a, xs, fq, e, ha, al, ef, nd⟩ => ⟨a, xs, fq, e, g _ _ (by rw [ef]; exact List.mem_cons_self) ha,
      al.imp fun d x f hf p => Ow.imp h k d x f (fun b o hb => g b o (by rw [ef]; exact List.mem_cons_of_mem _ (hf b hb))) p, ef, nd⟩
  | k + 1, .tup ds, v, fp, g, ⟨a, xs, e, n, r, al⟩ =>
    let ⟨o, ho⟩ : ∃ o, H a = some o := ⟨_, r⟩
    ⟨a, xs, e, (h a o ho n).2, (h a _ r n).1, al.imp fun d x f hf p => Ow.imp h k d x f (fun b o hb => g b o (hf b hb)) p⟩
  | k + 1, .dK kvs, v, fp, g, ⟨a, e, ha, ef⟩ => ⟨a, e, g _ _ (by rw [ef]; exact List.mem_singleton.mpr rfl) ha, ef⟩
  | k + 1, .dT kvs, v, fp, g, ⟨a, e, ha, ef⟩ => ⟨a, e, g _ _ (by rw [ef]; exact List.mem_singleton.mpr rfl) ha, ef⟩
  | k + 1, .scr K ns, v, fp, g, ⟨p, e⟩ => ⟨Rp.imp h (.scr K ns) v p, e⟩
  | k + 1, .exc a dd c ns ds, v, fp, g, ⟨p, e⟩ => ⟨Rp.imp h (.exc a dd c ns ds) v p, e⟩
  | k + 1, .non, _, _, _, x => x
  | k + 1, .bl _, _, _, _, x => x
  | k + 1, .int _, _, _, _, x => x
  | k + 1, .str _, _, _, _, x => x

/-- tracked, a list or a dict -/
def Mt : HO → Prop
  | .lst _ => True
  | .dK _ => True
  | .dT _ => True
  | _ => False
def TrM (H : Hp) (a : Addr) : Prop := ∃ o, H a = some o ∧ Mt o
theorem TrM.grow {H H' : Hp} {a : Addr} (h : TrM H a) (e : Same H H') : TrM H' a := let ⟨o, q, m⟩ := h; ⟨o, e _ _ q, m⟩
theorem TrM.notTup {H : Hp} {a : Addr} {xs : List V} (h : TrM H a) (r : H a = some (.tup xs)) : False := by
  obtain ⟨o, e, m⟩ := h
  rw [e] at r; cases r; exact m
theorem TrM.notFrz {H : Hp} {a : Addr} {o : Obj} {u : HO} (h : TrM H a) (r : H a = some (.frz o u)) : False := by
  obtain ⟨o, e, m⟩ := h
  rw [e] at r; cases r; exact m
/-- what is owned is there -/
theorem AllF.there {P : D → V → List Addr → Prop} {H : Hp} (h : ∀ d v f, P d v f → ∀ a ∈ f, TrM H a) : ∀ {ds : List D} {xs : List V} {fp : List Addr}, AllF P ds xs fp → ∀ a ∈ fp, TrM H a
  | [], _, _, ⟨_, e⟩, a, ha => by rw [e] at ha; cases ha
  | _ :: _, _, _, ⟨x, r, f1, f2, e, p, q, ef, dj⟩, a, ha => by
    rw [ef] at ha
    rcases List.mem_append.mp ha with ha | ha
    · exact h _ _ _ p a ha
    · exact q.there h a ha
theorem Ow.there {S : PA1} {H : Hp} : ∀ (k : Nat) (d : D) (v : V) (fp : List Addr), Ow S H k d v fp → ∀ a ∈ fp, TrM H a
  | 0, _, _, _, ⟨_, e⟩, a, ha => by rw [e] at ha; cases ha
  | k + 1, .lst ds, v, fp, ⟨b, xs, fq, e, hb, al, ef, nd⟩, a, ha => by
    rw [ef] at ha
    rcases List.mem_cons.mp ha with z | z
    · exact ⟨.lst xs, z ▸ hb, trivial⟩
    · exact al.there (fun d x f p => Ow.there k d x f p) a z
  | k + 1, .tup ds, v, fp, ⟨b, xs, e, n, r, al⟩, a, ha => al.there (fun d x f p => Ow.there k d x f p) a ha
  | k + 1, .dK kvs, v, fp, ⟨b, e, hb, ef⟩, a, ha => by rw [ef] at ha; exact ⟨.dK kvs, (List.mem_singleton.mp ha) ▸ hb, trivial⟩
  | k + 1, .dT kvs, v, fp, ⟨b, e, hb, ef⟩, a, ha => by rw [ef] at ha; exact ⟨.dT kvs, (List.mem_singleton.mp ha) ▸ hb, trivial⟩
  | k + 1, .scr _ _, _, _, ⟨_, e⟩, a, ha => by rw [e] at ha; cases ha
  | k + 1, .exc _ _ _ _ _, _, _, ⟨_, e⟩, a, ha => by rw [e] at ha; cases ha
  | k + 1, .non, _, _, ⟨_, e⟩, a, ha => by rw [e] at ha; cases ha
  | k + 1, .bl _, _, _, ⟨_, e⟩, a, ha => by rw [e] at ha; cases ha
  | k + 1, .int _, _, _, ⟨_, e⟩, a, ha => by rw [e] at ha; cases ha
  | k + 1, .str _, _, _, ⟨_, e⟩, a, ha => by rw [e] at ha; cases ha

/-- frozen: outside of any S' that lies within S and holds nothing owned -/
theorem AllF.toL {P : D → V → List Addr → Prop} {S : PA1} {H : Hp} : ∀ {ds : List D} {xs : List V} {fp : List Addr}, AllF P ds xs fp → (∀ d v f, (∀ a ∈ f, a ∈ fp) → P d v f → Rp S H d v) → RpL S H ds xs
  | [], _, _, ⟨e, _⟩, _ => e
  | _ :: _, _, _, ⟨x, r, f1, f2, e, p, q, ef, dj⟩, g =>
    ⟨x, r, e, g _ _ _ (fun a ha => by rw [ef]; exact List.mem_append_left _ ha) p, q.toL fun d v f hf => g d v f fun a ha => by rw [ef]; exact List.mem_append_right _ (hf a ha)⟩
theorem Ow.frz {S S' : PA1} {H : Hp} (hs : ∀ a o, H a = some o → S' a → S a) : ∀ (k : Nat) (d : D) (v : V) (fp : List Addr), (∀ a ∈ fp, ¬ S' a) → Ow S H k d v fp → Rp S' H d v
  | 0, d, v, fp, _, ⟨p, e⟩ => Rp.imp (fun b o e n => ⟨e, fun z => n (hs b o e z)⟩) d v p
  | k + 1, .lst ds, v, fp, g, ⟨a, xs, fq, e, ha, al, ef, nd⟩ => ⟨a, xs, e, g a (by rw [ef]; exact List.mem_cons_self), ha,
      al.toL fun d x f hf p => Ow.frz hs k d x f (fun b hb => g b (by rw [ef]; exact List.mem_cons_of_mem _ (hf b hb))) p⟩
  | k + 1, .tup ds, v, fp, g, ⟨a, xs, e, n, r, al⟩ =>
    let ⟨o, ho⟩ : ∃ o, H a = some o := ⟨_, r⟩
    ⟨a, xs, e, fun z => n (hs a o ho z), r, al.toL fun d x f hf p => Ow.frz hs k d x f (fun b hb => g b (hf b hb)) p⟩
  | k + 1, .dK kvs, v, fp, g, ⟨a, e, ha, ef⟩ => ⟨a, e, g a (by rw [ef]; exact List.mem_singleton.mpr rfl), ha⟩
  | k + 1, .dT kvs, v, fp, g, ⟨a, e, ha, ef⟩ => ⟨a, e, g a (by rw [ef]; exact List.mem_singleton.mpr rfl), ha⟩
  | k + 1, .scr K ns, v, fp, g, ⟨p, e⟩ => Rp.imp (fun b o e n => ⟨e, fun z => n (hs b o e z)⟩) (.scr K ns) v p
  | k + 1, .exc a dd c ns ds, v, fp, g, ⟨p, e⟩ => Rp.imp (fun b o e n => ⟨e, fun z => n (hs b o e z)⟩) (.exc a dd c ns ds) v p
  | k + 1, .non, _, _, _, x => x.1
  | k + 1, .bl _, _, _, _, x => x.1
  | k + 1, .int _, _, _, _, x => x.1
  | k + 1, .str _, _, _, _, x => x.1

/-! nothing below the own part is a list or a dict -/
mutual
def af : Nat → D → Bool
  | 0, .lst _ => false
  | 0, .dK _ => false
  | 0, .dT _ => false
  | 0, .tup ds => afL 0 ds
  | k + 1, .lst ds => afL k ds
  | k + 1, .tup ds => afL k ds
  | k + 1, .dK _ => true
  | k + 1, .dT _ => true
  | _, .scr _ _ => true
  | _, .exc _ _ _ _ _ => false
  | _, .non => true
  | _, .bl _ => true
  | _, .int _ => true
  | _, .str _ => true
def afL : Nat → List D → Bool
  | _, [] => true
  | k, d :: ds => af k d && afL k ds
end
mutual
theorem Rp.af {S S' : PA1} {H : Hp} (h : ∀ a, S' a → TrM H a) : ∀ (d : D) (v : V), af 0 d = true → Rp S H d v → Rp S' H d v
  | .non, _, _, x => x
  | .bl _, _, _, x => x
  | .int _, _, _, x => x
  | .str _, _, _, x => x
  | .lst _, _, q, _ => by simp [PyL.af] at q
  | .dK _, _, q, _ => by simp [PyL.af] at q
  | .dT _, _, q, _ => by simp [PyL.af] at q
  | .tup ds, v, q, ⟨a, xs, e, n, r, l⟩ => ⟨a, xs, e, fun z => (h a z).notTup r, r, RpL.af h ds xs (by simpa [PyL.af] using q) l⟩
  | .scr _ _, _, _, ⟨a, e, q⟩ => ⟨a, e, q.elim (fun ⟨n, o, r⟩ => .inl ⟨fun z => (h a z).notFrz r, o, r⟩) .inr⟩
  | .exc _ _ _ _ _, _, q, _ => by simp [PyL.af] at q
theorem RpL.af {S S' : PA1} {H : Hp} (h : ∀ a, S' a → TrM H a) : ∀ (ds : List D) (xs : List V), afL 0 ds = true → RpL S H ds xs → RpL S' H ds xs
  | [], _, _, x => x
  | d :: ds, _, q, ⟨x, r, e, p, l⟩ => by
    simp only [PyL.afL, Bool.and_eq_true] at q
    exact ⟨x, r, e, Rp.af h d x q.1 p, RpL.af h ds r q.2 l⟩
end
theorem AllF.af {P Q : D → V → List Addr → Prop} {k : Nat} : ∀ {ds : List D} {xs : List V} {fp : List Addr}, afL k ds = true → AllF P ds xs fp → (∀ d v f, PyL.af k d = true → P d v f → Q d v f) → AllF Q ds xs fp
  | [], _, _, _, h, _ => h
  | d :: ds, _, _, q, ⟨x, r, f1, f2, e, p, l, ef, dj⟩, g => by
    simp only [PyL.afL, Bool.and_eq_true] at q
    exact ⟨x, r, f1, f2, e, g _ _ _ q.1 p, l.af q.2 g, ef, dj⟩
theorem Ow.af {S S' : PA1} {H : Hp} (h : ∀ a, S' a → TrM H a) : ∀ (k : Nat) (d : D) (v : V) (fp : List Addr), PyL.af k d = true → Ow S H k d v fp → Ow S' H k d v fp
  | 0, d, v, fp, q, ⟨p, e⟩ => ⟨Rp.af h d v q p, e⟩
  | k + 1, .lst ds, v, fp, q, ⟨a, xs, fq, e, ha, al, ef, nd⟩ => ⟨a, xs, fq, e, ha, al.af (k := k) (by simpa [PyL.af] using q) fun d x f z p => Ow.af h k d x f z p, ef, nd⟩
  | k + 1, .tup ds, v, fp, q, ⟨a, xs, e, n, r, al⟩ => ⟨a, xs, e, fun z => (h a z).notTup r, r, al.af (k := k) (by simpa [PyL.af] using q) fun d x f z p => Ow.af h k d x f z p⟩
  | k + 1, .scr K ns, v, _, q, ⟨p, e⟩ => ⟨Rp.af h (.scr K ns) v rfl p, e⟩
  | k + 1, .exc _ _ _ _ _, _, _, q, _ => by simp [PyL.af] at q
  | k + 1, .dK _, _, _, _, x => x
  | k + 1, .dT _, _, _, _, x => x
  | k + 1, .non, _, _, _, x => x
  | k + 1, .bl _, _, _, _, x => x
  | k + 1, .int _, _, _, _, x => x
  | k + 1, .str _, _, _, _, x => x

/-! ### outcomes -/
/-- an exception: its class, its fields -/
structure Exn where
  cls : Str
  fs : List (Str × D)
inductive Res (α : Type) where
  | ok (a : α) | exn (x : Exn) | bad
def Res.bind {α β : Type} : Res α → (α → Res β) → Res β
  | .ok a, f => f a
  | .exn x, _ => .exn x
  | .bad, _ => .bad
instance : Monad Res where
  pure := Res.ok
  bind := Res.bind

/-- a value: its datum, how deep it is one's own, the slots whose own parts it (its items) may hold -/
structure R where
  d : D
  k : Nat
  e : List Nat
  c : List Nat
abbrev Slot := Option (D × Nat)
abbrev Ev := List Slot
abbrev FE := Ev → Res R
end PyL

namespace PyL
open PySem PySem.Spec L2
set_option autoImplicit false

abbrev FP := Nat → List Addr
def inS (S0 : PA1) (F : FP) (e : List Nat) : PA1 := fun a => S0 a ∨ ∃ i, i ∉ e ∧ a ∈ F i

theorem same_upd {H : Hp} {p : Addr} {o : HO} (h : H p = none) : Same H (upd H p o) := fun b x e => by
  rw [upd_ne (ne_of_none e h)]
  exact e
theorem Same.none {H H' : Hp} (e : Same H H') {l : Addr} (h : H' l = Option.none) : H l = Option.none := e.free h

/-- the slots' values, for expressions -/
structure EE (S0 : PA1) (ρ : Ev) (σ : St) (H : Hp) (F : FP) : Prop where
  len : ρ.length = σ.length
  rep : ∀ i d k, ρ[i]? = some (some (d, k)) → ∃ v, σ[i]? = some (some v) ∧ Ow (inS S0 F []) H k d v (F i)
  disj : ∀ i j a, a ∈ F i → a ∈ F j → i = j
  trk : ∀ i a, a ∈ F i → TrM H a
  out : ∀ a, S0 a → TrM H a
  apart : ∀ i a, a ∈ F i → ¬ S0 a

theorem EE.inTr {S0 : PA1} {ρ : Ev} {σ : St} {H : Hp} {F : FP} (E : EE S0 ρ σ H F) {e : List Nat} {a : Addr} (h : inS S0 F e a) : TrM H a := by
  rcases h with h | ⟨i, _, h⟩
  · exact E.out a h
  · exact E.trk i a h
theorem EE.fresh {S0 : PA1} {ρ : Ev} {σ : St} {H : Hp} {F : FP} (E : EE S0 ρ σ H F) {e : List Nat} {a : Addr} (h : inS S0 F e a) (n : H a = none) : False := by
  obtain ⟨o, q, _⟩ := E.inTr h
  rw [n] at q; cases q
/-- the heap grows, more is forbidden -/
theorem EE.ext {S0 S1 : PA1} {ρ : Ev} {σ : St} {H H' : Hp} {F : FP} (E : EE S0 ρ σ H F) (sm : Same H H') (h1 : ∀ a, S1 a → S0 a ∨ H a = none) (h2 : ∀ a, S1 a → TrM H' a) : EE S1 ρ σ H' F where
  len := E.len
  rep := fun i d k h => by
    obtain ⟨v, e, o⟩ := E.rep i d k h
    refine ⟨v, e, Ow.imp (fun b o q n => ⟨sm _ _ q, fun z => ?_⟩) k d v _ (fun b o _ q => sm _ _ q) o⟩
    rcases z with z | ⟨j, hj, z⟩
    · rcases h1 b z with z | z
      · exact n (.inl z)
      · rw [z] at q; cases q
    · exact n (.inr ⟨j, hj, z⟩)
  disj := E.disj
  trk := fun i a h => (E.trk i a h).grow sm
  out := h2
  apart := fun i a h z => by
    rcases h1 a z with q | q
    · exact E.apart i a h q
    · obtain ⟨o, e, _⟩ := E.trk i a h
      rw [q] at e; cases e
theorem EE.grow {S0 : PA1} {ρ : Ev} {σ : St} {H H' : Hp} {F : FP} (E : EE S0 ρ σ H F) (sm : Same H H') : EE S0 ρ σ H' F :=
  E.ext sm (fun _ h => .inl h) fun a h => (E.out a h).grow sm

/-! ### slots that are frozen -/
def frz1 (i : Nat) (ρ : Ev) : Ev := match ρ[i]? with
  | some (some (d, _)) => ρ.set i (some (d, 0))
  | _ => ρ
def frzL : List Nat → Ev → Ev
  | [], ρ => ρ
  | i :: e, ρ => frzL e (frz1 i ρ)
def cutF (e : List Nat) (F : FP) : FP := fun j => if j ∈ e then [] else F j
theorem cutF_mem {e : List Nat} {F : FP} {j : Nat} {a : Addr} : a ∈ cutF e F j ↔ j ∉ e ∧ a ∈ F j := by
  unfold cutF
  split
  · simp_all
  · simp_all
theorem cutF_cons (i : Nat) (e : List Nat) (F : FP) : cutF (i :: e) F = cutF e (cutF [i] F) := by
  funext j
  unfold cutF
  by_cases h1 : j = i <;> by_cases h2 : j ∈ e <;> simp [h1, h2]
theorem cutF_nil (F : FP) : cutF [] F = F := by funext j; simp [cutF]
theorem inS_cut {S0 : PA1} {F : FP} {e e' : List Nat} {a : Addr} : inS S0 (cutF e F) e' a ↔ inS S0 F (e ++ e') a := by
  unfold inS
  constructor
  · rintro (h | ⟨i, h1, h2⟩)
    · exact .inl h
    · obtain ⟨h3, h4⟩ := cutF_mem.mp h2
      exact .inr ⟨i, by simp [h1, h3], h4⟩
  · rintro (h | ⟨i, h1, h2⟩)
    · exact .inl h
    · have : i ∉ e ∧ i ∉ e' := by simpa using h1
      exact .inr ⟨i, this.2, cutF_mem.mpr ⟨this.1, h2⟩⟩
theorem frz1_len (i : Nat) (ρ : Ev) : (frz1 i ρ).length = ρ.length := by
  unfold frz1
  split <;> simp
theorem frzL_len : ∀ (e : List Nat) (ρ : Ev), (frzL e ρ).length = ρ.length
  | [], _ => rfl
  | i :: e, ρ => by unfold frzL; rw [frzL_len e, frz1_len]
theorem EE.frz1 {S0 : PA1} {ρ : Ev} {σ : St} {H : Hp} {F : FP} (E : EE S0 ρ σ H F) (i : Nat) : EE S0 (frz1 i ρ) σ H (cutF [i] F) where
  len := by rw [frz1_len]; exact E.len
  rep := fun j d k h => by
    have sub : ∀ a, inS S0 (cutF [i] F) [] a → inS S0 F [] a := fun a z => by
      rcases z with z | ⟨n, _, z⟩
      · exact .inl z
      · exact .inr ⟨n, by simp, (cutF_mem.mp z).2⟩
    by_cases hj : j = i
    · subst hj
      unfold PyL.frz1 at h
      cases q : ρ[j]? with
      | none => rw [q] at h; simp only at h; rw [q] at h; cases h
      | some s =>
        cases s with
        | none => rw [q] at h; simp only at h; rw [q] at h; cases h
        | some p =>
          obtain ⟨d', k'⟩ := p
          rw [q] at h
          simp only at h
          rw [List.getElem?_set_self (List.getElem?_eq_some_iff.mp q).1] at h
          cases h
          obtain ⟨v, e, o⟩ := E.rep j d k' q
          refine ⟨v, e, Ow.frz (fun a _ _ z => sub a z) k' d v _ (fun a ha z => ?_) o, by simp [cutF]⟩
          rcases z with z | ⟨n, _, z⟩
          · exact E.apart j a ha z
          · obtain ⟨z1, z2⟩ := cutF_mem.mp z
            exact z1 (by simp [E.disj _ _ _ z2 ha])
    · have h' : ρ[j]? = some (some (d, k)) := by
        unfold PyL.frz1 at h
        split at h
        · rw [List.getElem?_set_ne (Ne.symm hj)] at h; exact h
        · exact h
      obtain ⟨v, e, o⟩ := E.rep j d k h'
      refine ⟨v, e, ?_⟩
      rw [show cutF [i] F j = F j by simp [cutF, hj]]
      exact Ow.imp (fun b o q n => ⟨q, fun z => n (sub b z)⟩) k d v _ (fun _ _ _ q => q) o
  disj := fun a b c h1 h2 => E.disj a b c (cutF_mem.mp h1).2 (cutF_mem.mp h2).2
  trk := fun j a h => E.trk j a (cutF_mem.mp h).2
  out := E.out
  apart := fun j a h => E.apart j a (cutF_mem.mp h).2
theorem EE.frzL {S0 : PA1} {σ : St} {H : Hp} : ∀ (e : List Nat) {ρ : Ev} {F : FP}, EE S0 ρ σ H F → EE S0 (frzL e ρ) σ H (cutF e F)
  | [], ρ, F, E => by rw [cutF_nil]; exact E
  | i :: e, ρ, F, E => by rw [cutF_cons]; exact EE.frzL e (E.frz1 i)

/-! ### a value -/
def ItD (S : PA1) (H : Hp) : D → V → Prop
  | .lst ds, v => ∃ a xs, v = .ref a ∧ H a = some (.lst xs) ∧ RpL S H ds xs
  | .tup ds, v => ∃ a xs, v = .ref a ∧ H a = some (.tup xs) ∧ RpL S H ds xs
  | _, _ => True
theorem ItD.imp {S S' : PA1} {H H' : Hp} (sm : Same H H') (h : ∀ b o, H b = some o → ¬ S b → ¬ S' b) : ∀ {d : D} {v : V}, ItD S H d v → ItD S' H' d v
  | .lst ds, _, ⟨a, xs, e, r, l⟩ => ⟨a, xs, e, sm _ _ r, RpL.imp (fun b o q n => ⟨sm _ _ q, h b o q n⟩) _ _ l⟩
  | .tup ds, _, ⟨a, xs, e, r, l⟩ => ⟨a, xs, e, sm _ _ r, RpL.imp (fun b o q n => ⟨sm _ _ q, h b o q n⟩) _ _ l⟩
  | .non, _, _ => trivial
  | .bl _, _, _ => trivial
  | .int _, _, _ => trivial
  | .str _, _, _ => trivial
  | .dK _, _, _ => trivial
  | .dT _, _, _ => trivial
  | .scr _ _, _, _ => trivial
  | .exc _ _ _ _ _, _, _ => trivial
theorem ItD.of {S : PA1} {H : Hp} : ∀ {d : D} {v : V}, Rp S H d v → ItD S H d v
  | .lst ds, _, ⟨a, xs, e, _, r, l⟩ => ⟨a, xs, e, r, l⟩
  | .tup ds, _, ⟨a, xs, e, _, r, l⟩ => ⟨a, xs, e, r, l⟩
  | .non, _, _ => trivial
  | .bl _, _, _ => trivial
  | .int _, _, _ => trivial
  | .str _, _, _ => trivial
  | .dK _, _, _ => trivial
  | .dT _, _, _ => trivial
  | .scr _ _, _, _ => trivial
  | .exc _ _ _ _ _, _, _ => trivial

structure VR (S0 : PA1) (F : FP) (H : Hp) (r : R) (v : V) (fp : List Addr) : Prop where
  ow : Ow (fun a => inS S0 F r.e a ∨ a ∈ fp) H r.k r.d v fp
  it : ItD (inS S0 F r.c) H r.d v
/-- .. frozen -/
structure Fz (S0 : PA1) (F : FP) (H : Hp) (r : R) (v : V) : Prop where
  rp : Rp (inS S0 F r.e) H r.d v
  it : ItD (inS S0 F r.c) H r.d v
theorem VR.fz {S0 : PA1} {F : FP} {H : Hp} {r : R} {v : V} {fp : List Addr} (h : VR S0 F H r v fp) (n : ∀ a ∈ fp, ¬ inS S0 F r.e a) : Fz S0 F H r v :=
  ⟨Ow.frz (fun _ _ _ z => .inl z) _ _ _ _ n h.ow, h.it⟩
theorem Fz.grow {S0 : PA1} {F : FP} {H H' : Hp} {r : R} {v : V} (h : Fz S0 F H r v) (sm : Same H H') : Fz S0 F H' r v :=
  ⟨Rp.imp (fun b o q n => ⟨sm _ _ q, n⟩) _ _ h.rp, h.it.imp sm fun _ _ _ n => n⟩
theorem Fz.vr {S0 : PA1} {F : FP} {H : Hp} {r : R} {v : V} (h : Fz S0 F H r v) (hk : r.k = 0) : VR S0 F H r v [] :=
  ⟨by rw [hk]; exact ⟨Rp.imp (fun b o q n => ⟨q, fun z => z.elim n (fun z => by cases z)⟩) _ _ h.rp, rfl⟩, h.it⟩
/-- a plain reading -/
abbrev Rr (H : Hp) (d : D) (v : V) : Prop := Rp (fun _ => False) H d v
theorem Fz.rr {S0 : PA1} {F : FP} {H : Hp} {r : R} {v : V} (h : Fz S0 F H r v) : Rr H r.d v := Rp.imp (fun b o q _ => ⟨q, fun z => z⟩) _ _ h.rp

/-- an exception's wish -/
abbrev WK := Str → Option Addr → St → Hp → Prop
def W0 : WK := fun _ _ _ _ => False
/-- an exception's fields -/
def repF (S : PA1) (fs : List (Str × D)) (d : Option Addr) (H : Hp) : Prop := ∃ l xs, XdAt S H d l ∧ RpL S H (fs.map (·.2)) xs ∧ ∀ p ∈ (fs.map (·.1)).zip xs, l.lookup p.1 = some p.2
theorem repF.imp {S S' : PA1} {H H' : Hp} {fs : List (Str × D)} {d : Option Addr} (h : ∀ b o, H b = some o → ¬ S b → H' b = some o ∧ ¬ S' b) (r : repF S fs d H) : repF S' fs d H' := by
  obtain ⟨l, xs, x, r, n⟩ := r
  exact ⟨l, xs, x.imp h, RpL.imp h _ _ r, n⟩
theorem repF.mono {S S' : PA1} {H : Hp} {fs : List (Str × D)} {d : Option Addr} (h : ∀ a, S' a → S a) (r : repF S fs d H) : repF S' fs d H := r.imp fun _ _ e n => ⟨e, fun z => n (h _ z)⟩

def Post (W : WK) (S0 : PA1) (F : FP) (σ : St) (H : Hp) (Q : VK) : Res R → Prop
  | .ok r => ∀ v H' fp, Same H H' → (∀ a ∈ fp, H a = none) → VR S0 F H' r v fp → Q v H'
  | .exn x => ∀ H', Same H H' → ∀ d, repF S0 x.fs d H' → W x.cls d σ H'
  | .bad => False
theorem Post.grow {W : WK} {S0 : PA1} {F : FP} {σ : St} {H H1 : Hp} {Q : VK} : ∀ {r : Res R}, Post W S0 F σ H Q r → Same H H1 → Post W S0 F σ H1 Q r
  | .ok r, h, sm => fun v H' fp s n q => h v H' fp (sm.trans s) (fun a ha => sm.free (n a ha)) q
  | .exn x, h, sm => fun H' s => h H' (sm.trans s)
  | .bad, h, _ => h
def rdE (W : WK) (f : FE) : TE := fun σ H Q => ∃ S0 ρ F, EE S0 ρ σ H F ∧ Post W S0 F σ H Q (f ρ)

abbrev FT := Ev → Res Bool
def PostT (W : WK) (S0 : PA1) (σ : St) (H : Hp) (Q : Bool → Hp → Prop) : Res Bool → Prop
  | .ok b => ∀ H', Same H H' → Q b H'
  | .exn x => ∀ H', Same H H' → ∀ d, repF S0 x.fs d H' → W x.cls d σ H'
  | .bad => False
theorem PostT.grow {W : WK} {S0 : PA1} {σ : St} {H H1 : Hp} {Q : Bool → Hp → Prop} : ∀ {r : Res Bool}, PostT W S0 σ H Q r → Same H H1 → PostT W S0 σ H1 Q r
  | .ok _, h, sm => fun H' s => h H' (sm.trans s)
  | .exn x, h, sm => fun H' s => h H' (sm.trans s)
  | .bad, h, _ => h
def rdT (W : WK) (f : FT) : TT := fun σ H Q => ∃ S0 ρ F, EE S0 ρ σ H F ∧ PostT W S0 σ H Q (f ρ)

/-- one after the other -/
theorem post_bind {W : WK} {S0 : PA1} {ρ : Ev} {F : FP} {σ : St} {H : Hp} {f : FE} {Q : VK} {g : R → Res R} {K : V → Hp → Prop} (E : EE S0 ρ σ H F) (h : Post W S0 F σ H Q ((f ρ).bind g))
    (k : ∀ r v H1 fp, Same H H1 → (∀ a ∈ fp, H a = none) → VR S0 F H1 r v fp → EE S0 ρ σ H1 F → Post W S0 F σ H1 Q (g r) → K v H1) : rdE W f σ H K := by
  refine ⟨S0, ρ, F, E, ?_⟩
  cases q : f ρ with
  | ok r =>
    rw [q] at h
    exact fun v H1 fp s n vr => k r v H1 fp s n vr (E.grow s) (Post.grow h s)
  | exn x => rw [q] at h; exact h
  | bad => rw [q] at h; exact h
theorem postT_bind {W : WK} {S0 : PA1} {ρ : Ev} {F : FP} {σ : St} {H : Hp} {f : FE} {Q : Bool → Hp → Prop} {g : R → Res Bool} {K : V → Hp → Prop} (E : EE S0 ρ σ H F) (h : PostT W S0 σ H Q ((f ρ).bind g))
    (k : ∀ r v H1 fp, Same H H1 → (∀ a ∈ fp, H a = none) → VR S0 F H1 r v fp → EE S0 ρ σ H1 F → PostT W S0 σ H1 Q (g r) → K v H1) : rdE W f σ H K := by
  refine ⟨S0, ρ, F, E, ?_⟩
  cases q : f ρ with
  | ok r =>
    rw [q] at h
    exact fun v H1 fp s n vr => k r v H1 fp s n vr (E.grow s) (PostT.grow h s)
  | exn x => rw [q] at h; exact h
  | bad => rw [q] at h; exact h
theorem tt_bind {W : WK} {S0 : PA1} {ρ : Ev} {F : FP} {σ : St} {H : Hp} {f : FT} {Q : Bool → Hp → Prop} {g : Bool → Res Bool} {K : Bool → Hp → Prop} (E : EE S0 ρ σ H F) (h : PostT W S0 σ H Q ((f ρ).bind g))
    (k : ∀ b H1, Same H H1 → EE S0 ρ σ H1 F → PostT W S0 σ H1 Q (g b) → K b H1) : rdT W f σ H K := by
  refine ⟨S0, ρ, F, E, ?_⟩
  cases q : f ρ with
  | ok b =>
    rw [q] at h
    exact fun H1 s => k b H1 s (E.grow s) (PostT.grow h s)
  | exn x => rw [q] at h; exact h
  | bad => rw [q] at h; exact h
theorem te_bind {W : WK} {S0 : PA1} {ρ : Ev} {F : FP} {σ : St} {H : Hp} {f : FT} {Q : VK} {g : Bool → Res R} {K : Bool → Hp → Prop} (E : EE S0 ρ σ H F) (h : Post W S0 F σ H Q ((f ρ).bind g))
    (k : ∀ b H1, Same H H1 → EE S0 ρ σ H1 F → Post W S0 F σ H1 Q (g b) → K b H1) : rdT W f σ H K := by
  refine ⟨S0, ρ, F, E, ?_⟩
  cases q : f ρ with
  | ok b =>
    rw [q] at h
    exact fun H1 s => k b H1 s (E.grow s) (Post.grow h s)
  | exn x => rw [q] at h; exact h
  | bad => rw [q] at h; exact h

theorem peI {X : Cx} {e : Expr} {t t' : TE} (h : PE X e t) (i : ∀ σ H Q, t' σ H Q → t σ H Q) : PE X e t' := ⟨fun pins s σ H Q I q => h.run pins s σ H Q I (i σ H Q q)⟩
theorem ptI {X : Cx} {e : Expr} {t t' : TT} (h : PT X e t) (i : ∀ σ H Q, t' σ H Q → t σ H Q) : PT X e t' := ⟨fun pins s σ H Q I q => h.run pins s σ H Q I (i σ H Q q)⟩
theorem pwI {X : Cx} {e : Expr} {t t' : TT} (h : PW X e t) (i : ∀ σ H Q, t' σ H Q → t σ H Q) : PW X e t' := ⟨fun w pins s σ H Q I q => h.run w pins s σ H Q I (i σ H Q q)⟩
theorem psI {X : Cx} {e : Stmt} {t t' : TS} (h : PS X e t) (i : ∀ D σ H, t' D σ H → t D σ H) : PS X e t' := ⟨fun pins s σ H D I q => h.run pins s σ H D I (i D σ H q)⟩
theorem pssI {X : Cx} {e : List Stmt} {t t' : TS} (h : PSs X e t) (i : ∀ D σ H, t' D σ H → t D σ H) : PSs X e t' := ⟨fun pins s σ H D I q => h.run pins s σ H D I (i D σ H q)⟩
theorem paI {X : Cx} {e : List Expr} {t t' : TA} (h : PA X e t) (i : ∀ σ H Q, t' σ H Q → t σ H Q) : PA X e t' := ⟨fun p pins s σ H Q I q => h.run p pins s σ H Q I (i σ H Q q)⟩
theorem piI {X : Cx} {tg e : Expr} {t t' : TI} (h : PI X tg e t) (i : ∀ σ H R, t' σ H R → t σ H R) : PI X tg e t' := ⟨fun pins s σ H R I q => h.run pins s σ H R I (i σ H R q)⟩
theorem piOr {X : Cx} {tg e : Expr} {t t' : TI} (h : PI X tg e t) (h' : PI X tg e t') : PI X tg e (fun σ H R => t σ H R ∨ t' σ H R) := ⟨fun pins s σ H R I q => q.elim (h.run pins s σ H R I) (h'.run pins s σ H R I)⟩

/-! ### names, constants -/
def scal : D → Bool
  | .non => true
  | .bl _ => true
  | .int _ => true
  | .str _ => true
  | _ => false
def al1 (i : Nat) (d : D) (k : Nat) : R := ⟨d, 0, if k = 0 || scal d then [] else [i], if k ≤ 1 || scal d then [] else [i]⟩
def fVar (i : Nat) : FE := fun ρ => match ρ[i]? with
  | some (some (d, k)) => .ok (al1 i d k)
  | _ => .bad
def fC (d : D) : FE := fun _ => .ok ⟨d, 0, [], []⟩

theorem scal_rp {S S' : PA1} {H H' : Hp} {d : D} {v : V} (h : scal d = true) (p : Rp S H d v) : Rp S' H' d v := by
  cases d <;> first | exact p | (simp [scal] at h)
theorem scal_ow {S S' : PA1} {H H' : Hp} {d : D} {v : V} {k : Nat} {fp : List Addr} (h : scal d = true) (p : Ow S H k d v fp) (k' : Nat) : Ow S' H' k' d v [] ∧ fp = [] := by
  cases k <;> cases k' <;> cases d <;> first | (simp [scal] at h; done) | exact ⟨⟨p.1, rfl⟩, p.2⟩
/-- what an owned value's items are outside of -/
theorem items_of {S : PA1} {H : Hp} {d : D} {v : V} {k : Nat} {fp : List Addr} {S' : PA1} (p : Ow S H k d v fp) (hs : ∀ a o, H a = some o → S' a → S a) (hk : k ≤ 1 ∨ ∀ a ∈ fp, ¬ S' a) : ItD S' H d v := by
  cases k with
  | zero => exact ItD.of (Rp.imp (fun b o e n => ⟨e, fun z => n (hs b o e z)⟩) d v p.1)
  | succ k =>
    cases d with
    | lst ds =>
      obtain ⟨a, xs, fq, e, ha, al, ef, nd⟩ := p
      refine ⟨a, xs, e, ha, al.toL fun d x f hf q => Ow.frz hs k d x f (fun b hb => ?_) q⟩
      rcases hk with hk | hk
      · have : k = 0 := by omega
        subst this
        rw [q.2] at hb; cases hb
      · exact hk b (by rw [ef]; exact List.mem_cons_of_mem _ (hf b hb))
    | tup ds =>
      obtain ⟨a, xs, e, n, r, al⟩ := p
      refine ⟨a, xs, e, r, al.toL fun d x f hf q => Ow.frz hs k d x f (fun b hb => ?_) q⟩
      rcases hk with hk | hk
      · have : k = 0 := by omega
        subst this
        rw [q.2] at hb; cases hb
      · exact hk b (hf b hb)
    | _ => trivial

theorem EE.var {S0 : PA1} {ρ : Ev} {σ : St} {H : Hp} {F : FP} (E : EE S0 ρ σ H F) {i : Nat} {d : D} {k : Nat} (h : ρ[i]? = some (some (d, k))) : ∃ v, σ[i]? = some (some v) ∧ Fz S0 F H (al1 i d k) v := by
  obtain ⟨v, e, o⟩ := E.rep i d k h
  have sub : ∀ (e : List Nat) a o, H a = some o → inS S0 F e a → inS S0 F [] a := fun e a _ _ z => by
    rcases z with z | ⟨n, _, z⟩
    · exact .inl z
    · exact .inr ⟨n, by simp, z⟩
  refine ⟨v, e, ?_, ?_⟩
  · by_cases hs : scal d = true
    · exact (scal_ow (S' := _) (H' := _) hs o 0).1.1
    · refine Ow.frz (sub _) k d v _ (fun a ha z => ?_) o
      unfold al1 at z
      by_cases hk : k = 0
      · subst hk; rw [o.2] at ha; cases ha
      · simp only [hk, hs, decide_false, Bool.or_self, Bool.false_eq_true, if_false] at z
        rcases z with z | ⟨n, hn, z⟩
        · exact E.apart i a ha z
        · exact hn (by simp [E.disj _ _ _ z ha])
  · by_cases hs : scal d = true
    · cases d <;> first | trivial | (simp [scal] at hs; done)
    · refine items_of o (sub _) ?_
      by_cases hk : k ≤ 1
      · exact .inl hk
      · refine .inr fun a ha z => ?_
        unfold al1 at z
        simp only [hk, hs, decide_false, Bool.or_self, Bool.false_eq_true, if_false] at z
        rcases z with z | ⟨n, hn, z⟩
        · exact E.apart i a ha z
        · exact hn (by simp [E.disj _ _ _ z ha])

section
variable {X : Cx} {W : WK}
theorem e_var (i : Nat) {x : Str} {pos : Pos} (hN : X.N[i]? = some x := by rfl) (hv : Vis X.env.scope x := by first | exact Or.inl rfl | exact Or.inr (Or.inl rfl) | exact Or.inr (Or.inr rfl)) (hd : (x == ("__debug__" : Str)) = false := by decide)
    (hcd : (x == ("__classdict__" : Str)) = false := by decide) : PE X (.Name x pos) (rdE W (fVar i)) := by
  refine peI (pe_var (i := i) hN hv hd hcd) fun σ H Q h => ?_
  obtain ⟨S0, ρ, F, E, p⟩ := h
  unfold fVar at p
  cases q : ρ[i]? with
  | none => rw [q] at p; exact p.elim
  | some s =>
    cases s with
    | none => rw [q] at p; exact p.elim
    | some dk =>
      obtain ⟨d, k⟩ := dk
      rw [q] at p
      obtain ⟨v, e, z⟩ := E.var q
      exact ⟨v, e, p v H [] (Same.refl H) (fun a ha => by cases ha) (z.vr rfl)⟩
theorem e_int {i j pos} : PE X (.Constant (.int i) j pos) (rdE W (fC (.int i))) := peI pe_int fun σ H Q ⟨S0, ρ, F, E, p⟩ => p _ H [] (Same.refl H) (fun a ha => by cases ha) ⟨⟨rfl, rfl⟩, trivial⟩
theorem e_bl {b j pos} : PE X (.Constant (.bool b) j pos) (rdE W (fC (.bl b))) := peI pe_bl fun σ H Q ⟨S0, ρ, F, E, p⟩ => p _ H [] (Same.refl H) (fun a ha => by cases ha) ⟨⟨rfl, rfl⟩, trivial⟩
theorem e_non {j pos} : PE X (.Constant .none j pos) (rdE W (fC .non)) := peI pe_non fun σ H Q ⟨S0, ρ, F, E, p⟩ => p _ H [] (Same.refl H) (fun a ha => by cases ha) ⟨⟨rfl, rfl⟩, trivial⟩
theorem e_str {x j pos} : PE X (.Constant (.str x) j pos) (rdE W (fC (.str x))) := peI pe_str fun σ H Q ⟨S0, ρ, F, E, p⟩ => p _ H [] (Same.refl H) (fun a ha => by cases ha) ⟨⟨rfl, rfl⟩, trivial⟩
end
end PyL

namespace PyL
open PySem PySem.Spec L2
set_option autoImplicit false

/-! ### two values, by an operator -/
abbrev G2 := R → R → Res R
def OpOk (r2 : R2) (g : G2) : Prop := ∀ (S0 : PA1) (ρ : Ev) (σ : St) (H : Hp) (F : FP) (W : WK) (ra rb : R) (x y : V) (Q : VK), EE S0 ρ σ H F → Fz S0 F H ra x → Fz S0 F H rb y → Post W S0 F σ H Q (g ra rb) → r2 x y H Q
def fBin (g : G2) (fa fb : FE) : FE := fun ρ => (fa ρ).bind fun ra => (fb ρ).bind fun rb => g ra rb
def toB (r : R) : Res Bool := match r.d with
  | .bl b => .ok b
  | _ => .bad
def fTest (f : FE) : FT := fun ρ => (f ρ).bind toB

theorem EE.nin {S0 : PA1} {ρ : Ev} {σ : St} {H : Hp} {F : FP} (E : EE S0 ρ σ H F) {fp : List Addr} (n : ∀ a ∈ fp, H a = none) (e : List Nat) : ∀ a ∈ fp, ¬ inS S0 F e a := fun a ha z => E.fresh z (n a ha)

theorem rd_bin {W : WK} {fa fb : FE} {g : G2} {r2 : R2} (hg : OpOk r2 g) {σ : St} {H : Hp} {Q : VK} (h : rdE W (fBin g fa fb) σ H Q) : tOp r2 (rdE W fa) (rdE W fb) σ H Q := by
  obtain ⟨S0, ρ, F, E, p⟩ := h
  refine post_bind E p fun ra x H1 fp1 s1 n1 v1 E1 p1 => post_bind E1 p1 fun rb y H2 fp2 s2 n2 v2 E2 p2 => ?_
  exact hg S0 ρ σ H2 F W ra rb x y Q E2 ((v1.fz (E.nin n1 _)).grow s2) (v2.fz (E1.nin n2 _)) p2

/-- a scalar as an outcome -/
def scR (d : D) : R := ⟨d, 0, [], []⟩
theorem post_sc {W : WK} {S0 : PA1} {F : FP} {σ : St} {H : Hp} {Q : VK} {d : D} {v : V} (h : Post W S0 F σ H Q (.ok (scR d))) (hr : Rp (fun a => inS S0 F [] a ∨ a ∈ ([] : List Addr)) H d v) (hs : scal d = true) : Q v H :=
  h v H [] (Same.refl H) (fun a ha => by cases ha) ⟨⟨hr, rfl⟩, by cases d <;> first | trivial | (simp [scal] at hs)⟩
theorem post_sc' {W : WK} {S0 : PA1} {F : FP} {σ : St} {H H' : Hp} {Q : VK} {d : D} {v : V} (h : Post W S0 F σ H Q (.ok (scR d))) (sm : Same H H') (hr : Rp (fun a => inS S0 F [] a ∨ a ∈ ([] : List Addr)) H' d v) (hs : scal d = true) : Q v H' :=
  h v H' [] sm (fun a ha => by cases ha) ⟨⟨hr, rfl⟩, by cases d <;> first | trivial | (simp [scal] at hs)⟩
/-- a new list whose items are as those of known values -/
theorem post_lst {W : WK} {S0 : PA1} {ρ : Ev} {F : FP} {σ : St} {H : Hp} {Q : VK} {ds : List D} {c : List Nat} {xs : List V} (E : EE S0 ρ σ H F) (h : Post W S0 F σ H Q (.ok ⟨.lst ds, 1, c, c⟩)) (hl : RpL (inS S0 F c) H ds xs) :
    ∀ p, H p = none → Q (.ref p) (upd H p (.lst xs)) := fun p np => by
  have sm := same_upd (o := .lst xs) np
  have L : RpL (fun a => inS S0 F c a ∨ a ∈ [p]) (upd H p (.lst xs)) ds xs := RpL.imp (fun b o q n => ⟨sm _ _ q, fun z => z.elim n fun z => ne_of_none q np (List.mem_singleton.mp z)⟩) _ _ hl
  have al : ∀ (ds : List D) (xs : List V), RpL (fun a => inS S0 F c a ∨ a ∈ [p]) (upd H p (.lst (xs))) ds xs → True := fun _ _ _ => trivial
  refine h _ _ [p] sm (fun a ha => by rw [List.mem_singleton.mp ha]; exact np) ⟨⟨p, xs, [], rfl, upd_same, ?_, rfl, by simp⟩, ⟨p, xs, rfl, upd_same, RpL.imp (fun b o q n => ⟨q, fun z => n (.inl z)⟩) _ _ L⟩⟩
  have go : ∀ {ds : List D} {xs : List V} {S : PA1} {K : Hp}, RpL S K ds xs → AllF (Ow S K 0) ds xs [] := by
    intro ds
    induction ds with
    | nil => intro xs S K h; exact ⟨h, rfl⟩
    | cons d ds ih => intro xs S K h; obtain ⟨x, r, e, p, q⟩ := h; exact ⟨x, r, [], [], e, ⟨p, rfl⟩, ih q, rfl, by simp⟩
  exact go L
theorem post_tup {W : WK} {S0 : PA1} {ρ : Ev} {F : FP} {σ : St} {H : Hp} {Q : VK} {ds : List D} {c : List Nat} {xs : List V} (E : EE S0 ρ σ H F) (h : Post W S0 F σ H Q (.ok ⟨.tup ds, 0, c, c⟩)) (hl : RpL (inS S0 F c) H ds xs) :
    ∀ p, H p = none → Q (.ref p) (upd H p (.tup xs)) := fun p np => by
  have sm := same_upd (o := .tup xs) np
  have L : RpL (inS S0 F c) (upd H p (.tup xs)) ds xs := RpL.imp (fun b o q n => ⟨sm _ _ q, n⟩) _ _ hl
  refine h _ _ [] sm (fun a ha => by cases ha) ⟨⟨⟨p, xs, rfl, fun z => z.elim (fun z => E.fresh z np) (fun z => by cases z), upd_same, RpL.imp (fun b o q n => ⟨q, fun z => z.elim n (fun z => by cases z)⟩) _ _ L⟩, rfl⟩, ⟨p, xs, rfl, upd_same, L⟩⟩
/-- an item of a known value -/
def itemR (r : R) (d : D) : R := if af 0 d then scR d else ⟨d, 0, r.c, r.c⟩
theorem post_item {W : WK} {S0 : PA1} {ρ : Ev} {F : FP} {σ : St} {H : Hp} {Q : VK} {d : D} {c : R} {v : V} (E : EE S0 ρ σ H F) (h : Post W S0 F σ H Q (.ok (itemR c d))) (hr : Rp (inS S0 F c.c) H d v) : Q v H := by
  unfold itemR at h
  by_cases hs : af 0 d = true
  · rw [if_pos hs] at h
    have hr' : Rp (inS S0 F []) H d v := Rp.af (fun a z => E.inTr z) d v hs hr
    exact h v H [] (Same.refl H) (fun a ha => by cases ha) ⟨⟨Rp.imp (fun b o q n => ⟨q, fun z => z.elim n (fun z => by cases z)⟩) _ _ hr', rfl⟩, ItD.of hr'⟩
  · rw [if_neg hs] at h
    exact h v H [] (Same.refl H) (fun a ha => by cases ha) ⟨⟨Rp.imp (fun b o q n => ⟨q, fun z => z.elim n (fun z => by cases z)⟩) _ _ hr, rfl⟩, ItD.of hr⟩

theorem Fz.lst {S0 : PA1} {F : FP} {H : Hp} {r : R} {v : V} {ds : List D} (h : Fz S0 F H r v) (e : r.d = .lst ds) : ∃ a xs, v = .ref a ∧ H a = some (.lst xs) ∧ RpL (inS S0 F r.c) H ds xs := by
  have := h.it
  rw [e] at this
  exact this
theorem Fz.tup {S0 : PA1} {F : FP} {H : Hp} {r : R} {v : V} {ds : List D} (h : Fz S0 F H r v) (e : r.d = .tup ds) : ∃ a xs, v = .ref a ∧ H a = some (.tup xs) ∧ RpL (inS S0 F r.c) H ds xs := by
  have := h.it
  rw [e] at this
  exact this
theorem Fz.int {S0 : PA1} {F : FP} {H : Hp} {r : R} {v : V} {i : Int} (h : Fz S0 F H r v) (e : r.d = .int i) : v = .int i := by
  have := h.rp; rw [e] at this; exact this
theorem Fz.bl {S0 : PA1} {F : FP} {H : Hp} {r : R} {v : V} {i : Bool} (h : Fz S0 F H r v) (e : r.d = .bl i) : v = .bl i := by
  have := h.rp; rw [e] at this; exact this
theorem Fz.str {S0 : PA1} {F : FP} {H : Hp} {r : R} {v : V} {i : Str} (h : Fz S0 F H r v) (e : r.d = .str i) : v = .str i := by
  have := h.rp; rw [e] at this; exact this
theorem inS_mono {S0 : PA1} {F : FP} {e e' : List Nat} {a : Addr} (h : ∀ i ∈ e, i ∈ e') (z : inS S0 F e' a) : inS S0 F e a := by
  rcases z with z | ⟨i, hi, z⟩
  · exact .inl z
  · exact .inr ⟨i, fun q => hi (h i q), z⟩
theorem RpL.weak {S0 : PA1} {F : FP} {H : Hp} {e e' : List Nat} {ds : List D} {xs : List V} (h : ∀ i ∈ e, i ∈ e') (l : RpL (inS S0 F e) H ds xs) : RpL (inS S0 F e') H ds xs :=
  RpL.imp (fun b o q n => ⟨q, fun z => n (inS_mono h z)⟩) _ _ l
theorem Rp.weak {S0 : PA1} {F : FP} {H : Hp} {e e' : List Nat} {d : D} {x : V} (h : ∀ i ∈ e, i ∈ e') (l : Rp (inS S0 F e) H d x) : Rp (inS S0 F e') H d x :=
  Rp.imp (fun b o q n => ⟨q, fun z => n (inS_mono h z)⟩) _ _ l

def okI (i : Int) : Res R := .ok (scR (.int i))
def okB (b : Bool) : Res R := .ok (scR (.bl b))
theorem okI_post {W : WK} {S0 : PA1} {F : FP} {σ : St} {H : Hp} {Q : VK} {i : Int} (h : Post W S0 F σ H Q (okI i)) : Q (.int i) H := post_sc h rfl rfl
theorem okB_post {W : WK} {S0 : PA1} {F : FP} {σ : St} {H : Hp} {Q : VK} {i : Bool} (h : Post W S0 F σ H Q (okB i)) : Q (.bl i) H := post_sc h rfl rfl
theorem okB_post' {W : WK} {S0 : PA1} {F : FP} {σ : St} {H H' : Hp} {Q : VK} {i : Bool} (h : Post W S0 F σ H Q (okB i)) (sm : Same H H') : Q (.bl i) H' := post_sc' h sm rfl rfl

/-! ### + - * // % ** -/
def gAdd : G2 := fun ra rb => match ra.d, rb.d with
  | .int i, .int j => okI (i + j)
  | .lst xs, .lst ys => if xs.length + ys.length ≤ sizeLine then .ok ⟨.lst (xs ++ ys), 1, ra.c ++ rb.c, ra.c ++ rb.c⟩ else .bad
  | .tup xs, .tup ys => if xs.length + ys.length ≤ sizeLine ∧ xs ≠ [] ∧ ys ≠ [] then .ok ⟨.tup (xs ++ ys), 0, ra.c ++ rb.c, ra.c ++ rb.c⟩ else .bad
  | .str x, .str y => if x.length + y.length ≤ sizeLine then .ok (scR (.str (x ++ y))) else .bad
  | _, _ => .bad
def rAddA (K : PySem.W.Frag) : R2 := fun x y H Q => (∃ i j, x = .int i ∧ y = .int j ∧ Q (.int (i + j)) H) ∨ rCat x y H Q ∨ rCatA K x y H Q ∨ (∃ i j, x = .str i ∧ y = .str j ∧ i.length + j.length ≤ sizeLine ∧ Q (.str (i ++ j)) H)
theorem or_add {X : Cx} : OpR X (binaryOp .Add) (rAddA X.K) := op_add.or (op_cat.or (op_catA.or op_add_str))
theorem ok_add {K : PySem.W.Frag} : OpOk (rAddA K) gAdd := by
  intro S0 ρ σ H F W ra rb x y Q E hx hy p
  unfold gAdd at p
  split at p
  · rename_i i j ea eb
    exact .inl ⟨i, j, hx.int ea, hy.int eb, okI_post p⟩
  · rename_i xs ys ea eb
    split at p
    · rename_i hz
      obtain ⟨a, us, rfl, ha, la⟩ := hx.lst ea
      obtain ⟨b, ws, rfl, hb, lb⟩ := hy.lst eb
      refine .inr (.inl ⟨a, b, us, ws, rfl, rfl, ha, hb, by rw [← la.length, ← lb.length]; exact hz, ?_⟩)
      exact post_lst E p ((la.weak fun i h => List.mem_append_left _ h).append (lb.weak fun i h => List.mem_append_right _ h))
    · exact p.elim
  · rename_i xs ys ea eb
    split at p
    · rename_i hz
      obtain ⟨hz, n1, n2⟩ := hz
      obtain ⟨a, us, rfl, ha, la⟩ := hx.tup ea
      obtain ⟨b, ws, rfl, hb, lb⟩ := hy.tup eb
      have m1 : us ≠ [] := fun z => by rw [z] at la; have := la.length; exact n1 (List.eq_nil_of_length_eq_zero this)
      have m2 : ws ≠ [] := fun z => by rw [z] at lb; have := lb.length; exact n2 (List.eq_nil_of_length_eq_zero this)
      refine .inr (.inr (.inl ⟨a, b, us, ws, rfl, rfl, SqT.of ha, SqT.of hb, by rw [← la.length, ← lb.length]; exact hz, fun z => absurd z m1, fun _ z => absurd z m2, fun _ _ => ?_⟩))
      exact post_tup E p ((la.weak fun i h => List.mem_append_left _ h).append (lb.weak fun i h => List.mem_append_right _ h))
    · exact p.elim
  · rename_i i j ea eb
    split at p
    · rename_i hz
      exact .inr (.inr (.inr ⟨i, j, hx.str ea, hy.str eb, hz, post_sc p rfl rfl⟩))
    · exact p.elim
  · exact p.elim

def gSub : G2 := fun ra rb => match ra.d, rb.d with
  | .int i, .int j => okI (i - j)
  | _, _ => .bad
theorem ok_sub : OpOk (rI0 fun i j => .int (i - j)) gSub := by
  intro S0 ρ σ H F W ra rb x y Q E hx hy p
  unfold gSub at p
  split at p
  · rename_i i j ea eb
    exact ⟨i, j, hx.int ea, hy.int eb, okI_post p⟩
  · exact p.elim

def CMulL (i j : Int) : Prop := i.natAbs.log2 + j.natAbs.log2 < 134000000
instance (i j : Int) : Decidable (CMulL i j) := inferInstanceAs (Decidable (_ < _))
theorem CMulL.ok {i j : Int} (h : CMulL i j) : IntMulOk i j := by
  have b : ∀ x : Int, Builtin.Int.intBits x ≤ x.natAbs.log2 + 1 := fun x => by
    unfold Builtin.Int.intBits
    split <;> omega
  have h1 := b i
  have h2 := b j
  have h3 : i.natAbs.log2 + j.natAbs.log2 < 134000000 := h
  have e : bitsLine = 134217728 := by decide
  unfold IntMulOk
  intro z
  rw [Bool.and_eq_true] at z
  have z2 := z.2
  unfold Builtin.Int.intTooBig at z2
  have z3 := of_decide_eq_true z2
  rw [e] at z3
  omega
theorem op_mulL {X : Cx} : OpR X (binaryOp .Mult) (rI CMulL fun i j => .int (i * j)) := opI fun _ _ _ _ _ _ _ hc q => PyProof.Rows.mul_int q hc.ok
def repL (xs : List D) (k : Int) : List D := (List.replicate k.toNat xs).flatten
def gMul : G2 := fun ra rb => match ra.d, rb.d with
  | .int i, .int j => if CMulL i j then okI (i * j) else .bad
  | .lst xs, .int k => if -(2 ^ 63) ≤ k ∧ k < 2 ^ 63 ∧ xs.length * k.toNat ≤ sizeLine then .ok ⟨.lst (repL xs k), 1, ra.c, ra.c⟩ else .bad
  | _, _ => .bad
theorem RpL.rep {S : PA1} {H : Hp} {ds : List D} {xs : List V} (h : RpL S H ds xs) : ∀ k : Nat, RpL S H (List.replicate k ds).flatten (List.replicate k xs).flatten
  | 0 => rfl
  | k + 1 => by
    rw [List.replicate_succ, List.flatten_cons, List.replicate_succ, List.flatten_cons]
    exact h.append (h.rep k)
theorem ok_mul : OpOk (fun x y H Q => rI CMulL (fun i j => .int (i * j)) x y H Q ∨ rRep x y H Q) gMul := by
  intro S0 ρ σ H F W ra rb x y Q E hx hy p
  unfold gMul at p
  split at p
  · rename_i i j ea eb
    split at p
    · rename_i hc
      exact .inl ⟨i, j, hx.int ea, hy.int eb, hc, okI_post p⟩
    · exact p.elim
  · rename_i xs k ea eb
    split at p
    · rename_i hz
      obtain ⟨h1, h2, hz⟩ := hz
      obtain ⟨a, us, rfl, ha, la⟩ := hx.lst ea
      refine .inr ⟨a, k, us, rfl, hy.int eb, ha, h1, h2, by rw [← la.length]; exact hz, ?_⟩
      exact post_lst E p (la.rep _)
    · exact p.elim
  · exact p.elim

def CDivL (i j : Int) : Prop := j ≠ 0 ∧ (j.natAbs.log2 < 9000 ∨ i.natAbs.log2 < j.natAbs.log2 + 4400)
instance (i j : Int) : Decidable (CDivL i j) := inferInstanceAs (Decidable (_ ∧ _))
theorem noPy2 {x y : Int} (h : y.natAbs.log2 < 9000 ∨ x.natAbs.log2 < y.natAbs.log2 + 4400) (h0 : y ≠ 0) : Builtin.divisionGoesByPylong x y = false := by
  rcases h with h | h
  · exact PyProof.noPylong_of_log2 h
  · have key : (if x == 0 then 0 else x.natAbs.log2 / 30 + 1) ≤ (if y == 0 then 0 else y.natAbs.log2 / 30 + 1) + 150 := by
      rw [if_neg (show ¬ (y == 0) = true by simpa using h0)]
      split <;> omega
    show (decide ((if y == 0 then 0 else y.natAbs.log2 / 30 + 1) > 300) && decide ((if x == 0 then 0 else x.natAbs.log2 / 30 + 1) > (if y == 0 then 0 else y.natAbs.log2 / 30 + 1) + 150)) = false
    rw [decide_eq_false (Nat.not_lt.mpr key), Bool.and_false]
theorem op_fdivL {X : Cx} : OpR X (binaryOp .FloorDiv) (rI CDivL fun i j => .int (i.fdiv j)) := opI fun i j _ _ _ _ _ hc q => PyProof.Rows.floordiv_int hc.1 q (.inl (noPy2 hc.2 hc.1))
def gDiv : G2 := fun ra rb => match ra.d, rb.d with
  | .int i, .int j => if CDivL i j then okI (i.fdiv j) else .bad
  | _, _ => .bad
theorem ok_div : OpOk (rI CDivL fun i j => .int (i.fdiv j)) gDiv := by
  intro S0 ρ σ H F W ra rb x y Q E hx hy p
  unfold gDiv at p
  split at p
  · rename_i i j ea eb
    split at p
    · rename_i hc
      exact ⟨i, j, hx.int ea, hy.int eb, hc, okI_post p⟩
    · exact p.elim
  · exact p.elim
def gMod : G2 := fun ra rb => match ra.d, rb.d with
  | .int i, .int j => if j ≠ 0 then okI (i.fmod j) else .bad
  | _, _ => .bad
theorem ok_mod : OpOk (rI (fun _ j => j ≠ 0) fun i j => .int (i.fmod j)) gMod := by
  intro S0 ρ σ H F W ra rb x y Q E hx hy p
  unfold gMod at p
  split at p
  · rename_i i j ea eb
    split at p
    · rename_i hc
      exact ⟨i, j, hx.int ea, hy.int eb, hc, okI_post p⟩
    · exact p.elim
  · exact p.elim
instance (i j : Int) : Decidable (CPow i j) := inferInstanceAs (Decidable (_ ∧ _ ∧ _))
def gPow : G2 := fun ra rb => match ra.d, rb.d with
  | .int i, .int j => if CPow i j then okI (i ^ j.toNat) else .bad
  | _, _ => .bad
theorem ok_pow : OpOk (rI CPow fun i j => .int (i ^ j.toNat)) gPow := by
  intro S0 ρ σ H F W ra rb x y Q E hx hy p
  unfold gPow at p
  split at p
  · rename_i i j ea eb
    split at p
    · rename_i hc
      exact ⟨i, j, hx.int ea, hy.int eb, hc, okI_post p⟩
    · exact p.elim
  · exact p.elim

/-! ### comparisons of ints -/
def gCmp (f : Int → Int → Bool) : G2 := fun ra rb => match ra.d, rb.d with
  | .int i, .int j => okB (f i j)
  | _, _ => .bad
theorem ok_cmp (f : Int → Int → Bool) : OpOk (rI0 fun i j => .bl (f i j)) (gCmp f) := by
  intro S0 ρ σ H F W ra rb x y Q E hx hy p
  unfold gCmp at p
  split at p
  · rename_i i j ea eb
    exact ⟨i, j, hx.int ea, hy.int eb, okB_post p⟩
  · exact p.elim
def gLt := gCmp fun i j => decide (i < j)
def gLe := gCmp fun i j => decide (i ≤ j)
def gGt := gCmp fun i j => decide (j < i)
def gGe := gCmp fun i j => decide (j ≤ i)
theorem ok_lt : OpOk (rI0 fun i j => .bl (decide (i < j))) gLt := ok_cmp _
theorem ok_le : OpOk (rI0 fun i j => .bl (decide (i ≤ j))) gLe := ok_cmp _
theorem ok_gt : OpOk (rI0 fun i j => .bl (decide (j < i))) gGt := ok_cmp _
theorem ok_ge : OpOk (rI0 fun i j => .bl (decide (j ≤ i))) gGe := ok_cmp _

/-! ### == and in, of data -/
mutual
def toPy : D → PyData
  | .non => .none
  | .bl b => .bool b
  | .int i => .int i
  | .str x => .str x
  | .lst ds => .list (toPyL ds)
  | .tup ds => .tuple (toPyL ds)
  | .dK _ => .none
  | .dT _ => .none
  | .scr _ _ => .none
  | .exc _ _ _ _ _ => .none
def toPyL : List D → List PyData
  | [] => []
  | d :: ds => toPy d :: toPyL ds
end
/-! plain: no dict, not too deep -/
mutual
def pln : Nat → D → Bool
  | _, .non => true
  | _, .bl _ => true
  | _, .int _ => true
  | _, .str _ => true
  | 0, .lst _ => false
  | 0, .tup _ => false
  | n + 1, .lst ds => plnL n ds
  | n + 1, .tup ds => plnL n ds
  | _, .dK _ => false
  | _, .dT _ => false
  | _, .scr _ _ => false
  | _, .exc _ _ _ _ _ => false
def plnL : Nat → List D → Bool
  | _, [] => true
  | n, d :: ds => pln n d && plnL n ds
end
mutual
def deq : D → D → Bool
  | .non, .non => true
  | .bl a, .bl b => a == b
  | .bl a, .int j => (if a then 1 else 0) == j
  | .int i, .bl b => i == (if b then 1 else 0)
  | .int i, .int j => i == j
  | .str x, .str y => x == y
  | .lst xs, .lst ys => deqL xs ys
  | .tup xs, .tup ys => deqL xs ys
  | _, _ => false
def deqL : List D → List D → Bool
  | [], [] => true
  | x :: xs, y :: ys => deq x y && deqL xs ys
  | _, _ => false
end
end PyL

namespace PyL
open PySem PySem.Spec L2
set_option autoImplicit false

/-! ### data of the model -/
mutual
theorem pln_plain : ∀ (n : Nat) (d : D), pln n d = true → (toPy d).plain = true ∧ (toPy d).depth ≤ n
  | _, .non, _ => ⟨rfl, Nat.zero_le _⟩
  | _, .bl _, _ => ⟨rfl, Nat.zero_le _⟩
  | _, .int _, _ => ⟨rfl, Nat.zero_le _⟩
  | _, .str _, _ => ⟨rfl, Nat.zero_le _⟩
  | 0, .lst _, h => by simp [pln] at h
  | 0, .tup _, h => by simp [pln] at h
  | n + 1, .lst ds, h => by
    have q := plnL_plain n ds (by simpa [pln] using h)
    simp only [toPy, PyData.plain, PyData.depth]
    exact ⟨q.1, by omega⟩
  | n + 1, .tup ds, h => by
    have q := plnL_plain n ds (by simpa [pln] using h)
    simp only [toPy, PyData.plain, PyData.depth]
    exact ⟨q.1, by omega⟩
  | _, .dK _, h => by simp [pln] at h
  | _, .dT _, h => by simp [pln] at h
  | _, .scr _ _, h => by simp [pln] at h
  | _, .exc _ _ _ _ _, h => by simp [pln] at h
theorem plnL_plain : ∀ (n : Nat) (ds : List D), plnL n ds = true → PyData.plainAll (toPyL ds) = true ∧ PyData.depthAll (toPyL ds) ≤ n
  | _, [], _ => ⟨rfl, Nat.zero_le _⟩
  | n, d :: ds, h => by
    simp only [plnL, Bool.and_eq_true] at h
    have q1 := pln_plain n d h.1
    have q2 := plnL_plain n ds h.2
    simp only [toPyL, PyData.plainAll, PyData.depthAll, q1.1, q2.1, Bool.and_self, true_and]
    omega
end
mutual
theorem deq_py : ∀ (n : Nat) (a b : D), pln n a = true → pln n b = true → PyData.eqv (toPy a) (toPy b) = deq a b
  | n, a, b, ha, hb => by
    cases a <;> cases b <;> first | (simp [pln] at ha; done) | (simp [pln] at hb; done) | rfl | skip
    · cases n with
      | zero => simp [pln] at ha
      | succ n => exact deqL_py n _ _ (by simpa [pln] using ha) (by simpa [pln] using hb)
    · cases n with
      | zero => simp [pln] at ha
      | succ n => exact deqL_py n _ _ (by simpa [pln] using ha) (by simpa [pln] using hb)
theorem deqL_py : ∀ (n : Nat) (a b : List D), plnL n a = true → plnL n b = true → PyData.eqvAll (toPyL a) (toPyL b) = deqL a b
  | _, [], [], _, _ => rfl
  | _, [], _ :: _, _, _ => rfl
  | _, _ :: _, [], _, _ => rfl
  | n, x :: xs, y :: ys, ha, hb => by
    simp only [plnL, Bool.and_eq_true] at ha hb
    simp only [toPyL, PyData.eqvAll, deqL]
    rw [deq_py n x y ha.1 hb.1, deqL_py n xs ys ha.2 hb.2]
end
mutual
theorem Rp.dp {K : PySem.W.Frag} {S : PA1} {H : Hp} (n : Nat) : ∀ (d : D) (v : V), pln n d = true → Rp S H d v → Dp K H v (toPy d)
  | .non, _, _, h => by cases h; exact .non
  | .bl b, _, _, h => by cases h; exact .bl b
  | .int i, _, _, h => by cases h; exact .int i
  | .str x, _, _, h => by cases h; exact .str x
  | .lst ds, _, q, ⟨a, xs, e, _, r, l⟩ => by
    cases n with
    | zero => simp [pln] at q
    | succ n => rw [e]; exact .lst (SqL.of r) (RpL.dp n ds xs (by simpa [pln] using q) l)
  | .tup ds, _, q, ⟨a, xs, e, _, r, l⟩ => by
    cases n with
    | zero => simp [pln] at q
    | succ n => rw [e]; exact .tup (SqT.of r) (RpL.dp n ds xs (by simpa [pln] using q) l)
  | .dK _, _, h, _ => by simp [pln] at h
  | .dT _, _, h, _ => by simp [pln] at h
  | .scr _ _, _, h, _ => by simp [pln] at h
  | .exc _ _ _ _ _, _, h, _ => by simp [pln] at h
theorem RpL.dp {K : PySem.W.Frag} {S : PA1} {H : Hp} (n : Nat) : ∀ (ds : List D) (xs : List V), plnL n ds = true → RpL S H ds xs → DpAll K H xs (toPyL ds)
  | [], _, _, h => by rw [show _ = [] from h]; exact .nil
  | d :: ds, _, q, ⟨x, r, e, p, l⟩ => by
    simp only [plnL, Bool.and_eq_true] at q
    rw [e]
    exact .cons (Rp.dp n d x q.1 p) (RpL.dp n ds r q.2 l)
end

def rEqP (K : PySem.W.Frag) : R2 := fun x y H Q => ∃ d e, Dp K H x d ∧ Dp K H y e ∧ d.plain = true ∧ e.plain = true ∧ d.depth ≤ 60 ∧ Q (.bl (PyData.eqv d e)) H
def rNeP (K : PySem.W.Frag) : R2 := fun x y H Q => ∃ d e, Dp K H x d ∧ Dp K H y e ∧ d.plain = true ∧ e.plain = true ∧ d.depth ≤ 60 ∧ Q (.bl (!PyData.eqv d e)) H
def rInP (K : PySem.W.Frag) (neg : Bool) : R2 := fun x y H Q => ∃ d ds, Dp K H x d ∧ (Dp K H y (.list ds) ∨ Dp K H y (.tuple ds)) ∧ d.plain = true ∧ PyData.plainAll ds = true ∧ d.depth ≤ 60 ∧ Q (.bl (if neg then !(ds.any fun z => PyData.eqv z d) else ds.any fun z => PyData.eqv z d)) H
section
variable {X : Cx}
theorem or_eq (hu : X.A.units + 62 < cLine) : OpR X (compareOp .Eq) (rEqP X.K) := by
  intro pins s σ H x y v u Q I rx ry h
  obtain ⟨d, e, hd, he, sd, se, dp, q⟩ := h
  obtain ⟨as, r1⟩ := Dp.reads I d x v hd rx
  obtain ⟨bs, r2⟩ := Dp.reads I e y u he ry
  exact SeqAt.eq_plain r1 r2 sd se (by omega) ⟨.bl _, H, I, rfl, q⟩
theorem or_ne (hu : X.A.units + 62 < cLine) : OpR X (compareOp .NotEq) (rNeP X.K) := by
  intro pins s σ H x y v u Q I rx ry h
  obtain ⟨d, e, hd, he, sd, se, dp, q⟩ := h
  obtain ⟨as, r1⟩ := Dp.reads I d x v hd rx
  obtain ⟨bs, r2⟩ := Dp.reads I e y u he ry
  exact SeqAt.ne_plain r1 r2 sd se (by omega) ⟨.bl _, H, I, rfl, q⟩
theorem or_in (hu : X.A.units + 62 < cLine) : OpR X (compareOp .In) (rInP X.K false) := by
  intro pins s σ H x y v u Q I rx ry h
  obtain ⟨d, ds, hd, he, sd, se, dp, q⟩ := h
  obtain ⟨as, r1⟩ := Dp.reads I d x v hd rx
  rcases he with he | he
  · obtain ⟨bs, r2⟩ := Dp.reads I (.list ds) y u he ry
    exact SeqAt.in_list_data r2 r1 se sd (by omega) ⟨.bl _, H, I, rfl, q⟩
  · obtain ⟨bs, r2⟩ := Dp.reads I (.tuple ds) y u he ry
    exact SeqAt.in_tuple_data r2 r1 se sd (by omega) ⟨.bl _, H, I, rfl, q⟩
theorem or_nin (hu : X.A.units + 62 < cLine) : OpR X (compareOp .NotIn) (rInP X.K true) := by
  intro pins s σ H x y v u Q I rx ry h
  obtain ⟨d, ds, hd, he, sd, se, dp, q⟩ := h
  obtain ⟨as, r1⟩ := Dp.reads I d x v hd rx
  rcases he with he | he
  · obtain ⟨bs, r2⟩ := Dp.reads I (.list ds) y u he ry
    exact SeqAt.notIn_list_data r2 r1 se sd (by omega) ⟨.bl _, H, I, rfl, q⟩
  · obtain ⟨bs, r2⟩ := Dp.reads I (.tuple ds) y u he ry
    exact SeqAt.notIn_tuple_data r2 r1 se sd (by omega) ⟨.bl _, H, I, rfl, q⟩
end
def gEq : G2 := fun ra rb => if pln 60 ra.d && pln 60 rb.d then okB (deq ra.d rb.d) else .bad
def gNe : G2 := fun ra rb => if pln 60 ra.d && pln 60 rb.d then okB (!deq ra.d rb.d) else .bad
theorem ok_eq {K : PySem.W.Frag} : OpOk (rEqP K) gEq := by
  intro S0 ρ σ H F W ra rb x y Q E hx hy p
  unfold gEq at p
  split at p
  · rename_i h
    simp only [Bool.and_eq_true] at h
    have q1 := pln_plain 60 _ h.1
    have q2 := pln_plain 60 _ h.2
    refine ⟨_, _, Rp.dp 60 _ _ h.1 hx.rp, Rp.dp 60 _ _ h.2 hy.rp, q1.1, q2.1, q1.2, ?_⟩
    rw [deq_py 60 _ _ h.1 h.2]
    exact okB_post p
  · exact p.elim
theorem ok_ne {K : PySem.W.Frag} : OpOk (rNeP K) gNe := by
  intro S0 ρ σ H F W ra rb x y Q E hx hy p
  unfold gNe at p
  split at p
  · rename_i h
    simp only [Bool.and_eq_true] at h
    have q1 := pln_plain 60 _ h.1
    have q2 := pln_plain 60 _ h.2
    refine ⟨_, _, Rp.dp 60 _ _ h.1 hx.rp, Rp.dp 60 _ _ h.2 hy.rp, q1.1, q2.1, q1.2, ?_⟩
    rw [deq_py 60 _ _ h.1 h.2]
    exact okB_post p
  · exact p.elim
def memD (ds : List D) (d : D) : Bool := ds.any fun z => deq z d
def gIn (neg : Bool) : G2 := fun ra rb => match rb.d with
  | .lst ds => if pln 60 ra.d && plnL 60 ds then okB (if neg then !memD ds ra.d else memD ds ra.d) else .bad
  | .tup ds => if pln 60 ra.d && plnL 60 ds then okB (if neg then !memD ds ra.d else memD ds ra.d) else .bad
  | _ => .bad
theorem any_py (n : Nat) (d : D) (hd : pln n d = true) : ∀ ds : List D, plnL n ds = true → ((toPyL ds).any fun z => PyData.eqv z (toPy d)) = memD ds d
  | [], _ => rfl
  | x :: xs, h => by
    simp only [plnL, Bool.and_eq_true] at h
    unfold memD
    simp only [toPyL, List.any_cons]
    rw [deq_py n x d h.1 hd, any_py n d hd xs h.2]
    rfl
theorem ok_in {K : PySem.W.Frag} (neg : Bool) : OpOk (rInP K neg) (gIn neg) := by
  intro S0 ρ σ H F W ra rb x y Q E hx hy p
  unfold gIn at p
  split at p
  · rename_i ds eb
    split at p
    · rename_i h
      simp only [Bool.and_eq_true] at h
      obtain ⟨b, us, rfl, hb, lb⟩ := hy.lst eb
      have q1 := pln_plain 60 _ h.1
      have q2 := plnL_plain 60 _ h.2
      refine ⟨_, toPyL ds, Rp.dp 60 _ _ h.1 hx.rp, .inl (.lst (SqL.of hb) (RpL.dp 60 _ _ h.2 lb)), q1.1, q2.1, q1.2, ?_⟩
      rw [any_py 60 _ h.1 ds h.2]
      exact okB_post p
    · exact p.elim
  · rename_i ds eb
    split at p
    · rename_i h
      simp only [Bool.and_eq_true] at h
      obtain ⟨b, us, rfl, hb, lb⟩ := hy.tup eb
      have q1 := pln_plain 60 _ h.1
      have q2 := plnL_plain 60 _ h.2
      refine ⟨_, toPyL ds, Rp.dp 60 _ _ h.1 hx.rp, .inr (.tup (SqT.of hb) (RpL.dp 60 _ _ h.2 lb)), q1.1, q2.1, q1.2, ?_⟩
      rw [any_py 60 _ h.1 ds h.2]
      exact okB_post p
    · exact p.elim
  · exact p.elim

/-! ### expressions by operators -/
section
variable {X : Cx} {W : WK} {a b c : Expr} {fa fb fc : FE} {pos : Pos}
theorem e_bin {op : Operator} {r2 : R2} {g : G2} (ho : OpR X (binaryOp op) r2) (hg : OpOk r2 g) (ha : PE X a (rdE W fa)) (hb : PE X b (rdE W fb)) : PE X (.BinOp a op b pos) (rdE W (fBin g fa fb)) :=
  peI (pe_op ho ha hb) fun _ _ _ h => rd_bin hg h
theorem e_cmp {op : CmpOp} {r2 : R2} {g : G2} (ho : OpR X (compareOp op) r2) (hg : OpOk r2 g) (ha : PE X a (rdE W fa)) (hb : PE X b (rdE W fb)) (hm : behindInMarks op b = false) : PE X (.Compare a [op] [b] pos) (rdE W (fBin g fa fb)) :=
  peI (pe_cmpR ho ha hb hm) fun _ _ _ h => rd_bin hg h
theorem toB_post {S0 : PA1} {F : FP} {H : Hp} {Q : Bool → Hp → Prop} {σ : St} {r : R} {v : V} (z : Fz S0 F H r v) (h : PostT W S0 σ H Q (toB r)) : ∃ k, v = .bl k ∧ Q k H := by
  unfold toB at h
  split at h
  · rename_i b e
    exact ⟨b, z.bl e, h H (Same.refl H)⟩
  · exact h.elim
/-- a value as a test -/
theorem rd_test {f : FE} {σ : St} {H : Hp} {Q : Bool → Hp → Prop} (h : rdT W (fTest f) σ H Q) : rdE W f σ H fun x H' => ∃ k, x = .bl k ∧ Q k H' := by
  obtain ⟨S0, ρ, F, E, p⟩ := h
  exact postT_bind E p fun r v H1 fp s1 n1 v1 E1 p1 => toB_post (v1.fz (E.nin n1 _)) p1
theorem t_cmp {op : CmpOp} {r2 : R2} {g : G2} (ho : OpR X (compareOp op) r2) (hg : OpOk r2 g) (ha : PE X a (rdE W fa)) (hb : PE X b (rdE W fb)) (hm : behindInMarks op b = false) : PT X (.Compare a [op] [b] pos) (rdT W (fTest (fBin g fa fb))) :=
  ptI (pt_cmpR ho ha hb hm) fun _ _ _ h => rd_bin hg (rd_test h)
theorem t_val {e : Expr} {f : FE} (h : PE X e (rdE W f)) (he : ∀ whole, isTrue e X.env whole = (do let v ← whole; standAt e.pos; holding [v] (truthy v)) := by intro _; rfl) : PT X e (rdT W (fTest f)) :=
  ptI (pt_val h he) fun _ _ _ h => rd_test h

/-! is None -/
def gIsN (neg : Bool) (r : R) : Res R := match r.d with
  | .non => okB (!neg)
  | _ => okB neg
def fIsN (neg : Bool) (f : FE) : FE := fun ρ => (f ρ).bind (gIsN neg)
theorem Fz.isN {S0 : PA1} {F : FP} {H : Hp} {r : R} {v : V} (z : Fz S0 F H r v) (neg : Bool) : gIsN neg r = okB (if neg then !decide (v = .non) else decide (v = .non)) := by
  have h := z.rp
  unfold gIsN
  cases e : r.d with
  | non => rw [e] at h; rw [show v = V.non from h]; cases neg <;> rfl
  | lst ds => rw [e] at h; obtain ⟨a, xs, e', _⟩ := h; rw [e']; cases neg <;> rfl
  | tup ds => rw [e] at h; obtain ⟨a, xs, e', _⟩ := h; rw [e']; cases neg <;> rfl
  | dK kvs => rw [e] at h; obtain ⟨a, e', _⟩ := h; rw [e']; cases neg <;> rfl
  | dT kvs => rw [e] at h; obtain ⟨a, e', _⟩ := h; rw [e']; cases neg <;> rfl
  | scr _ ns => rw [e] at h; obtain ⟨a, e', _⟩ := h; rw [e']; cases neg <;> rfl
  | exc _ _ _ _ _ => rw [e] at h; obtain ⟨e', _⟩ := h; rw [e']; cases neg <;> rfl
  | bl b => rw [e] at h; rw [show v = V.bl b from h]; cases neg <;> rfl
  | int b => rw [e] at h; rw [show v = V.int b from h]; cases neg <;> rfl
  | str b => rw [e] at h; rw [show v = V.str b from h]; cases neg <;> rfl
theorem e_isN {j pos'} (ha : PE X a (rdE W fa)) : PE X (.Compare a [.Is] [.Constant .none j pos'] pos) (rdE W (fIsN false fa)) :=
  peI (pe_cmp (pc_isN ha) rfl) fun σ H Q ⟨S0, ρ, F, E, p⟩ => post_bind E p fun r v H1 fp s1 n1 v1 E1 p1 => by
    rw [(v1.fz (E.nin n1 _)).isN] at p1
    exact okB_post p1
theorem e_notN {j pos'} (ha : PE X a (rdE W fa)) : PE X (.Compare a [.IsNot] [.Constant .none j pos'] pos) (rdE W (fIsN true fa)) :=
  peI (pe_cmp (pc_notN ha) rfl) fun σ H Q ⟨S0, ρ, F, E, p⟩ => post_bind E p fun r v H1 fp s1 n1 v1 E1 p1 => by
    rw [(v1.fz (E.nin n1 _)).isN] at p1
    exact okB_post p1
theorem t_isN {j pos'} (ha : PE X a (rdE W fa)) : PT X (.Compare a [.Is] [.Constant .none j pos'] pos) (rdT W (fTest (fIsN false fa))) :=
  ptI (pt_cmp (pc_isN ha) rfl) fun σ H Q h => by
    obtain ⟨S0, ρ, F, E, p⟩ := rd_test h
    exact post_bind E p fun r v H1 fp s1 n1 v1 E1 p1 => by
      rw [(v1.fz (E.nin n1 _)).isN] at p1
      exact okB_post p1
theorem t_notN {j pos'} (ha : PE X a (rdE W fa)) : PT X (.Compare a [.IsNot] [.Constant .none j pos'] pos) (rdT W (fTest (fIsN true fa))) :=
  ptI (pt_cmp (pc_notN ha) rfl) fun σ H Q h => by
    obtain ⟨S0, ρ, F, E, p⟩ := rd_test h
    exact post_bind E p fun r v H1 fp s1 n1 v1 E1 p1 => by
      rw [(v1.fz (E.nin n1 _)).isN] at p1
      exact okB_post p1

/-! -a -/
def gNeg (r : R) : Res R := match r.d with
  | .int i => okI (-i)
  | _ => .bad
def fUn (g : R → Res R) (f : FE) : FE := fun ρ => (f ρ).bind g
theorem e_neg (ha : PE X a (rdE W fa)) : PE X (.UnaryOp .USub a pos) (rdE W (fUn gNeg fa)) :=
  peI (pe_un un_neg ha) fun σ H Q ⟨S0, ρ, F, E, p⟩ => post_bind E p fun r v H1 fp s1 n1 v1 E1 p1 => by
    unfold gNeg at p1
    split at p1
    · rename_i i e
      exact ⟨i, (v1.fz (E.nin n1 _)).int e, okI_post p1⟩
    · exact p1.elim

/-! and, or, not: tests -/
def fAndT (f g : FT) : FT := fun ρ => (f ρ).bind fun b => if b then g ρ else .ok false
def fOrT (f g : FT) : FT := fun ρ => (f ρ).bind fun b => if b then .ok true else g ρ
def fNotT (f : FT) : FT := fun ρ => (f ρ).bind fun b => .ok (!b)
variable {ta tb : FT} {rest : List Expr}
theorem w_and1 (ha : PT X a (rdT W ta)) : PW X (.BoolOp .And [a] pos) (rdT W ta) := pw_and1 ha
theorem w_or1 (ha : PT X a (rdT W ta)) : PW X (.BoolOp .Or [a] pos) (rdT W ta) := pw_or1 ha
theorem w_and (ha : PT X a (rdT W ta)) (hb : PW X (.BoolOp .And (b :: rest) pos) (rdT W tb)) : PW X (.BoolOp .And (a :: b :: rest) pos) (rdT W (fAndT ta tb)) :=
  pwI (pw_and ha hb) fun σ H Q ⟨S0, ρ, F, E, p⟩ => tt_bind E p fun k H1 s1 E1 p1 => by
    cases k with
    | true => exact iteT ⟨S0, ρ, F, E1, p1⟩
    | false => exact iteF (p1 H1 (Same.refl H1))
theorem w_or (ha : PT X a (rdT W ta)) (hb : PW X (.BoolOp .Or (b :: rest) pos) (rdT W tb)) : PW X (.BoolOp .Or (a :: b :: rest) pos) (rdT W (fOrT ta tb)) :=
  pwI (pw_or ha hb) fun σ H Q ⟨S0, ρ, F, E, p⟩ => tt_bind E p fun k H1 s1 E1 p1 => by
    cases k with
    | true => exact iteT (p1 H1 (Same.refl H1))
    | false => exact iteF ⟨S0, ρ, F, E1, p1⟩
theorem t_w (h : PW X a (rdT W ta)) : PT X a (rdT W ta) := h.pt
theorem t_not (ha : PT X a (rdT W ta)) : PT X (.UnaryOp .Not a pos) (rdT W (fNotT ta)) :=
  ptI (pt_not ha) fun σ H Q ⟨S0, ρ, F, E, p⟩ => tt_bind E p fun k H1 s1 E1 p1 => p1 H1 (Same.refl H1)
/-! .. values -/
def fOfT (f : FT) : FE := fun ρ => (f ρ).bind okB
def fAndV (f : FE) (g : FE) : FE := fun ρ => (f ρ).bind fun r => (toB r).bind fun b => if b then g ρ else okB false
def fOrV (f : FE) (g : FE) : FE := fun ρ => (f ρ).bind fun r => (toB r).bind fun b => if b then okB true else g ρ
def fNotV (f : FE) : FE := fun ρ => (f ρ).bind fun r => (toB r).bind fun b => okB (!b)
theorem e_one {op} (h : PE X a (rdE W fa)) : PE X (.BoolOp op [a] pos) (rdE W fa) := pe_one h
theorem post_toB {S0 : PA1} {F : FP} {H : Hp} {Q : VK} {σ : St} {r : R} {v : V} {g : Bool → Res R} (z : Fz S0 F H r v) (h : Post W S0 F σ H Q ((toB r).bind g)) : ∃ k, v = .bl k ∧ Post W S0 F σ H Q (g k) := by
  unfold toB at h
  split at h
  · rename_i b e
    exact ⟨b, z.bl e, h⟩
  · exact h.elim
theorem e_and (ha : PE X a (rdE W fa)) (hb : PE X (.BoolOp .And (b :: rest) pos) (rdE W fb)) : PE X (.BoolOp .And (a :: b :: rest) pos) (rdE W (fAndV fa fb)) :=
  peI (pe_and ha hb) fun σ H Q ⟨S0, ρ, F, E, p⟩ => post_bind E p fun r v H1 fp s1 n1 v1 E1 p1 => by
    obtain ⟨k, e, p2⟩ := post_toB (v1.fz (E.nin n1 _)) p1
    refine ⟨k, e, ?_⟩
    cases k with
    | true => exact iteT ⟨S0, ρ, F, E1, p2⟩
    | false => exact iteF (okB_post p2)
theorem e_or (ha : PE X a (rdE W fa)) (hb : PE X (.BoolOp .Or (b :: rest) pos) (rdE W fb)) : PE X (.BoolOp .Or (a :: b :: rest) pos) (rdE W (fOrV fa fb)) :=
  peI (pe_or ha hb) fun σ H Q ⟨S0, ρ, F, E, p⟩ => post_bind E p fun r v H1 fp s1 n1 v1 E1 p1 => by
    obtain ⟨k, e, p2⟩ := post_toB (v1.fz (E.nin n1 _)) p1
    refine ⟨k, e, ?_⟩
    cases k with
    | true => exact iteT (okB_post p2)
    | false => exact iteF ⟨S0, ρ, F, E1, p2⟩
theorem e_not (ha : PE X a (rdE W fa)) : PE X (.UnaryOp .Not a pos) (rdE W (fNotV fa)) :=
  peI (pe_not ha) fun σ H Q ⟨S0, ρ, F, E, p⟩ => post_bind E p fun r v H1 fp s1 n1 v1 E1 p1 => by
    obtain ⟨k, e, p2⟩ := post_toB (v1.fz (E.nin n1 _)) p1
    exact ⟨k, e, okB_post p2⟩
def fIte (t : FT) (f g : FE) : FE := fun ρ => (t ρ).bind fun b => if b then f ρ else g ρ
theorem e_ite {t : Expr} {ft : FT} (ht : PT X t (rdT W ft)) (ha : PE X a (rdE W fa)) (hb : PE X b (rdE W fb)) : PE X (.IfExp t a b pos) (rdE W (fIte ft fa fb)) :=
  peI (pe_ifExp ht ha hb) fun σ H Q ⟨S0, ρ, F, E, p⟩ => te_bind E p fun k H1 s1 E1 p1 => by
    cases k with
    | true => exact iteT ⟨S0, ρ, F, E1, p1⟩
    | false => exact iteF ⟨S0, ρ, F, E1, p1⟩

/-! a < b < c -/
def fChain (g g' : G2) (fa fb fc : FE) : FE := fun ρ => (fa ρ).bind fun ra => (fb ρ).bind fun rb => (g ra rb).bind fun r => (toB r).bind fun k => if k then (fc ρ).bind fun rc => g' rb rc else okB false
theorem rd_chain {g' : G2} {r r' : R2} {f : Int → Int → Bool} (hr : r = rI0 fun i j => .bl (f i j)) (hg' : OpOk r' g') {σ : St} {H : Hp} {Q : VK} (h : rdE W (fChain (gCmp f) g' fa fb fc) σ H Q) : tChain r r' (rdE W fa) (rdE W fb) (rdE W fc) σ H Q := by
  obtain ⟨S0, ρ, F, E, p⟩ := h
  refine post_bind E p fun ra x H1 fp1 s1 n1 v1 E1 p1 => post_bind E1 p1 fun rb y H2 fp2 s2 n2 v2 E2 p2 => ?_
  have z1 := (v1.fz (E.nin n1 ra.e)).grow s2
  have z2 := v2.fz (E1.nin n2 rb.e)
  subst hr
  unfold gCmp at p2
  split at p2
  · rename_i i j ea eb
    refine ⟨i, j, z1.int ea, z2.int eb, f i j, rfl, ?_⟩
    have p2 : Post W S0 F σ H2 Q (if f i j = true then (fc ρ).bind fun rc => g' rb rc else okB false) := p2
    cases hf : f i j with
    | true =>
      rw [hf, if_pos rfl] at p2
      exact iteT (post_bind E2 p2 fun rc w H3 fp3 s3 n3 v3 E3 p3 => hg' S0 ρ σ H3 F W rb rc y w Q E3 (z2.grow s3) (v3.fz (E2.nin n3 _)) p3)
    | false =>
      rw [hf, if_neg Bool.false_ne_true] at p2
      exact iteF (okB_post p2)
  · exact p2.elim
theorem e_chain {op op' : CmpOp} {g' : G2} {r' : R2} {f : Int → Int → Bool} (ho : OpR X (compareOp op) (rI0 fun i j => .bl (f i j))) (ho' : OpR X (compareOp op') r') (hg' : OpOk r' g') (ha : PE X a (rdE W fa)) (hb : PE X b (rdE W fb)) (hc : PE X c (rdE W fc))
    (hm : lastMarks [op, op'] [b, c] = false := by with_unfolding_all rfl) : PE X (.Compare a [op, op'] [b, c] pos) (rdE W (fChain (gCmp f) g' fa fb fc)) :=
  peI (pe_chain ho ho' ha hb hc hm) fun _ _ _ h => rd_chain rfl hg' h
theorem t_chain {op op' : CmpOp} {g' : G2} {r' : R2} {f : Int → Int → Bool} (ho : OpR X (compareOp op) (rI0 fun i j => .bl (f i j))) (ho' : OpR X (compareOp op') r') (hg' : OpOk r' g') (ha : PE X a (rdE W fa)) (hb : PE X b (rdE W fb)) (hc : PE X c (rdE W fc))
    (hm : lastMarks [op, op'] [b, c] = false := by with_unfolding_all rfl) : PT X (.Compare a [op, op'] [b, c] pos) (rdT W (fTest (fChain (gCmp f) g' fa fb fc))) :=
  ptI (pt_chain ho ho' ha hb hc hm) fun _ _ _ h => rd_chain rfl hg' (rd_test h)
end
end PyL

namespace PyL
open PySem PySem.Spec L2
set_option autoImplicit false

/-! ### values in a row -/
def VRL (S0 : PA1) (F : FP) (T : List Addr) (H : Hp) : List R → List V → List Addr → Prop
  | [], vs, fp => vs = [] ∧ fp = []
  | r :: rs, vs, fp => ∃ v t f1 f2, vs = v :: t ∧ Ow (fun a => inS S0 F r.e a ∨ a ∈ T) H r.k r.d v f1 ∧ ItD (inS S0 F r.c) H r.d v ∧ VRL S0 F T H rs t f2 ∧ fp = f1 ++ f2 ∧ ∀ a, a ∈ f1 → a ∉ f2
abbrev FA := Ev → Res (List R)
def PostA (W : WK) (S0 : PA1) (F : FP) (σ : St) (H : Hp) (Q : List V → Hp → Prop) : Res (List R) → Prop
  | .ok rs => ∀ vs H' fp, Same H H' → (∀ a ∈ fp, H a = none) → VRL S0 F fp H' rs vs fp → Q vs H'
  | .exn x => ∀ H', Same H H' → ∀ d, repF S0 x.fs d H' → W x.cls d σ H'
  | .bad => False
def rdA (W : WK) (f : FA) : TA := fun σ H Q => ∃ S0 ρ F, EE S0 ρ σ H F ∧ PostA W S0 F σ H Q (f ρ)
def fNil : FA := fun _ => .ok []
def fCons (f : FE) (g : FA) : FA := fun ρ => (f ρ).bind fun r => (g ρ).bind fun rs => .ok (r :: rs)

theorem VRL.imp {S0 S1 : PA1} {F : FP} {T T' : List Addr} {H : Hp} (h : ∀ e b, inS S0 F e b ∨ b ∈ T' → inS S1 F e b ∨ b ∈ T) (h' : ∀ e b, inS S0 F e b → inS S1 F e b) : ∀ {rs : List R} {vs : List V} {fp : List Addr}, VRL S1 F T H rs vs fp → VRL S0 F T' H rs vs fp
  | [], _, _, x => x
  | r :: rs, _, _, ⟨v, t, f1, f2, e, o, i, l, ef, dj⟩ => ⟨v, t, f1, f2, e, Ow.imp (fun b o q n => ⟨q, fun z => n (h _ b z)⟩) _ _ _ _ (fun _ _ _ q => q) o, ItD.imp (Same.refl H) (fun b o q n z => n (h' _ b z)) i, VRL.imp h h' l, ef, dj⟩
theorem VRL.there {S0 : PA1} {F : FP} {T : List Addr} {H : Hp} : ∀ {rs : List R} {vs : List V} {fp : List Addr}, VRL S0 F T H rs vs fp → ∀ a ∈ fp, TrM H a
  | [], _, _, ⟨_, e⟩, a, ha => by rw [e] at ha; cases ha
  | r :: rs, _, _, ⟨v, t, f1, f2, e, o, i, l, ef, dj⟩, a, ha => by
    rw [ef] at ha
    rcases List.mem_append.mp ha with ha | ha
    · exact Ow.there _ _ _ _ o a ha
    · exact l.there a ha

section
variable {X : Cx} {W : WK}
theorem a_nil : PA X [] (rdA W fNil) := paI pa_nil fun σ H Q ⟨S0, ρ, F, E, p⟩ => p [] H [] (Same.refl H) (fun a ha => by cases ha) ⟨rfl, rfl⟩
theorem a_cons {e : Expr} {es : List Expr} {fe : FE} {fa : FA} (he : PE X e (rdE W fe)) (hr : PA X es (rdA W fa)) (hs : starEach (e :: es) X.env = (false, eval e X.env) :: starEach es X.env := by rfl) : PA X (e :: es) (rdA W (fCons fe fa)) := by
  refine paI (pa_cons he hr hs) fun σ H Q ⟨S0, ρ, F, E, p⟩ => ?_
  refine ⟨S0, ρ, F, E, ?_⟩
  unfold fCons at p
  cases q : fe ρ with
  | bad => rw [q] at p; exact p.elim
  | exn x => rw [q] at p; exact p
  | ok r =>
    rw [q] at p
    intro v H1 fp1 s1 n1 v1
    have tr1 : ∀ a ∈ fp1, TrM H1 a := Ow.there _ _ _ _ v1.ow
    have E1 : EE (fun a => S0 a ∨ a ∈ fp1) ρ σ H1 F := E.ext s1 (fun a h => h.elim .inl fun h => .inr (n1 a h)) fun a h => h.elim (fun h => (E.out a h).grow s1) (tr1 a)
    refine ⟨_, ρ, F, E1, ?_⟩
    have p : PostA W S0 F σ H Q ((fa ρ).bind fun rs => .ok (r :: rs)) := p
    cases q2 : fa ρ with
    | bad => rw [q2] at p; exact p.elim
    | exn x => rw [q2] at p; exact fun H' s d r => p H' (s1.trans s) d (r.mono fun _ z => .inl z)
    | ok rs =>
      rw [q2] at p
      intro vs H2 fp2 s2 n2 l2
      refine p (v :: vs) H2 (fp1 ++ fp2) (s1.trans s2) (fun a ha => (List.mem_append.mp ha).elim (n1 a) fun h => s1.free (n2 a h)) ⟨v, vs, fp1, fp2, rfl, ?_, ?_, ?_, rfl, fun a h1 h2 => ?_⟩
      · refine Ow.imp (fun b o q n => ⟨s2 _ _ q, fun z => ?_⟩) _ _ _ _ (fun b o _ q => s2 _ _ q) v1.ow
        rcases z with z | z
        · exact n (.inl z)
        · rcases List.mem_append.mp z with z | z
          · exact n (.inr z)
          · rw [n2 b z] at q; cases q
      · exact v1.it.imp s2 fun _ _ _ n => n
      · refine l2.imp (fun e b z => ?_) (fun e b z => ?_)
        · rcases z with z | z
          · rcases z with z | z
            · exact .inl (.inl (.inl z))
            · exact .inl (.inr z)
          · rcases List.mem_append.mp z with z | z
            · exact .inl (.inl (.inr z))
            · exact .inr z
        · rcases z with z | z
          · exact .inl (.inl z)
          · exact .inr z
      · obtain ⟨o, ho, _⟩ := tr1 a h1
        rw [n2 a h2] at ho; cases ho
end

/-- frozen ones -/
def FzL (S0 : PA1) (F : FP) (H : Hp) : List R → List V → Prop
  | [], vs => vs = []
  | r :: rs, vs => ∃ v t, vs = v :: t ∧ Fz S0 F H r v ∧ FzL S0 F H rs t
theorem VRL.fz {S0 : PA1} {F : FP} {T : List Addr} {H : Hp} : ∀ {rs : List R} {vs : List V} {fp : List Addr}, VRL S0 F T H rs vs fp → (∀ e, ∀ a ∈ fp, ¬ inS S0 F e a) → FzL S0 F H rs vs
  | [], _, _, ⟨e, _⟩, _ => e
  | r :: rs, _, _, ⟨v, t, f1, f2, e, o, i, l, ef, dj⟩, n => ⟨v, t, e, ⟨Ow.frz (fun _ _ _ z => .inl z) _ _ _ _ (fun a ha => n _ a (by rw [ef]; exact List.mem_append_left _ ha)) o, i⟩, l.fz fun e a ha => n e a (by rw [ef]; exact List.mem_append_right _ ha)⟩
theorem post_args {W : WK} {S0 : PA1} {ρ : Ev} {F : FP} {σ : St} {H : Hp} {f : FA} {Q : VK} {g : List R → Res R} {K : List V → Hp → Prop} (E : EE S0 ρ σ H F) (h : Post W S0 F σ H Q ((f ρ).bind g))
    (k : ∀ rs vs H1 fp, Same H H1 → (∀ a ∈ fp, H a = none) → VRL S0 F fp H1 rs vs fp → EE S0 ρ σ H1 F → Post W S0 F σ H Q (g rs) → K vs H1) : rdA W f σ H K := by
  refine ⟨S0, ρ, F, E, ?_⟩
  cases q : f ρ with
  | ok r =>
    rw [q] at h
    exact fun v H1 fp s n vr => k r v H1 fp s n vr (E.grow s) h
  | exn x => rw [q] at h; exact h
  | bad => rw [q] at h; exact h

/-! ### displays -/
def esL (rs : List R) : List Nat := (rs.map (·.e)).flatten
def cDepth (rs : List R) : Nat := match rs.filter fun r => !scal r.d with
  | [] => 0
  | r :: t => if t.all fun q => q.k == r.k then r.k else 0
def dispL (rs : List R) : Res R := if rs.length ≤ sizeLine then .ok ⟨.lst (rs.map (·.d)), cDepth rs + 1, esL rs, esL rs⟩ else .bad
def dispT (rs : List R) : Res R := if rs.length ≤ sizeLine then .ok ⟨.tup (rs.map (·.d)), if cDepth rs = 0 then 0 else cDepth rs + 1, esL rs, esL rs⟩ else .bad
def fLst (f : FA) : FE := fun ρ => (f ρ).bind dispL
def fTup (f : FA) : FE := fun ρ => (f ρ).bind dispT

theorem esL_mem {rs : List R} {r : R} (h : r ∈ rs) : ∀ i ∈ r.e, i ∈ esL rs := fun i hi => List.mem_flatten.mpr ⟨r.e, List.mem_map.mpr ⟨r, h, rfl⟩, hi⟩
theorem cDepth_k {rs : List R} {r : R} (h : r ∈ rs) (hs : scal r.d = false) (hd : cDepth rs ≠ 0) : r.k = cDepth rs := by
  have hm : r ∈ rs.filter fun r => !scal r.d := List.mem_filter.mpr ⟨h, by rw [hs]; rfl⟩
  unfold cDepth at hd ⊢
  split at hd
  · exact absurd rfl hd
  · rename_i q t e
    rw [e] at hm
    split at hd
    · rename_i ha
      show r.k = if (t.all fun q_1 => q_1.k == q.k) = true then q.k else 0
      rw [if_pos ha]
      rcases List.mem_cons.mp hm with z | z
      · rw [z]
      · have := List.all_eq_true.mp ha r z
        simpa using this
    · exact absurd rfl hd
theorem cDepth_sc {rs : List R} : (∀ r ∈ rs, scal r.d = true ∨ r.k = cDepth rs ∨ cDepth rs = 0) := fun r h => by
  by_cases hs : scal r.d = true
  · exact .inl hs
  · by_cases hd : cDepth rs = 0
    · exact .inr (.inr hd)
    · exact .inr (.inl (cDepth_k h (by simpa using hs) hd))
/-- all of one depth -/
theorem VRL.all {S0 : PA1} {F : FP} {T : List Addr} {H : Hp} {m : Nat} {E : List Nat} : ∀ {rs : List R} {vs : List V} {fp : List Addr}, VRL S0 F T H rs vs fp → (∀ r ∈ rs, scal r.d = true ∨ r.k = m) → (∀ r ∈ rs, ∀ i ∈ r.e, i ∈ E) → AllF (Ow (fun a => inS S0 F E a ∨ a ∈ T) H m) (rs.map (·.d)) vs fp
  | [], _, _, x, _, _ => x
  | r :: rs, _, _, ⟨v, t, f1, f2, e, o, i, l, ef, dj⟩, hm, he => by
    refine ⟨v, t, f1, f2, e, ?_, VRL.all l (fun r h => hm r (List.mem_cons_of_mem _ h)) (fun r h => he r (List.mem_cons_of_mem _ h)), ef, dj⟩
    have o' : Ow (fun a => inS S0 F E a ∨ a ∈ T) H r.k r.d v f1 := Ow.imp (fun b o q n => ⟨q, fun z => n (z.elim (fun z => .inl (inS_mono (he r List.mem_cons_self) z)) .inr)⟩) _ _ _ _ (fun _ _ _ q => q) o
    rcases hm r List.mem_cons_self with z | z
    · obtain ⟨o2, e2⟩ := scal_ow (S' := fun a => inS S0 F E a ∨ a ∈ T) (H' := H) z o' m
      rw [e2]; exact o2
    · rw [← z]; exact o'
theorem FzL.rp {S0 : PA1} {F : FP} {H : Hp} {E : List Nat} : ∀ {rs : List R} {vs : List V}, FzL S0 F H rs vs → (∀ r ∈ rs, ∀ i ∈ r.e, i ∈ E) → RpL (inS S0 F E) H (rs.map (·.d)) vs
  | [], _, x, _ => x
  | r :: rs, _, ⟨v, t, e, z, l⟩, he => ⟨v, t, e, Rp.weak (he r List.mem_cons_self) z.rp, FzL.rp l fun r h => he r (List.mem_cons_of_mem _ h)⟩
theorem all_zero {S : PA1} {H : Hp} : ∀ {ds : List D} {xs : List V}, RpL S H ds xs → AllF (Ow S H 0) ds xs []
  | [], _, h => ⟨h, rfl⟩
  | d :: ds, _, ⟨x, r, e, p, q⟩ => ⟨x, r, [], [], e, ⟨p, rfl⟩, all_zero q, rfl, by simp⟩
theorem AllF.mono {S S' : PA1} {H H' : Hp} {k : Nat} (h : ∀ b o, H b = some o → ¬ S b → H' b = some o ∧ ¬ S' b) (sm : Same H H') {ds : List D} {xs : List V} {fp : List Addr} (a : AllF (Ow S H k) ds xs fp) : AllF (Ow S' H' k) ds xs fp :=
  a.imp fun d v f _ p => Ow.imp h k d v f (fun b o _ q => sm _ _ q) p

section
variable {X : Cx} {W : WK} {es : List Expr} {fa : FA} {pos : Pos}
theorem e_lst (h : PA X es (rdA W fa)) : PE X (.List es pos) (rdE W (fLst fa)) := by
  refine peI (pe_lst h) fun σ H Q ⟨S0, ρ, F, E, p⟩ => post_args E p fun rs vs H1 fp s1 n1 l1 E1 p1 => ?_
  have fz := l1.fz (fun e => E.nin n1 e)
  have len : rs.length = vs.length := by have := (fz.rp (E := esL rs) fun r h => esL_mem h).length; simpa using this
  unfold dispL at p1
  split at p1
  · rename_i hz
    refine ⟨by rw [← len]; exact hz, fun q nq => ?_⟩
    have sm := same_upd (o := .lst vs) nq
    have it : ItD (inS S0 F (esL rs)) (upd H1 q (.lst vs)) (.lst (rs.map (·.d))) (.ref q) := ⟨q, vs, rfl, upd_same, RpL.imp (fun b o z n => ⟨sm _ _ z, n⟩) _ _ (fz.rp fun r h => esL_mem h)⟩
    by_cases hd : cDepth rs = 0
    · refine (Post.grow p1 s1) _ _ [q] sm (fun a ha => by rw [List.mem_singleton.mp ha]; exact nq) ⟨?_, it⟩
      simp only [hd]
      exact ⟨q, vs, [], rfl, upd_same, (all_zero (fz.rp fun r h => esL_mem h)).mono (fun b o z n => ⟨sm _ _ z, fun y => y.elim n fun y => ne_of_none z nq (List.mem_singleton.mp y)⟩) sm, rfl, by simp⟩
    · have al := l1.all (m := cDepth rs) (fun r h => (cDepth_sc r h).elim .inl fun z => z.elim .inr fun z => absurd z hd) fun r h => esL_mem h
      have nfp : q ∉ fp := fun z => by obtain ⟨o, ho, _⟩ := l1.there q z; rw [nq] at ho; cases ho
      exact p1 _ _ (q :: fp) (s1.trans sm) (fun a ha => (List.mem_cons.mp ha).elim (fun z => z ▸ s1.free nq) (n1 a)) ⟨⟨q, vs, fp, rfl, upd_same, al.mono (fun b o z n => ⟨sm _ _ z, fun y => y.elim (fun y => n (.inl y)) fun y => (List.mem_cons.mp y).elim (fun y => ne_of_none z nq y) fun y => n (.inr y)⟩) sm, rfl, nfp⟩, it⟩
  · exact p1.elim
theorem e_tup {x1} (h : PA X es (rdA W fa)) : PE X (.Tuple es x1 pos) (rdE W (fTup fa)) := by
  refine peI (pe_tup h) fun σ H Q ⟨S0, ρ, F, E, p⟩ => post_args E p fun rs vs H1 fp s1 n1 l1 E1 p1 => ?_
  have fz := l1.fz (fun e => E.nin n1 e)
  have len : rs.length = vs.length := by have := (fz.rp (E := esL rs) fun r h => esL_mem h).length; simpa using this
  unfold dispT at p1
  split at p1
  · rename_i hz
    refine ⟨by rw [← len]; exact hz, fun q nq => ?_⟩
    have sm := same_upd (o := .tup vs) nq
    have rp : RpL (inS S0 F (esL rs)) (upd H1 q (.tup vs)) (rs.map (·.d)) vs := RpL.imp (fun b o z n => ⟨sm _ _ z, n⟩) _ _ (fz.rp fun r h => esL_mem h)
    have it : ItD (inS S0 F (esL rs)) (upd H1 q (.tup vs)) (.tup (rs.map (·.d))) (.ref q) := ⟨q, vs, rfl, upd_same, rp⟩
    have nq0 : H q = none := s1.free nq
    by_cases hd : cDepth rs = 0
    · refine (Post.grow p1 s1) _ _ [] sm (fun a ha => by cases ha) ⟨?_, it⟩
      simp only [hd, if_true]
      exact ⟨⟨q, vs, rfl, fun z => z.elim (fun z => E.fresh z nq0) (fun z => by cases z), upd_same, RpL.imp (fun b o z n => ⟨z, fun y => y.elim n (fun y => by cases y)⟩) _ _ rp⟩, rfl⟩
    · have al := l1.all (m := cDepth rs) (fun r h => (cDepth_sc r h).elim .inl fun z => z.elim .inr fun z => absurd z hd) fun r h => esL_mem h
      have nfp : q ∉ fp := fun z => by obtain ⟨o, ho, _⟩ := l1.there q z; rw [nq] at ho; cases ho
      rw [if_neg hd] at p1
      exact p1 _ _ fp (s1.trans sm) n1 ⟨⟨q, vs, rfl, fun z => z.elim (fun z => E.fresh z nq0) nfp, upd_same, al.mono (fun b o z n => ⟨sm _ _ z, n⟩) sm⟩, it⟩
  · exact p1.elim
end

/-- [] that shall hold lists one's own -/
def fLstE (dep : Nat) : FE := fun _ => .ok ⟨.lst [], dep + 1, [], []⟩
section
variable {X : Cx} {W : WK} {pos : Pos}
theorem e_lstE {dep : Nat} : PE X (.List [] pos) (rdE W (fLstE dep)) :=
  peI (pe_lst pa_nil) fun σ H Q ⟨S0, ρ, F, E, p⟩ => ⟨Nat.zero_le _, fun o no => p _ _ [o] (same_upd no) (fun a ha => by rw [List.mem_singleton.mp ha]; exact no) ⟨⟨o, [], [], rfl, upd_same, ⟨rfl, rfl⟩, rfl, by simp⟩, ⟨o, [], rfl, upd_same, rfl⟩⟩⟩
end
/-! ### subscripts -/
def IxOk (r2 : R2) (g : G2) : Prop := OpOk r2 g
def gIx : G2 := fun ra rb => match ra.d, rb.d with
  | .lst ds, .int i => match atI ds i with
    | some d => .ok (itemR ra d)
    | none => .bad
  | .tup ds, .int i => match atI ds i with
    | some d => .ok (itemR ra d)
    | none => .bad
  | _, _ => .bad
theorem RpL.atI {S : PA1} {H : Hp} {ds : List D} {xs : List V} {i : Int} {d : D} (l : RpL S H ds xs) (h : L2.atI ds i = some d) : ∃ x, L2.atI xs i = some x ∧ Rp S H d x := by
  unfold L2.atI at h ⊢
  rw [← l.length]
  cases q : ixN ds.length i with
  | none => rw [q] at h; cases h
  | some j =>
    rw [q] at h
    exact l.get h
theorem ok_ix {K : PySem.W.Frag} : OpOk (fun x y H Q => rIxL K x y H Q ∨ rIxT K x y H Q) gIx := by
  intro S0 ρ σ H F W ra rb x y Q E hx hy p
  unfold gIx at p
  split at p
  · rename_i ds i ea eb
    split at p
    · rename_i d hd
      obtain ⟨a, us, rfl, ha, la⟩ := hx.lst ea
      obtain ⟨z, hz, rz⟩ := la.atI hd
      exact .inl ⟨a, us, i, z, rfl, hy.int eb, SqL.of ha, hz, post_item E p rz⟩
    · exact p.elim
  · rename_i ds i ea eb
    split at p
    · rename_i d hd
      obtain ⟨a, us, rfl, ha, la⟩ := hx.tup ea
      obtain ⟨z, hz, rz⟩ := la.atI hd
      exact .inr ⟨a, us, i, z, rfl, hy.int eb, SqT.of ha, hz, post_item E p rz⟩
    · exact p.elim
  · exact p.elim
section
variable {X : Cx} {W : WK} {a b : Expr} {fa fb : FE} {pos : Pos}
theorem e_ix (ha : PE X a (rdE W fa)) (hb : PE X b (rdE W fb)) (hs : PlainIx b := by exact fun _ _ => rfl) : PE X (.Subscript a b pos) (rdE W (fBin gIx fa fb)) :=
  peI (pe_ix (ix_list.or ix_tup) ha hb hs) fun _ _ _ h => rd_bin ok_ix h
end

/-! ### slices -/
def cutD (ds : List D) (lo hi : Option Int) : List D := (ds.drop (HT.sIx ds.length 0 lo)).take (HT.sIx ds.length ds.length hi - HT.sIx ds.length 0 lo)
abbrev FO := Ev → Res (Option Int)
def PostO (W : WK) (S0 : PA1) (σ : St) (H : Hp) (Q : Option Int → Hp → Prop) : Res (Option Int) → Prop
  | .ok b => ∀ H', Same H H' → Q b H'
  | .exn x => ∀ H', Same H H' → ∀ d, repF S0 x.fs d H' → W x.cls d σ H'
  | .bad => False
def rdO (W : WK) (f : FO) : TO := fun σ H Q => ∃ S0 ρ F, EE S0 ρ σ H F ∧ PostO W S0 σ H Q (f ρ)
def fNoP : FO := fun _ => .ok none
def toI (r : R) : Res (Option Int) := match r.d with
  | .int i => .ok (some i)
  | _ => .bad
def fPart (f : FE) : FO := fun ρ => (f ρ).bind toI
theorem poI {X : Cx} {e : Option Expr} {t t' : TO} (h : PO X e t) (i : ∀ σ H Q, t' σ H Q → t σ H Q) : PO X e t' := ⟨fun pins s σ H Q I q => h.run pins s σ H Q I (i σ H Q q)⟩
section
variable {X : Cx} {W : WK} {e : Expr} {fe : FE} {fl fh : FO}
theorem o_none : PO X none (rdO W fNoP) := poI po_none fun σ H Q ⟨S0, ρ, F, E, p⟩ => p H (Same.refl H)
theorem o_some (h : PE X e (rdE W fe)) : PO X (some e) (rdO W (fPart fe)) := poI (po_some h) fun σ H Q ⟨S0, ρ, F, E, p⟩ => by
  refine ⟨S0, ρ, F, E, ?_⟩
  unfold fPart at p
  cases q : fe ρ with
  | bad => rw [q] at p; exact p.elim
  | exn x => rw [q] at p; exact p
  | ok r =>
    rw [q] at p
    intro v H1 fp s1 n1 v1
    have z := v1.fz (E.nin n1 _)
    have p : PostO W S0 σ H Q (toI r) := p
    unfold toI at p
    split at p
    · rename_i i e
      exact ⟨i, z.int e, p H1 s1⟩
    · exact p.elim
end
def gSl (ra : R) (lo hi : Option Int) : Res R := match ra.d with
  | .lst ds => .ok ⟨.lst (cutD ds lo hi), 1, ra.c, ra.c⟩
  | _ => .bad
def fSl (f : FE) (fl fh : FO) : FE := fun ρ => (f ρ).bind fun r => (fl ρ).bind fun lo => (fh ρ).bind fun hi => gSl r lo hi
theorem RpL.cut {S : PA1} {H : Hp} {ds : List D} {xs : List V} (l : RpL S H ds xs) (lo hi : Option Int) : RpL S H (cutD ds lo hi) (cutV xs lo hi) := by
  unfold cutD cutV
  rw [l.length]
  exact (l.drop _).take _
theorem RpL.ints {S : PA1} {H : Hp} : ∀ ns : List Int, RpL S H (ns.map .int) (ns.map V.int)
  | [] => rfl
  | n :: ns => ⟨_, _, rfl, rfl, RpL.ints ns⟩
theorem post_obind {W : WK} {S0 : PA1} {ρ : Ev} {F : FP} {σ : St} {H : Hp} {f : FO} {Q : VK} {g : Option Int → Res R} {K : Option Int → Hp → Prop} (E : EE S0 ρ σ H F) (h : Post W S0 F σ H Q ((f ρ).bind g))
    (k : ∀ b H1, Same H H1 → EE S0 ρ σ H1 F → Post W S0 F σ H1 Q (g b) → K b H1) : rdO W f σ H K := by
  refine ⟨S0, ρ, F, E, ?_⟩
  cases q : f ρ with
  | ok b =>
    rw [q] at h
    exact fun H1 s => k b H1 s (E.grow s) (Post.grow h s)
  | exn x => rw [q] at h; exact h
  | bad => rw [q] at h; exact h
section
variable {X : Cx} {W : WK} {a : Expr} {lo hi : Option Expr} {fa : FE} {fl fh : FO} {pos p2 : Pos}
theorem e_sl (ha : PE X a (rdE W fa)) (hl : PO X lo (rdO W fl)) (hh : PO X hi (rdO W fh)) : PE X (.Subscript a (.Slice lo hi none p2) pos) (rdE W (fSl fa fl fh)) := by
  refine peI (pe_slice sl_list ha hl hh) fun σ H Q ⟨S0, ρ, F, E, p⟩ => ?_
  refine post_bind E p fun r v H1 fp s1 n1 v1 E1 p1 => post_obind E1 p1 fun l H2 s2 E2 p2 => post_obind E2 p2 fun h H3 s3 E3 p3 => ?_
  have z := ((v1.fz (E.nin n1 _)).grow s2).grow s3
  unfold gSl at p3
  split at p3
  · rename_i ds e
    obtain ⟨b, us, rfl, hb, lb⟩ := z.lst e
    exact ⟨b, us, rfl, SqL.of hb, post_lst E3 p3 (lb.cut l h)⟩
  · exact p3.elim
end
/-- the same, of the law's own script -/
noncomputable def gSlK (K : PySem.W.Frag) (ra : R) (lo hi : Option Int) : Res R := match ra.d with
  | .scr K' ns => open Classical in if K' = K then .ok ⟨.lst (cutD (ns.map .int) lo hi), 1, [], []⟩ else .bad
  | _ => gSl ra lo hi
noncomputable def fSlK (K : PySem.W.Frag) (f : FE) (fl fh : FO) : FE := fun ρ => (f ρ).bind fun r => (fl ρ).bind fun lo => (fh ρ).bind fun hi => gSlK K r lo hi
section
variable {X : Cx} {W : WK} {a : Expr} {lo hi : Option Expr} {fa : FE} {fl fh : FO} {pos p2 : Pos}
theorem e_slK (ha : PE X a (rdE W fa)) (hl : PO X lo (rdO W fl)) (hh : PO X hi (rdO W fh)) : PE X (.Subscript a (.Slice lo hi none p2) pos) (rdE W (fSlK X.K fa fl fh)) := by
  refine peI (pe_slice sl_list ha hl hh) fun σ H Q ⟨S0, ρ, F, E, p⟩ => ?_
  refine post_bind E p fun r v H1 fp s1 n1 v1 E1 p1 => post_obind E1 p1 fun l H2 s2 E2 p2 => post_obind E2 p2 fun h H3 s3 E3 p3 => ?_
  have z := ((v1.fz (E.nin n1 _)).grow s2).grow s3
  unfold gSlK at p3
  split at p3
  · rename_i K' ns e
    split at p3
    · rename_i hK
      have := z.rp
      rw [e] at this
      obtain ⟨b, rfl, hb⟩ := this
      refine ⟨b, _, rfl, ?_, post_lst E3 p3 ((RpL.ints ns).cut l h)⟩
      rcases hb with ⟨_, o, hb⟩ | hb
      · exact .inl (.inr ⟨o, hb⟩)
      · exact .inr (hK ▸ hb)
    · exact p3.elim
  · unfold gSl at p3
    split at p3
    · rename_i ds e
      obtain ⟨b, us, rfl, hb, lb⟩ := z.lst e
      exact ⟨b, us, rfl, SqL.of hb, post_lst E3 p3 (lb.cut l h)⟩
    · exact p3.elim
end

/-! ### calls of built-ins -/
def BOk (r : List V → Hp → VK → Prop) (g : List R → Res R) : Prop := ∀ (S0 : PA1) (ρ : Ev) (σ : St) (H : Hp) (F : FP) (W : WK) (rs : List R) (vs : List V) (Q : VK), EE S0 ρ σ H F → FzL S0 F H rs vs → Post W S0 F σ H Q (g rs) → r vs H Q
def fB (g : List R → Res R) (f : FA) : FE := fun ρ => (f ρ).bind g
theorem rd_B {W : WK} {f : FA} {r : List V → Hp → VK → Prop} {g : List R → Res R} (hg : BOk r g) {σ : St} {H : Hp} {Q : VK} (h : rdE W (fB g f) σ H Q) : tCB r (rdA W f) σ H Q := by
  obtain ⟨S0, ρ, F, E, p⟩ := h
  exact post_args E p fun rs vs H1 fp s1 n1 l1 E1 p1 => hg S0 ρ σ H1 F W rs vs Q E1 (l1.fz fun e => E.nin n1 e) (Post.grow p1 s1)
section
variable {X : Cx} {W : WK} {e : Expr} {es : List Expr} {fa : FA} {p pos : Pos} {x : Str} {id T : String} {r : List V → Hp → VK → Prop} {g : List R → Res R}
theorem e_callB (hc : CallR X (.builtin id) r) (hg : BOk r g) (hgl : Gl X x) (hm : X.mg x = none) (hv : bootBuiltins x = some (.builtin id)) (ha : PA X (e :: es) (rdA W fa)) (hn : x ≠ "__name__" := by decide) (hdb : (x == ("__debug__" : Str)) = false := by decide)
    (he : starEach (e :: es) X.env = (false, eval e X.env) :: starEach es X.env := by rfl) (hpl : (backTo pos (starEach es X.env)).any (·.1) = false := by rfl) : PE X (.Call (.Name x p) (e :: es) [] pos) (rdE W (fB g fa)) :=
  peI (pe_callB hc hgl hm hv ha hn hdb he hpl) fun _ _ _ h => rd_B hg h
theorem e_callTy (hc : CallR X (.type T) r) (hg : BOk r g) (hgl : Gl X x) (hm : X.mg x = none) (hv : bootBuiltins x = some (.type T)) (ha : PA X (e :: es) (rdA W fa)) (hn : x ≠ "__name__" := by decide) (hdb : (x == ("__debug__" : Str)) = false := by decide)
    (he : starEach (e :: es) X.env = (false, eval e X.env) :: starEach es X.env := by rfl) (hpl : (backTo pos (starEach es X.env)).any (·.1) = false := by rfl) : PE X (.Call (.Name x p) (e :: es) [] pos) (rdE W (fB g fa)) :=
  peI (pe_callTy hc hgl hm hv ha hn hdb he hpl) fun _ _ _ h => rd_B hg h
theorem e_callBfun (hc : CallR X (.builtin id) r) (hg : BOk r g) (hgl : Gl X x) (hm : X.mg x = some (.builtin id)) (ha : PA X (e :: es) (rdA W fa)) (hdb : (x == ("__debug__" : Str)) = false := by decide)
    (he : starEach (e :: es) X.env = (false, eval e X.env) :: starEach es X.env := by rfl) (hpl : (backTo pos (starEach es X.env)).any (·.1) = false := by rfl) : PE X (.Call (.Name x p) (e :: es) [] pos) (rdE W (fB g fa)) :=
  peI (pe_callBfun hc hgl hm ha hdb he hpl) fun _ _ _ h => rd_B hg h
end

/-- one argument, two -/
def on1 (g : R → Res R) : List R → Res R
  | [r] => g r
  | _ => .bad
def on2 (g : R → R → Res R) : List R → Res R
  | [r, q] => g r q
  | _ => .bad
theorem on1_ok {S0 : PA1} {F : FP} {H : Hp} {W : WK} {σ : St} {Q : VK} {g : R → Res R} : ∀ {rs : List R} {vs : List V}, FzL S0 F H rs vs → Post W S0 F σ H Q (on1 g rs) → ∃ r v, vs = [v] ∧ Fz S0 F H r v ∧ Post W S0 F σ H Q (g r)
  | [r], _, ⟨v, t, e, z, et⟩, p => ⟨r, v, by rw [e, show t = [] from et], z, p⟩
  | [], _, _, p => p.elim
  | _ :: _ :: _, _, _, p => p.elim
theorem on2_ok {S0 : PA1} {F : FP} {H : Hp} {W : WK} {σ : St} {Q : VK} {g : R → R → Res R} : ∀ {rs : List R} {vs : List V}, FzL S0 F H rs vs → Post W S0 F σ H Q (on2 g rs) → ∃ r q v w, vs = [v, w] ∧ Fz S0 F H r v ∧ Fz S0 F H q w ∧ Post W S0 F σ H Q (g r q)
  | [r, q], _, ⟨v, t, e, z, v2, t2, e2, z2, et⟩, p => ⟨r, q, v, v2, by rw [e, e2, show t2 = [] from et], z, z2, p⟩
  | [], _, _, p => p.elim
  | [_], _, _, p => p.elim
  | _ :: _ :: _ :: _, _, _, p => p.elim

def gLen := on1 fun r => match r.d with
  | .lst ds => okI ds.length
  | .tup ds => okI ds.length
  | .str x => if x.length ≤ sizeLine then okI x.length else .bad
  | _ => .bad
def rLenA (K : PySem.W.Frag) : List V → Hp → VK → Prop := fun xs H Q => (∃ p ys, xs = [.ref p] ∧ (SqL K H p ys ∨ SqT K H p ys) ∧ Q (.int ys.length) H) ∨ ∃ z, xs = [.str z] ∧ z.length ≤ sizeLine ∧ Q (.int z.length) H
theorem cr_len {X : Cx} : CallR X (.builtin "len") (rLenA X.K) := call_len_seq.or call_len_str
theorem ok_len {K : PySem.W.Frag} : BOk (rLenA K) gLen := by
  intro S0 ρ σ H F W rs vs Q E l p
  obtain ⟨r, v, rfl, z, p⟩ := on1_ok l p
  · skip
    split at p
    · rename_i ds e
      obtain ⟨b, us, rfl, hb, lb⟩ := z.lst e
      exact .inl ⟨b, us, rfl, .inl (SqL.of hb), by rw [← lb.length]; exact okI_post p⟩
    · rename_i ds e
      obtain ⟨b, us, rfl, hb, lb⟩ := z.tup e
      exact .inl ⟨b, us, rfl, .inr (SqT.of hb), by rw [← lb.length]; exact okI_post p⟩
    · rename_i x e
      split at p
      · rename_i hx
        exact .inr ⟨x, by rw [z.str e], hx, okI_post p⟩
      · exact p.elim
    · exact p.elim
def gAbs := on1 fun r => match r.d with
  | .int i => okI (if i < 0 then -i else i)
  | _ => .bad
theorem ok_abs : BOk (fun xs H Q => ∃ i, xs = [.int i] ∧ Q (.int (if i < 0 then -i else i)) H) gAbs := by
  intro S0 ρ σ H F W rs vs Q E l p
  obtain ⟨r, v, rfl, z, p⟩ := on1_ok l p
  · skip
    split at p
    · rename_i i e
      exact ⟨i, by rw [z.int e], okI_post p⟩
    · exact p.elim
def gInt := on1 fun r => match r.d with
  | .int i => okI i
  | .bl k => okI (if k then 1 else 0)
  | _ => .bad
theorem ok_int : BOk (fun xs H Q => (∃ i, xs = [.int i] ∧ Q (.int i) H) ∨ ∃ k, xs = [.bl k] ∧ Q (.int (if k then 1 else 0)) H) gInt := by
  intro S0 ρ σ H F W rs vs Q E l p
  obtain ⟨r, v, rfl, z, p⟩ := on1_ok l p
  · skip
    split at p
    · rename_i i e
      exact .inl ⟨i, by rw [z.int e], okI_post p⟩
    · rename_i i e
      exact .inr ⟨i, by rw [z.bl e], okI_post p⟩
    · exact p.elim
/-- two ints -/
def gII (f : Int → Int → Int) := on2 fun r q => match r.d, q.d with
  | .int i, .int j => okI (f i j)
  | _, _ => .bad
theorem ok_II (f : Int → Int → Int) : BOk (fun xs H Q => ∃ i j, xs = [.int i, .int j] ∧ Q (.int (f i j)) H) (gII f) := by
  intro S0 ρ σ H F W rs vs Q E l p
  obtain ⟨r, q, v, w, rfl, z, z2, p⟩ := on2_ok l p
  · skip
    split at p
    · rename_i i j e1 e2
      exact ⟨i, j, by rw [z.int e1, z2.int e2], okI_post p⟩
    · exact p.elim
def gMax2 := gII fun i j => if j > i then j else i
def gMin2 := gII fun i j => if j < i then j else i
def gGcd := gII fun a b => ((Nat.gcd a.natAbs b.natAbs : Nat) : Int)

/-! ints of a list -/
def intsOf : List D → Option (List Int)
  | [] => some []
  | .int i :: r => (intsOf r).map (i :: ·)
  | _ => none
theorem RpL.ofInts {S : PA1} {H : Hp} : ∀ {ds : List D} {xs : List V} {ns : List Int}, RpL S H ds xs → intsOf ds = some ns → xs = ns.map V.int
  | [], _, _, e, h => by cases h; exact e
  | d :: ds, _, ns, ⟨x, r, e, p, l⟩, h => by
    cases d <;> first | (simp [intsOf] at h; done) | skip
    rename_i i
    unfold intsOf at h
    cases q : intsOf ds with
    | none => rw [q] at h; cases h
    | some ms =>
      rw [q] at h
      have : i :: ms = ns := by simpa using h
      rw [e, ← this, l.ofInts q, show x = V.int i from p]
      rfl
/-- one list (or tuple) of ints -/
def onInts (g : List Int → Res R) := on1 fun r => match r.d with
  | .lst ds => match intsOf ds with
    | some ns => g ns
    | none => .bad
  | _ => .bad
theorem onInts_ok {S0 : PA1} {F : FP} {H : Hp} {W : WK} {σ : St} {rs : List R} {vs : List V} {Q : VK} {g : List Int → Res R} (l : FzL S0 F H rs vs) (p : Post W S0 F σ H Q (onInts g rs)) : ∃ (a : Addr) (ns : List Int), vs = [V.ref a] ∧ H a = some (.lst (ns.map V.int)) ∧ Post W S0 F σ H Q (g ns) := by
  obtain ⟨r, v, rfl, z, p⟩ := on1_ok l p
  · skip
    split at p
    · rename_i ds e
      split at p
      · rename_i ns hn
        obtain ⟨b, us, rfl, hb, lb⟩ := z.lst e
        rw [lb.ofInts hn] at hb
        exact ⟨b, ns, rfl, hb, p⟩
      · exact p.elim
    · exact p.elim
def gSum := onInts fun ns => okI ns.sum
theorem ok_sum {K : PySem.W.Frag} : BOk (rSum K) gSum := by
  intro S0 ρ σ H F W rs vs Q E l p
  obtain ⟨a, ns, e, ha, q⟩ := onInts_ok l p
  exact ⟨a, ns, e, SqL.of ha, okI_post q⟩
def minL : List Int → Int
  | [] => 0
  | [x] => x
  | x :: r => min x (minL r)
def maxL : List Int → Int
  | [] => 0
  | [x] => x
  | x :: r => max x (maxL r)
theorem minL_spec : ∀ (ns : List Int) (m : Int), m ∈ ns → (∀ y, y ∈ ns → m ≤ y) → minL ns = m
  | [], m, h, _ => by cases h
  | [x], m, h, _ => by simp at h; exact h.symm
  | x :: y :: r, m, h, hl => by
    show min x (minL (y :: r)) = m
    rcases List.mem_cons.mp h with e | h
    · subst e
      have : ∀ (l : List Int), l ≠ [] → minL l ∈ l := by
        intro l
        induction l with
        | nil => intro h; exact absurd rfl h
        | cons a t ih =>
          intro _
          cases t with
          | nil => simp [minL]
          | cons b t =>
            show min a (minL (b :: t)) ∈ _
            have := ih (by simp)
            by_cases hab : a ≤ minL (b :: t)
            · rw [Int.min_eq_left hab]; exact List.mem_cons_self
            · rw [Int.min_eq_right (by omega)]; exact List.mem_cons_of_mem _ this
      have h2 := hl _ (List.mem_cons_of_mem _ (this (y :: r) (by simp)))
      omega
    · have h1 := minL_spec (y :: r) m h fun z hz => hl z (List.mem_cons_of_mem _ hz)
      have h2 := hl x List.mem_cons_self
      omega
theorem maxL_spec : ∀ (ns : List Int) (m : Int), m ∈ ns → (∀ y, y ∈ ns → y ≤ m) → maxL ns = m
  | [], m, h, _ => by cases h
  | [x], m, h, _ => by simp at h; exact h.symm
  | x :: y :: r, m, h, hl => by
    show max x (maxL (y :: r)) = m
    rcases List.mem_cons.mp h with e | h
    · subst e
      have : ∀ (l : List Int), l ≠ [] → maxL l ∈ l := by
        intro l
        induction l with
        | nil => intro h; exact absurd rfl h
        | cons a t ih =>
          intro _
          cases t with
          | nil => simp [maxL]
          | cons b t =>
            show max a (maxL (b :: t)) ∈ _
            have := ih (by simp)
            by_cases hab : maxL (b :: t) ≤ a
            · rw [Int.max_eq_left hab]; exact List.mem_cons_self
            · rw [Int.max_eq_right (by omega)]; exact List.mem_cons_of_mem _ this
      have h2 := hl _ (List.mem_cons_of_mem _ (this (y :: r) (by simp)))
      omega
    · have h1 := maxL_spec (y :: r) m h fun z hz => hl z (List.mem_cons_of_mem _ hz)
      have h2 := hl x List.mem_cons_self
      omega
def gMin := onInts fun ns => if 0 < ns.length then okI (minL ns) else .bad
def gMax := onInts fun ns => if 0 < ns.length then okI (maxL ns) else .bad
theorem ok_min {K : PySem.W.Frag} : BOk (rMin K) gMin := by
  intro S0 ρ σ H F W rs vs Q E l p
  obtain ⟨a, ns, e, ha, q⟩ := onInts_ok l p
  split at q
  · rename_i h0
    refine ⟨a, ns, e, SqL.of ha, h0, fun m hm hl => ?_⟩
    rw [minL_spec ns m hm hl] at q
    exact okI_post q
  · exact q.elim
theorem ok_max {K : PySem.W.Frag} : BOk (rMax K) gMax := by
  intro S0 ρ σ H F W rs vs Q E l p
  obtain ⟨a, ns, e, ha, q⟩ := onInts_ok l p
  split at q
  · rename_i h0
    refine ⟨a, ns, e, SqL.of ha, h0, fun m hm hl => ?_⟩
    rw [maxL_spec ns m hm hl] at q
    exact okI_post q
  · exact q.elim
/-! list(x), tuple(x) -/
def gList := on1 fun r => match r.d with
  | .lst ds => .ok ⟨.lst ds, 1, r.c, r.c⟩
  | .tup ds => .ok ⟨.lst ds, 1, r.c, r.c⟩
  | _ => .bad
theorem ok_list {K : PySem.W.Frag} : BOk (fun xs H Q => ∃ p ys, xs = [.ref p] ∧ (SqL K H p ys ∨ SqT K H p ys) ∧ ∀ l, H l = none → Q (.ref l) (upd H l (.lst ys))) gList := by
  intro S0 ρ σ H F W rs vs Q E l p
  obtain ⟨r, v, rfl, z, p⟩ := on1_ok l p
  · skip
    split at p
    · rename_i ds e
      obtain ⟨b, us, rfl, hb, lb⟩ := z.lst e
      exact ⟨b, us, rfl, .inl (SqL.of hb), post_lst E p lb⟩
    · rename_i ds e
      obtain ⟨b, us, rfl, hb, lb⟩ := z.tup e
      exact ⟨b, us, rfl, .inr (SqT.of hb), post_lst E p lb⟩
    · exact p.elim
def gTuple := on1 fun r => match r.d with
  | .lst ds => .ok ⟨.tup ds, 0, r.c, r.c⟩
  | _ => .bad
theorem ok_tuple {K : PySem.W.Frag} : BOk (fun xs H Q => ∃ p ys, xs = [.ref p] ∧ ((SqL K H p ys ∧ ∀ l, H l = none → Q (.ref l) (upd H l (.tup ys))) ∨ (SqT K H p ys ∧ Q (.ref p) H))) gTuple := by
  intro S0 ρ σ H F W rs vs Q E l p
  obtain ⟨r, v, rfl, z, p⟩ := on1_ok l p
  · skip
    split at p
    · rename_i ds e
      obtain ⟨b, us, rfl, hb, lb⟩ := z.lst e
      exact ⟨b, us, rfl, .inl ⟨SqL.of hb, post_tup E p lb⟩⟩
    · exact p.elim
end PyL

namespace PyL
open PySem PySem.Spec L2
set_option autoImplicit false

/-! ### targets -/
abbrev FG := D → Ev → Option Ev
def rdG (vs : List Nat) (tg : FG) : TG := fun v σ H Q => ∃ S0 ρ F d, EE S0 ρ σ H F ∧ (∀ i ∈ vs, F i = []) ∧ Rp (inS S0 F []) H d v ∧ ∃ ρ', tg d ρ = some ρ' ∧
  ∀ σ', EE S0 ρ' σ' H F → σ'.length = σ.length → (∀ j, j ∉ vs → σ'[j]? = σ[j]?) → Q σ' H
theorem EE.setF {S0 : PA1} {ρ : Ev} {σ : St} {H : Hp} {F : FP} (E : EE S0 ρ σ H F) {i : Nat} {d : D} {v : V} (hi : F i = []) (r : Rp (inS S0 F []) H d v) : EE S0 (ρ.set i (some (d, 0))) (σ.set i (some v)) H F where
  len := by rw [List.length_set, List.length_set]; exact E.len
  rep := fun j d' k h => by
    by_cases hj : j = i
    · subst hj
      have hl : j < ρ.length := by
        have := (List.getElem?_eq_some_iff.mp h).1
        rwa [List.length_set] at this
      rw [List.getElem?_set_self hl] at h
      cases h
      exact ⟨v, by rw [List.getElem?_set_self (by rw [← E.len]; exact hl)], r, hi⟩
    · rw [List.getElem?_set_ne (Ne.symm hj)] at h
      obtain ⟨w, e, o⟩ := E.rep j d' k h
      exact ⟨w, by rw [List.getElem?_set_ne (Ne.symm hj)]; exact e, o⟩
  disj := E.disj
  trk := E.trk
  out := E.out
  apart := E.apart
def gN (i : Nat) : FG := fun d ρ => some (ρ.set i (some (d, 0)))
def gTs : List Nat → List D → Ev → Option Ev
  | [], [], ρ => some ρ
  | i :: is, d :: ds, ρ => gTs is ds (ρ.set i (some (d, 0)))
  | _, _, _ => none
def gT (is : List Nat) : FG := fun d ρ => match d with
  | .tup ds => gTs is ds ρ
  | _ => none
theorem pgI {X : Cx} {e : Expr} {t t' : TG} (h : PG X e t) (i : ∀ v σ H Q, t' v σ H Q → t v σ H Q) : PG X e t' := by
  obtain ⟨h⟩ := h
  exact ⟨fun pins s σ H x u Q I r q => h pins s σ H x u Q I r (i _ _ _ _ q)⟩
/-- the slots of a tuple's names -/
inductive PNs (X : Cx) : List Expr → List Nat → Prop
  | nil : PNs X [] []
  | cons {i : Nat} {x : Str} {pos : Pos} {es : List Expr} {is : List Nat} (h : PG X (.Name x pos) (L2.gName i)) (r : PNs X es is) : PNs X (.Name x pos :: es) (i :: is)
def gNames : List Nat → TGs
  | [] => gNil
  | i :: is => gCons (L2.gName i) (gNames is)
theorem PNs.pgs {X : Cx} : ∀ {es : List Expr} {is : List Nat}, PNs X es is → PGs X es (gNames is)
  | _, _, .nil => pgs_nil
  | _, _, .cons h r => pgs_cons h r.pgs
section
variable {X : Cx}
theorem g_name (i : Nat) {x : Str} {pos : Pos} {vs : List Nat} (hN : X.N.Nodup) (hi : X.N[i]? = some x) (hx : Loc X.env.scope x) (hv : i ∈ vs) (hf : X.fn x = true ∨ X.env.scope.names.lookup x = some .local := by first | exact .inl rfl | exact .inr rfl | assumption) : PG X (.Name x pos) (rdG vs (gN i)) :=
  pgI (pg_name hN hi hx hf) fun v σ H Q ⟨S0, ρ, F, d, E, hF, r, ρ', e, q⟩ => by
    cases e
    exact q _ (E.setF (hF i hv) r) (List.length_set ..) fun j hj => List.getElem?_set_ne (by intro z; exact hj (z ▸ hv))
theorem names_run {vs : List Nat} : ∀ (is : List Nat) (ds : List D) (xs : List V) (S0 : PA1) (ρ ρ' : Ev) (F : FP) (σ : St) (H : Hp) (Q : St → Hp → Prop), EE S0 ρ σ H F → (∀ i ∈ vs, F i = []) → (∀ i ∈ is, i ∈ vs) → RpL (inS S0 F []) H ds xs → gTs is ds ρ = some ρ' →
    (∀ σ', EE S0 ρ' σ' H F → σ'.length = σ.length → (∀ j, j ∉ vs → σ'[j]? = σ[j]?) → Q σ' H) → gNames is xs σ H Q
  | [], [], xs, S0, ρ, ρ', F, σ, H, Q, E, hF, hv, l, e, q => by
    cases e
    exact ⟨l, q σ E rfl fun _ _ => rfl⟩
  | [], _ :: _, _, _, _, _, _, _, _, _, _, _, _, _, e, _ => by cases e
  | _ :: _, [], _, _, _, _, _, _, _, _, _, _, _, _, e, _ => by cases e
  | i :: is, d :: ds, xs, S0, ρ, ρ', F, σ, H, Q, E, hF, hv, ⟨x, r, e, p, l⟩, eq, q => by
    refine ⟨x, r, e, ?_⟩
    refine names_run is ds r S0 (ρ.set i (some (d, 0))) ρ' F (σ.set i (some x)) H Q (E.setF (hF i (hv i List.mem_cons_self)) p) hF (fun j h => hv j (List.mem_cons_of_mem _ h)) l eq fun σ' E' hl ha => ?_
    exact q σ' E' (by rw [hl, List.length_set]) fun j hj => (ha j hj).trans (List.getElem?_set_ne (by intro z; exact hj (z ▸ hv i List.mem_cons_self)))
theorem gTs_len : ∀ {is : List Nat} {ds : List D} {ρ ρ' : Ev}, gTs is ds ρ = some ρ' → ds.length = is.length
  | [], [], _, _, _ => rfl
  | [], _ :: _, _, _, h => by cases h
  | _ :: _, [], _, _, h => by cases h
  | i :: is, d :: ds, ρ, ρ', h => by
    have := gTs_len (is := is) (ds := ds) h
    simp [this]
theorem g_tup {es : List Expr} {k : Nat} {is vs : List Nat} {pos : Pos} (hc : X.calm = true) (h : PNs X es is) (hv : ∀ i ∈ is, i ∈ vs)
    (hn : (assignEach es X.env).length = is.length := by rfl) (hst : (assignEach es X.env).findIdx? (·.1) = none := by rfl) : PG X (.Tuple es k pos) (rdG vs (gT is)) :=
  pgI (pg_tup hc h.pgs hn hst) fun v σ H Q ⟨S0, ρ, F, d, E, hF, r, ρ', e, q⟩ => by
    unfold gT at e
    split at e
    · rename_i ds
      obtain ⟨a, xs, rfl, _, ha, l⟩ := r
      exact ⟨a, xs, rfl, SqT.of ha, by rw [← l.length, gTs_len e], names_run is ds xs S0 ρ ρ' F σ H Q E hF hv l e q⟩
    · cases e
end

/-! ### what is walked -/
structure IR where
  ds : List D
  e : List Nat
  c : List Nat
abbrev FI := Ev → Res IR
def KeepS (S : PA1) (H H' : Hp) : Prop := ∀ b o, H b = some o → ¬ S b → H' b = some o
theorem KeepS.of {S : PA1} {H H' : Hp} (h : Same H H') : KeepS S H H' := fun b o q _ => h b o q
/-- the walk yields the data, as long as what is outside of Se and Sc stays -/
def JOk (Se Sc : PA1) (J : L2.It) (ds : List D) (H : Hp) : Prop := ∀ H', KeepS Se H H' → ∀ i,
  (ds.length ≤ i → J.stop i H') ∧ ∀ d, ds[i]? = some d → J.go i H' ∧ ∀ x H3, J.yld i H' x H3 → Same H' H3 ∧
    ∀ S' : PA1, (∀ b o, H b = some o → ¬ Sc b → H' b = some o ∧ ¬ S' b) → (∀ b, S' b → ∃ o, H' b = some o) → Rp S' H3 d x
def PostI (W : WK) (S0 : PA1) (F : FP) (σ : St) (H : Hp) (Rk : L2.It → Hp → Prop) : Res IR → Prop
  | .ok s => ∀ J H', Same H H' → JOk (inS S0 F s.e) (inS S0 F s.c) J s.ds H' → Rk J H'
  | .exn x => ∀ H', Same H H' → ∀ d, repF S0 x.fs d H' → W x.cls d σ H'
  | .bad => False
def rdI (W : WK) (f : FI) : TI := fun σ H Rk => ∃ S0 ρ F, EE S0 ρ σ H F ∧ PostI W S0 F σ H Rk (f ρ)
def seqI (r : R) : Res IR := match r.d with
  | .lst ds => .ok ⟨ds, r.e, r.c⟩
  | .tup ds => .ok ⟨ds, r.e, r.c⟩
  | _ => .bad
def fSeqI (f : FE) : FI := fun ρ => (f ρ).bind seqI
theorem PostI.grow {W : WK} {S0 : PA1} {F : FP} {σ : St} {H H1 : Hp} {Rk : L2.It → Hp → Prop} : ∀ {r : Res IR}, PostI W S0 F σ H Rk r → Same H H1 → PostI W S0 F σ H1 Rk r
  | .ok _, h, sm => fun J H' s1 j => h J H' (sm.trans s1) j
  | .exn _, h, sm => fun H' s1 => h H' (sm.trans s1)
  | .bad, h, _ => h
theorem postI_bind {W : WK} {S0 : PA1} {ρ : Ev} {F : FP} {σ : St} {H : Hp} {f : FE} {Rk : L2.It → Hp → Prop} {g : R → Res IR} {K : V → Hp → Prop} (E : EE S0 ρ σ H F) (h : PostI W S0 F σ H Rk ((f ρ).bind g))
    (k : ∀ r v H1 fp, f ρ = .ok r → Same H H1 → (∀ a ∈ fp, H a = none) → VR S0 F H1 r v fp → EE S0 ρ σ H1 F → PostI W S0 F σ H1 Rk (g r) → K v H1) : rdE W f σ H K := by
  refine ⟨S0, ρ, F, E, ?_⟩
  cases q : f ρ with
  | ok r =>
    rw [q] at h
    exact fun v H1 fp s n vr => k r v H1 fp q s n vr (E.grow s) (PostI.grow h s)
  | exn x => rw [q] at h; exact h
  | bad => rw [q] at h; exact h
theorem rp_at {Sc : PA1} {H H' : Hp} {ds : List D} {xs : List V} (l : RpL Sc H ds xs) (k : KeepS Sc H H') : RpL Sc H' ds xs := RpL.imp (fun b o q n => ⟨k b o q n, n⟩) _ _ l
theorem jok_list {K : PySem.W.Frag} {Se Sc : PA1} {H : Hp} {a : Addr} {xs : List V} {ds : List D} (n : ¬ Se a) (h : H a = some (.lst xs)) (l : RpL Sc H ds xs) : JOk Se Sc (Itl K a) ds H := fun H' k1 i => by
  have h' : SqL K H' a xs := SqL.of (k1 a _ h n)
  refine ⟨fun hi => ⟨xs, h', by rw [← l.length]; exact hi⟩, fun d hd => ?_⟩
  obtain ⟨x, hx, _⟩ := l.get hd
  refine ⟨⟨xs, x, h', hx⟩, fun y H3 hy => ?_⟩
  obtain ⟨e, hy⟩ := hy
  have := hy xs h'
  rw [hx] at this
  cases this
  rw [e]
  refine ⟨Same.refl _, fun S' k2 _ => ?_⟩
  obtain ⟨z, hz, rz⟩ := (RpL.imp k2 _ _ l).get hd
  rw [hx] at hz; cases hz
  exact rz
theorem jok_tup {K : PySem.W.Frag} {Se Sc : PA1} {H : Hp} {a : Addr} {xs : List V} {ds : List D} (n : ¬ Se a) (h : H a = some (.tup xs)) (l : RpL Sc H ds xs) : JOk Se Sc (Itt K a) ds H := fun H' k1 i => by
  have h' : SqT K H' a xs := SqT.of (k1 a _ h n)
  refine ⟨fun hi => ⟨xs, h', by rw [← l.length]; exact hi⟩, fun d hd => ?_⟩
  obtain ⟨x, hx, _⟩ := l.get hd
  refine ⟨⟨xs, x, h', hx⟩, fun y H3 hy => ?_⟩
  obtain ⟨e, hy⟩ := hy
  have := hy xs h'
  rw [hx] at this
  cases this
  rw [e]
  refine ⟨Same.refl _, fun S' k2 _ => ?_⟩
  obtain ⟨z, hz, rz⟩ := (RpL.imp k2 _ _ l).get hd
  rw [hx] at hz; cases hz
  exact rz
def rgD (lo : Int) (n : Nat) : List D := (List.range n).map fun i : Nat => .int (lo + (i : Int))
theorem jok_rng {Se Sc : PA1} {H : Hp} (lo : Int) (n : Nat) : JOk Se Sc (Itr lo n) (rgD lo n) H := fun H' k1 i => by
  refine ⟨fun hi => (show n ≤ i by unfold rgD at hi; simpa using hi), fun d hd => ?_⟩
  unfold rgD at hd
  rw [List.getElem?_map] at hd
  cases q : (List.range n)[i]? with
  | none => rw [q] at hd; cases hd
  | some j =>
    rw [q] at hd
    cases hd
    obtain ⟨h1, h2⟩ := List.getElem?_eq_some_iff.mp q
    have hn : i < n := by simpa using h1
    have hj : i = j := by simpa using h2
    subst hj
    exact ⟨hn, fun x H3 hy => ⟨by rw [hy.1]; exact Same.refl _, fun _ _ _ => hy.2⟩⟩
section
variable {X : Cx} {W : WK}
theorem i_seq {tg l : Expr} {f : FE} (h : PE X l (rdE W f)) : PI X tg l (rdI W (fSeqI f)) := by
  refine piI (piOr (pi_list h) (pi_tup h)) fun σ H Rk ⟨S0, ρ, F, E, p⟩ => ?_
  unfold fSeqI at p
  cases q : f ρ with
  | bad => rw [q] at p; exact p.elim
  | exn x => rw [q] at p; exact .inl ⟨S0, ρ, F, E, by rw [q]; exact p⟩
  | ok r =>
    have p0 := p
    rw [q] at p0
    have p0 : PostI W S0 F σ H Rk (seqI r) := p0
    cases hd : r.d with
    | lst ds =>
      refine .inl (postI_bind E p fun r' v H1 fp e s1 n1 v1 E1 p1 => ?_)
      rw [q] at e; cases e
      have z := v1.fz (E.nin n1 _)
      have rp := z.rp
      rw [hd] at rp
      obtain ⟨a, xs, rfl, na, ha, _⟩ := rp
      refine ⟨a, rfl, ⟨xs, SqL.of ha⟩, ?_⟩
      unfold seqI at p1
      rw [hd] at p1
      obtain ⟨a', xs', ea, ha', l⟩ := z.lst hd
      cases ea
      exact p1 _ H1 (Same.refl H1) (jok_list na ha' l)
    | tup ds =>
      refine .inr (postI_bind E p fun r' v H1 fp e s1 n1 v1 E1 p1 => ?_)
      rw [q] at e; cases e
      have z := v1.fz (E.nin n1 _)
      have rp := z.rp
      rw [hd] at rp
      obtain ⟨a, xs, rfl, na, ha, _⟩ := rp
      refine ⟨a, rfl, ⟨xs, SqT.of ha⟩, ?_⟩
      unfold seqI at p1
      rw [hd] at p1
      obtain ⟨a', xs', ea, ha', l⟩ := z.tup hd
      cases ea
      exact p1 _ H1 (Same.refl H1) (jok_tup na ha' l)
    | _ => unfold seqI at p0; rw [hd] at p0; exact p0.elim

/-! range -/
def rng1 (r : R) : Res IR := match r.d with
  | .int j => if -(2 ^ 62) ≤ j ∧ j < 2 ^ 62 then .ok ⟨rgD 0 j.toNat, [], []⟩ else .bad
  | _ => .bad
def rng2 (r q : R) : Res IR := match r.d, q.d with
  | .int i, .int j => if -(2 ^ 62) ≤ i ∧ i < 2 ^ 62 ∧ -(2 ^ 62) ≤ j ∧ j < 2 ^ 62 then .ok ⟨rgD i (j - i).toNat, [], []⟩ else .bad
  | _, _ => .bad
def on1I (g : R → Res IR) : List R → Res IR
  | [r] => g r
  | _ => .bad
def on2I (g : R → R → Res IR) : List R → Res IR
  | [r, q] => g r q
  | _ => .bad
def fRng1 (f : FA) : FI := fun ρ => (f ρ).bind (on1I rng1)
def fRng2 (f : FA) : FI := fun ρ => (f ρ).bind (on2I rng2)
theorem postI_args {S0 : PA1} {ρ : Ev} {F : FP} {σ : St} {H : Hp} {f : FA} {Rk : L2.It → Hp → Prop} {g : List R → Res IR} {K : List V → Hp → Prop} (E : EE S0 ρ σ H F) (h : PostI W S0 F σ H Rk ((f ρ).bind g))
    (k : ∀ rs vs H1 fp, Same H H1 → (∀ a ∈ fp, H a = none) → VRL S0 F fp H1 rs vs fp → EE S0 ρ σ H1 F → PostI W S0 F σ H1 Rk (g rs) → K vs H1) : rdA W f σ H K := by
  refine ⟨S0, ρ, F, E, ?_⟩
  cases q : f ρ with
  | ok r =>
    rw [q] at h
    exact fun v H1 fp s n vr => k r v H1 fp s n vr (E.grow s) (PostI.grow h s)
  | exn x => rw [q] at h; exact h
  | bad => rw [q] at h; exact h
theorem i_rng1 {tg a : Expr} {fa : FA} {p pos : Pos} (hg : Gl X "range") (hm : X.mg "range" = none) (ha : PA X [a] (rdA W fa)) (hs : starEach [a] X.env = [(false, eval a X.env)] := by rfl) : PI X tg (.Call (.Name "range" p) [a] [] pos) (rdI W (fRng1 fa)) := by
  refine piI (pi_range1 hg hm ha hs) fun σ H Rk ⟨S0, ρ, F, E, p⟩ => postI_args E p fun rs vs H1 fp s1 n1 l1 E1 p1 => ?_
  have fz := l1.fz fun e => E.nin n1 e
  match rs, fz with
  | [r], ⟨v, t, e, z, et⟩ =>
    rw [show t = [] from et] at e
    subst e
    have p1 : PostI W S0 F σ H1 Rk (rng1 r) := p1
    unfold rng1 at p1
    split at p1
    · rename_i j e
      split at p1
      · rename_i hb
        exact ⟨j, by rw [z.int e], hb.1, hb.2, p1 _ H1 (Same.refl H1) (jok_rng 0 _)⟩
      · exact p1.elim
    · exact p1.elim
  | [], _ => exact p1.elim
  | _ :: _ :: _, _ => exact p1.elim
theorem i_rng2 {tg a b : Expr} {fa : FA} {p pos : Pos} (hg : Gl X "range") (hm : X.mg "range" = none) (ha : PA X [a, b] (rdA W fa)) (hs : starEach [a, b] X.env = [(false, eval a X.env), (false, eval b X.env)] := by rfl)
    (hs2 : starEach [b] X.env = [(false, eval b X.env)] := by rfl) : PI X tg (.Call (.Name "range" p) [a, b] [] pos) (rdI W (fRng2 fa)) := by
  refine piI (pi_range2 hg hm ha hs hs2) fun σ H Rk ⟨S0, ρ, F, E, p⟩ => postI_args E p fun rs vs H1 fp s1 n1 l1 E1 p1 => ?_
  have fz := l1.fz fun e => E.nin n1 e
  match rs, fz with
  | [r, q], ⟨v, t, e, z, v2, t2, e2, z2, et⟩ =>
    rw [show t2 = [] from et] at e2
    subst e2
    subst e
    have p1 : PostI W S0 F σ H1 Rk (rng2 r q) := p1
    unfold rng2 at p1
    split at p1
    · rename_i i j e1 e2
      split at p1
      · rename_i hb
        exact ⟨i, j, by rw [z.int e1, z2.int e2], hb, p1 _ H1 (Same.refl H1) (jok_rng i _)⟩
      · exact p1.elim
    · exact p1.elim
  | [], _ => exact p1.elim
  | [_], _ => exact p1.elim
  | _ :: _ :: _ :: _, _ => exact p1.elim
end
end PyL

namespace PyL
open PySem PySem.Spec L2
set_option autoImplicit false

/-! ### list comprehensions -/
def noX {α : Type} : Res α → Res α
  | .exn _ => .bad
  | r => r
def compL (tg : FG) (tt : FT) (te : FE) (ρ : Ev) : List D → Res (List R)
  | [] => .ok []
  | d :: ds => match tg d ρ with
    | none => .bad
    | some ρ2 => (noX (tt ρ2)).bind fun b => if b then (noX (te ρ2)).bind fun r => (compL tg tt te ρ ds).bind fun rs => .ok (r :: rs) else compL tg tt te ρ ds
def wipeE (ρ : Ev) : List Nat → Ev
  | [] => ρ
  | v :: vs => (wipeE ρ vs).set v none
/-- the new list of a comprehension: c, the slots that its source's items may hold -/
def hDep (dep : Nat) (rs : List R) : Nat := if rs.all (fun r => scal r.d || r.k == dep) then dep else 0
theorem hDep_sc {dep : Nat} {rs : List R} : ∀ r ∈ rs, scal r.d = true ∨ r.k = hDep dep rs ∨ hDep dep rs = 0 := fun r h => by
  unfold hDep
  by_cases q : (rs.all fun r => scal r.d || r.k == dep) = true
  · rw [if_pos q]
    have := List.all_eq_true.mp q r h
    simp only [Bool.or_eq_true, beq_iff_eq] at this
    exact this.elim .inl fun z => .inr (.inl z)
  · rw [if_neg q]; exact .inr (.inr rfl)
def dispC (dep : Nat) (c : List Nat) (rs : List R) : Res R := if rs.length ≤ sizeLine then
    let d := D.lst (rs.map (·.d))
    let k := hDep dep rs + 1
    if af k d then .ok ⟨d, k, [], []⟩ else .ok ⟨d, k, c ++ esL rs, c ++ esL rs⟩
  else .bad
def fComp (dep : Nat) (it : FI) (tg : FG) (tt : FT) (te : FE) (vs : List Nat) : FE := fun ρ => (it ρ).bind fun s => (compL tg tt te (wipeE (frzL s.c ρ) vs) s.ds).bind (dispC dep s.c)

theorem wipeE_len (ρ : Ev) : ∀ vs : List Nat, (wipeE ρ vs).length = ρ.length
  | [] => rfl
  | v :: vs => by unfold wipeE; rw [List.length_set, wipeE_len ρ vs]
theorem wipeE_some {ρ : Ev} {i : Nat} {x : D × Nat} : ∀ {vs : List Nat}, (wipeE ρ vs)[i]? = some (some x) → ρ[i]? = some (some x) ∧ i ∉ vs
  | [], h => ⟨h, by simp⟩
  | v :: vs, h => by
    unfold wipeE at h
    by_cases hv : i = v
    · subst hv
      have hl := (List.getElem?_eq_some_iff.mp h).1
      rw [List.length_set] at hl
      rw [List.getElem?_set_self hl] at h
      cases h
    · rw [List.getElem?_set_ne (Ne.symm hv)] at h
      obtain ⟨h1, h2⟩ := wipeE_some h
      exact ⟨h1, by simp [hv, h2]⟩
theorem wipe_at {σ : St} {i : Nat} : ∀ {vs : List Nat}, (wipe σ vs)[i]? = if i ∈ vs then (if i < σ.length then some none else none) else σ[i]?
  | [] => by simp [wipe]
  | v :: vs => by
    unfold wipe
    by_cases hv : i = v
    · subst hv
      rw [if_pos (by simp)]
      by_cases hl : i < σ.length
      · rw [List.getElem?_set_self (by rw [wipe_length]; exact hl), if_pos hl]
      · rw [if_neg hl, List.getElem?_eq_none (by rw [List.length_set, wipe_length]; omega)]
    · rw [List.getElem?_set_ne (Ne.symm hv), wipe_at]
      simp [hv]
theorem wipe_same {σ σ' : St} {vs : List Nat} (hl : σ'.length = σ.length) (h : ∀ j, j ∉ vs → σ'[j]? = σ[j]?) : wipe σ' vs = wipe σ vs := by
  apply List.ext_getElem?
  intro i
  rw [wipe_at, wipe_at, hl]
  split
  · rfl
  · exact h i (by assumption)
theorem wipe_wipe {σ : St} {vs : List Nat} : wipe (wipe σ vs) vs = wipe σ vs := by
  refine wipe_same (wipe_length σ vs) fun j hj => ?_
  rw [wipe_at, if_neg hj]
theorem EE.wipe {S0 : PA1} {ρ : Ev} {σ : St} {H : Hp} {F : FP} (E : EE S0 ρ σ H F) (vs : List Nat) : EE (fun a => S0 a ∨ ∃ i ∈ vs, a ∈ F i) (wipeE ρ vs) (L2.wipe σ vs) H (cutF vs F) where
  len := by rw [wipeE_len, wipe_length]; exact E.len
  rep := fun i d k h => by
    obtain ⟨h1, h2⟩ := wipeE_some h
    obtain ⟨v, e, o⟩ := E.rep i d k h1
    refine ⟨v, by rw [wipe_at, if_neg h2]; exact e, ?_⟩
    rw [show cutF vs F i = F i by simp [cutF, h2]]
    refine Ow.imp (fun b o q n => ⟨q, fun z => n ?_⟩) k d v _ (fun _ _ _ q => q) o
    rcases z with (z | ⟨j, hj, z⟩) | ⟨j, _, z⟩
    · exact .inl z
    · exact .inr ⟨j, by simp, z⟩
    · exact .inr ⟨j, by simp, (cutF_mem.mp z).2⟩
  disj := fun a b c h1 h2 => E.disj a b c (cutF_mem.mp h1).2 (cutF_mem.mp h2).2
  trk := fun j a h => E.trk j a (cutF_mem.mp h).2
  out := fun a h => h.elim (E.out a) fun ⟨i, _, z⟩ => E.trk i a z
  apart := fun j a h z => by
    obtain ⟨h1, h2⟩ := cutF_mem.mp h
    rcases z with z | ⟨i, hi, z⟩
    · exact E.apart j a h2 z
    · exact h1 (E.disj _ _ _ z h2 ▸ hi)
theorem inS_wipe {S0 : PA1} {F : FP} {vs e : List Nat} {a : Addr} (h : inS S0 F e a) : inS (fun a => S0 a ∨ ∃ i ∈ vs, a ∈ F i) (cutF vs F) e a := by
  rcases h with h | ⟨i, h1, h2⟩
  · exact .inl (.inl h)
  · by_cases hi : i ∈ vs
    · exact .inl (.inr ⟨i, hi, h2⟩)
    · exact .inr ⟨i, h1, cutF_mem.mpr ⟨hi, h2⟩⟩
theorem inS_wipe0 {S0 : PA1} {F : FP} {vs : List Nat} {a : Addr} (h : inS (fun a => S0 a ∨ ∃ i ∈ vs, a ∈ F i) (cutF vs F) [] a) : inS S0 F [] a := by
  rcases h with (h | ⟨i, _, h2⟩) | ⟨i, h1, h2⟩
  · exact .inl h
  · exact .inr ⟨i, by simp, h2⟩
  · exact .inr ⟨i, by simp, (cutF_mem.mp h2).2⟩

/-- owned, in a row -/
def VRO (S0 : PA1) (F : FP) (T : List Addr) (H : Hp) : List R → List V → List Addr → Prop
  | [], vs, fp => vs = [] ∧ fp = []
  | r :: rs, vs, fp => ∃ v t f1 f2, vs = v :: t ∧ Ow (fun a => inS S0 F r.e a ∨ a ∈ T) H r.k r.d v f1 ∧ VRO S0 F T H rs t f2 ∧ fp = f1 ++ f2 ∧ ∀ a, a ∈ f1 → a ∉ f2
theorem VRO.there {S0 : PA1} {F : FP} {T : List Addr} {H : Hp} : ∀ {rs : List R} {vs : List V} {fp : List Addr}, VRO S0 F T H rs vs fp → ∀ a ∈ fp, TrM H a
  | [], _, _, ⟨_, e⟩, a, ha => by rw [e] at ha; cases ha
  | r :: rs, _, _, ⟨v, t, f1, f2, e, o, l, ef, dj⟩, a, ha => by
    rw [ef] at ha
    rcases List.mem_append.mp ha with ha | ha
    · exact Ow.there _ _ _ _ o a ha
    · exact l.there a ha
theorem VRO.length {S0 : PA1} {F : FP} {T : List Addr} {H : Hp} : ∀ {rs : List R} {vs : List V} {fp : List Addr}, VRO S0 F T H rs vs fp → vs.length = rs.length
  | [], _, _, ⟨e, _⟩ => by rw [e]; rfl
  | r :: rs, _, _, ⟨v, t, f1, f2, e, o, l, ef, dj⟩ => by rw [e, List.length_cons, List.length_cons, l.length]
theorem VRO.imp {S0 S1 : PA1} {F F1 : FP} {T T' : List Addr} {H H' : Hp} (h : ∀ e b o, H b = some o → ¬ (inS S0 F e b ∨ b ∈ T) → H' b = some o ∧ ¬ (inS S1 F1 e b ∨ b ∈ T')) : ∀ {rs : List R} {vs : List V} {fp : List Addr}, VRO S0 F T H rs vs fp → (∀ b o, b ∈ fp → H b = some o → H' b = some o) → VRO S1 F1 T' H' rs vs fp
  | [], _, _, x, _ => x
  | r :: rs, _, _, ⟨v, t, f1, f2, e, o, l, ef, dj⟩, g => ⟨v, t, f1, f2, e, Ow.imp (h _) _ _ _ _ (fun b o hb => g b o (by rw [ef]; exact List.mem_append_left _ hb)) o, l.imp h fun b o hb => g b o (by rw [ef]; exact List.mem_append_right _ hb), ef, dj⟩
theorem VRO.snoc {S0 : PA1} {F : FP} {T : List Addr} {H : Hp} {r : R} {v : V} {f : List Addr} (o : Ow (fun a => inS S0 F r.e a ∨ a ∈ T) H r.k r.d v f) : ∀ {rs : List R} {vs : List V} {fp : List Addr}, VRO S0 F T H rs vs fp → (∀ a ∈ fp, a ∉ f) → VRO S0 F T H (rs ++ [r]) (vs ++ [v]) (fp ++ f)
  | [], _, _, ⟨e1, e2⟩, _ => ⟨v, [], f, [], by rw [e1]; rfl, o, ⟨rfl, rfl⟩, by rw [e2]; simp, by simp⟩
  | q :: rs, _, _, ⟨w, t, f1, f2, e, ow, l, ef, dj⟩, n => ⟨w, t ++ [v], f1, f2 ++ f, by rw [e]; rfl, ow, l.snoc o (fun a ha => n a (by rw [ef]; exact List.mem_append_right _ ha)), by rw [ef, List.append_assoc], fun a h1 h2 => by
      rcases List.mem_append.mp h2 with h2 | h2
      · exact dj a h1 h2
      · exact n a (by rw [ef]; exact List.mem_append_left _ h1) h2⟩
theorem VRO.all {S0 : PA1} {F : FP} {T : List Addr} {H : Hp} {m : Nat} {E : List Nat} : ∀ {rs : List R} {vs : List V} {fp : List Addr}, VRO S0 F T H rs vs fp → (∀ r ∈ rs, scal r.d = true ∨ r.k = m) → (∀ r ∈ rs, ∀ i ∈ r.e, i ∈ E) → AllF (Ow (fun a => inS S0 F E a ∨ a ∈ T) H m) (rs.map (·.d)) vs fp
  | [], _, _, x, _, _ => x
  | r :: rs, _, _, ⟨v, t, f1, f2, e, o, l, ef, dj⟩, hm, he => by
    refine ⟨v, t, f1, f2, e, ?_, VRO.all l (fun r h => hm r (List.mem_cons_of_mem _ h)) (fun r h => he r (List.mem_cons_of_mem _ h)), ef, dj⟩
    have o' : Ow (fun a => inS S0 F E a ∨ a ∈ T) H r.k r.d v f1 := Ow.imp (fun b o q n => ⟨q, fun z => n (z.elim (fun z => .inl (inS_mono (he r List.mem_cons_self) z)) .inr)⟩) _ _ _ _ (fun _ _ _ q => q) o
    rcases hm r List.mem_cons_self with z | z
    · obtain ⟨o2, e2⟩ := scal_ow (S' := fun a => inS S0 F E a ∨ a ∈ T) (H' := H) z o' m
      rw [e2]; exact o2
    · rw [← z]; exact o'
theorem VRO.rp {S0 : PA1} {F : FP} {T : List Addr} {H : Hp} {E : List Nat} {S' : PA1} (hs : ∀ a, S' a → inS S0 F E a ∨ a ∈ T) : ∀ {rs : List R} {vs : List V} {fp : List Addr}, VRO S0 F T H rs vs fp → (∀ a ∈ fp, ¬ S' a) → (∀ r ∈ rs, ∀ i ∈ r.e, i ∈ E) → RpL S' H (rs.map (·.d)) vs
  | [], _, _, ⟨e, _⟩, _, _ => e
  | r :: rs, _, _, ⟨v, t, f1, f2, e, o, l, ef, dj⟩, n, he => ⟨v, t, e, Ow.frz (fun a _ _ z => (hs a z).elim (fun z => .inl (inS_mono (he r List.mem_cons_self) z)) .inr) _ _ _ _ (fun a ha => n a (by rw [ef]; exact List.mem_append_left _ ha)) o, l.rp hs (fun a ha => n a (by rw [ef]; exact List.mem_append_right _ ha)) fun r h => he r (List.mem_cons_of_mem _ h)⟩
theorem noX_ok {α : Type} {r : Res α} {a : α} (h : noX r = .ok a) : r = .ok a := by
  cases r with
  | ok b => exact h
  | exn x => cases h
  | bad => cases h

/-- the loop of a comprehension -/
theorem comp_loop {S0 : PA1} {ρ : Ev} {F : FP} {σ : St} {H1 : Hp} {c e : List Nat} {J : L2.It} {ds : List D} {tg : FG} {tt : FT} {te : FE} {vs : List Nat} {rs : List R} {Qd : Addr → Hp → Prop} (E : EE S0 ρ σ H1 F) (j : JOk (inS S0 F e) (inS S0 F c) J ds H1)
    (hc : compL tg tt te (wipeE (frzL c ρ) vs) ds = .ok rs) (hz : rs.length ≤ sizeLine) (hq : ∀ Dp H acc fp, Same H1 H → H1 Dp = none → (∀ a ∈ fp, H1 a = none) → H Dp = some (.lst acc) → Dp ∉ fp → VRO S0 (cutF c F) (Dp :: fp) H rs acc fp → Qd Dp H) (Dp : Addr) (nD : H1 Dp = none) :
    ∃ W : Nat → Nat → Hp → Prop, (∃ m, W 0 m (upd H1 Dp (.lst []))) ∧ ∀ i m H, W i m H →
      (J.stop i H ∧ Qd Dp H) ∨ (J.go i H ∧ ∃ Nx : Hp → Prop, (∀ H', Nx H' → ∃ m', m' < m ∧ W (i + 1) m' H') ∧ ∀ x H', J.yld i H x H' → rdG vs tg x (L2.wipe σ vs) H' fun σ2 H2 => L2.wipe σ2 vs = L2.wipe σ vs ∧ rdT W0 tt σ2 H2 fun b H3 =>
        if b = true then rdE W0 te σ2 H3 fun y H4 => ∃ acc, H4 Dp = some (.lst acc) ∧ acc.length < sizeLine ∧ Nx (upd H4 Dp (.lst (acc ++ [y]))) else Nx H3) := by
  have E1 : EE S0 (frzL c ρ) σ H1 (cutF c F) := E.frzL c
  refine ⟨fun i m H => m = ds.length - i ∧ i ≤ ds.length ∧ Same H1 H ∧ ∃ done left acc fp, rs = done ++ left ∧ compL tg tt te (wipeE (frzL c ρ) vs) (ds.drop i) = .ok left ∧ H Dp = some (.lst acc) ∧ Dp ∉ fp ∧ (∀ a ∈ fp, H1 a = none) ∧ VRO S0 (cutF c F) (Dp :: fp) H done acc fp,
    ⟨ds.length, by simp, Nat.zero_le _, same_upd nD, [], rs, [], [], rfl, hc, upd_same, by simp, by simp, ⟨rfl, rfl⟩⟩, ?_⟩
  rintro i m H ⟨rfl, hi, sm, done, left, acc, fp, ers, hl, hD, nDf, nfp, vl⟩
  obtain ⟨j1, j2⟩ := j H (KeepS.of sm) i
  by_cases hlt : i < ds.length
  · refine .inr ⟨(j2 _ (List.getElem?_eq_getElem hlt)).1, fun H' => Same H1 H' ∧ ∃ done left acc fp, rs = done ++ left ∧ compL tg tt te (wipeE (frzL c ρ) vs) (ds.drop (i + 1)) = .ok left ∧ H' Dp = some (.lst acc) ∧ Dp ∉ fp ∧ (∀ a ∈ fp, H1 a = none) ∧ VRO S0 (cutF c F) (Dp :: fp) H' done acc fp,
      fun H' h => ⟨ds.length - (i + 1), by omega, rfl, hlt, h⟩, fun x H' y => ?_⟩
    obtain ⟨s2, rx⟩ := (j2 _ (List.getElem?_eq_getElem hlt)).2 x H' y
    rw [List.drop_eq_getElem_cons hlt] at hl
    unfold compL at hl
    have sm2 : Same H1 H' := sm.trans s2
    have hD2 : H' Dp = some (.lst acc) := s2 _ _ hD
    have vl2 : VRO S0 (cutF c F) (Dp :: fp) H' done acc fp := vl.imp (fun _ _ _ q n => ⟨s2 _ _ q, n⟩) fun _ _ _ q => s2 _ _ q
    -- the environment of this turn: the new list and what it owns are forbidden
    have E2 : EE (fun a => S0 a ∨ a ∈ Dp :: fp) (frzL c ρ) σ H' (cutF c F) := E1.ext sm2 (fun a h => h.elim .inl fun h => .inr ((List.mem_cons.mp h).elim (fun z => z ▸ nD) (nfp a))) fun a h => h.elim (fun h => (E1.out a h).grow sm2) fun h => (List.mem_cons.mp h).elim (fun z => z ▸ ⟨_, hD2, trivial⟩) (vl2.there a)
    have E3 := E2.wipe vs
    -- the item stays outside of what is forbidden
    have rx3 : Rp (inS (fun a => (S0 a ∨ a ∈ Dp :: fp) ∨ ∃ i ∈ vs, a ∈ cutF c F i) (cutF vs (cutF c F)) []) H' ds[i] x := by
      refine rx _ (fun b o q n => ⟨sm _ _ q, fun z => ?_⟩) fun b z => ?_
      · rcases z with ((z | z) | ⟨k, _, z⟩) | ⟨k, _, z⟩
        · exact n (.inl z)
        · rcases List.mem_cons.mp z with z | z
          · exact ne_of_none q nD z
          · exact ne_of_none q (nfp b z) rfl
        · obtain ⟨z1, z2⟩ := cutF_mem.mp z
          exact n (.inr ⟨k, z1, z2⟩)
        · obtain ⟨z1, z2⟩ := cutF_mem.mp (cutF_mem.mp z).2
          exact n (.inr ⟨k, z1, z2⟩)
      · have E2H : EE (fun a => S0 a ∨ a ∈ Dp :: fp) (frzL c ρ) σ H (cutF c F) := E1.ext sm (fun a h => h.elim .inl fun h => .inr ((List.mem_cons.mp h).elim (fun z => z ▸ nD) (nfp a))) fun a h => h.elim (fun h => (E1.out a h).grow sm) fun h => (List.mem_cons.mp h).elim (fun z => z ▸ ⟨_, hD, trivial⟩) (vl.there a)
        obtain ⟨o, ho, _⟩ := (E2H.wipe vs).inTr z
        exact ⟨o, ho⟩
    cases ht : tg ds[i] (wipeE (frzL c ρ) vs) with
    | none => rw [ht] at hl; cases hl
    | some ρ2 =>
      rw [ht] at hl
      simp only at hl
      refine ⟨_, _, _, ds[i], E3, fun k hk => by simp [cutF, hk], rx3, ρ2, ht, fun σ2 E4 hl2 ha2 => ⟨(wipe_same hl2 ha2).trans wipe_wipe, ?_⟩⟩
      refine ⟨_, ρ2, _, E4, ?_⟩
      cases hb : tt ρ2 with
      | bad => rw [hb] at hl; cases hl
      | exn _ => rw [hb] at hl; cases hl
      | ok b =>
        intro H3 s3
        rw [hb] at hl
        have hl : (if b = true then (noX (te ρ2)).bind fun r => (compL tg tt te (wipeE (frzL c ρ) vs) (ds.drop (i + 1))).bind fun rs => .ok (r :: rs) else compL tg tt te (wipeE (frzL c ρ) vs) (ds.drop (i + 1))) = .ok left := hl
        cases b with
        | false =>
          rw [if_neg Bool.false_ne_true] at hl ⊢
          exact ⟨sm2.trans s3, done, left, acc, fp, ers, hl, s3 _ _ hD2, nDf, nfp, vl2.imp (fun _ _ _ q n => ⟨s3 _ _ q, n⟩) fun _ _ _ q => s3 _ _ q⟩
        | true =>
          rw [if_pos rfl] at hl ⊢
          have E5 := E4.grow s3
          refine ⟨_, ρ2, _, E5, ?_⟩
          cases he : te ρ2 with
          | bad => rw [he] at hl; cases hl
          | exn _ => rw [he] at hl; cases hl
          | ok r =>
            intro y H4 f s4 nf vy
            rw [he] at hl
            have hl : (compL tg tt te (wipeE (frzL c ρ) vs) (ds.drop (i + 1))).bind (fun rs => .ok (r :: rs)) = .ok left := hl
            cases hr : compL tg tt te (wipeE (frzL c ρ) vs) (ds.drop (i + 1)) with
            | bad => rw [hr] at hl; cases hl
            | exn _ => rw [hr] at hl; cases hl
            | ok left' =>
              rw [hr] at hl
              cases hl
              have sm4 : Same H' H4 := s3.trans s4
              have hD4 : H4 Dp = some (.lst acc) := sm4 _ _ hD2
              have nf1 : ∀ a ∈ f, H1 a = none := fun a ha => sm2.free (s3.free (nf a ha))
              have nDf' : Dp ∉ f := fun z => by have := nf Dp z; rw [s3 _ _ hD2] at this; cases this
              have fpf : ∀ a ∈ fp, a ∉ f := fun a ha z => by
                obtain ⟨o, ho, _⟩ := vl2.there a ha
                have := nf a z
                rw [s3 _ _ ho] at this; cases this
              have lenA : acc.length = done.length := vl2.length
              refine ⟨acc, hD4, ?_, ?_⟩
              · rw [lenA]
                rw [ers] at hz
                simp at hz
                omega
              · -- the new item at the end
                have su : ∀ b o, b ≠ Dp → H4 b = some o → upd H4 Dp (.lst (acc ++ [y])) b = some o := fun b o hb q => by rw [upd_ne hb]; exact q
                refine ⟨fun b o q => su b o (ne_of_none q nD) (sm4 _ _ (sm2 _ _ q)), done ++ [r], left', acc ++ [y], fp ++ f, by rw [ers]; simp, rfl, upd_same, by simp [nDf, nDf'], fun a ha => (List.mem_append.mp ha).elim (nfp a) (nf1 a), ?_⟩
                have neD : ∀ a ∈ fp, a ≠ Dp := fun a ha z => nDf (z ▸ ha)
                refine VRO.snoc ?_ (vl2.imp (fun e b o q n => ⟨su b o (fun z => n (.inr (by rw [z]; exact List.mem_cons_self))) (sm4 _ _ q), fun z => n ?_⟩) fun b o hb q => su b o (neD b hb) (sm4 _ _ q)) fpf
                · refine Ow.imp (fun b o q n => ⟨su b o (fun z => n (.inl (.inl (.inl (.inr (by rw [z]; exact List.mem_cons_self)))))) q, fun z => n ?_⟩) _ _ _ _ (fun b o hb q => su b o (fun z => nDf' (z ▸ hb)) q) vy.ow
                  rcases z with z | z
                  · exact .inl (inS_wipe (z.elim (fun z => .inl (.inl z)) .inr))
                  · rcases List.mem_cons.mp z with z | z
                    · exact .inl (.inl (.inl (.inr (by rw [z]; exact List.mem_cons_self))))
                    · rcases List.mem_append.mp z with z | z
                      · exact .inl (.inl (.inl (.inr (List.mem_cons_of_mem _ z))))
                      · exact .inr z
                · rcases z with z | z
                  · exact .inl z
                  · rcases List.mem_cons.mp z with z | z
                    · exact .inr (by rw [z]; exact List.mem_cons_self)
                    · rcases List.mem_append.mp z with z | z
                      · exact .inr (List.mem_cons_of_mem _ z)
                      · have := nf b z
                        rw [s3 _ _ q] at this; cases this
  · have e : i = ds.length := by omega
    subst e
    rw [List.drop_length] at hl
    cases hl
    rw [List.append_nil] at ers
    subst ers
    exact .inl ⟨j1 (Nat.le_refl _), hq Dp H acc fp sm nD nfp hD nDf vl⟩
/-- what an owned value is, with its items -/
theorem VR.of {S0 : PA1} {F : FP} {H : Hp} {d : D} {k : Nat} {e : List Nat} {v : V} {fp : List Addr} (o : Ow (fun a => inS S0 F e a ∨ a ∈ fp) H k d v fp) (n : ∀ a ∈ fp, ¬ inS S0 F e a) : VR S0 F H ⟨d, k, e, e⟩ v fp :=
  ⟨o, items_of o (fun a _ _ z => .inl z) (.inr n)⟩
theorem rd_lc {dep : Nat} {W : WK} {it : FI} {tg : FG} {tt : FT} {te : FE} {vs : List Nat} {σ : St} {H : Hp} {Q : VK} (h : rdE W (fComp dep it tg tt te vs) σ H Q) : tLc (rdI W it) (rdG vs tg) (rdT W0 tt) (rdE W0 te) vs σ H Q := by
  obtain ⟨S0, ρ, F, E, p⟩ := h
  refine ⟨S0, ρ, F, E, ?_⟩
  unfold fComp at p
  cases q : it ρ with
  | bad => rw [q] at p; exact p.elim
  | exn x => rw [q] at p; exact p
  | ok s =>
    rw [q] at p
    intro J H1 sm j Dp nD
    have p : Post W S0 F σ H Q ((compL tg tt te (wipeE (frzL s.c ρ) vs) s.ds).bind (dispC dep s.c)) := p
    have nx : ∀ (ds : List D) (ρ : Ev) x, compL tg tt te ρ ds ≠ .exn x := by
      intro ds
      induction ds with
      | nil => intro ρ x h; cases h
      | cons d ds ih =>
        intro ρ x h
        unfold compL at h
        cases ht : tg d ρ with
        | none => rw [ht] at h; cases h
        | some ρ2 =>
          rw [ht] at h
          simp only at h
          cases hb : tt ρ2 with
          | bad => rw [hb] at h; cases h
          | exn _ => rw [hb] at h; cases h
          | ok b =>
            rw [hb] at h
            have h : (if b = true then (noX (te ρ2)).bind fun r => (compL tg tt te ρ ds).bind fun rs => .ok (r :: rs) else compL tg tt te ρ ds) = .exn x := h
            cases b with
            | false => rw [if_neg Bool.false_ne_true] at h; exact ih ρ x h
            | true =>
              rw [if_pos rfl] at h
              cases he : te ρ2 with
              | bad => rw [he] at h; cases h
              | exn _ => rw [he] at h; cases h
              | ok r =>
                rw [he] at h
                have h : (compL tg tt te ρ ds).bind (fun rs => .ok (r :: rs)) = .exn x := h
                cases hr : compL tg tt te ρ ds with
                | bad => rw [hr] at h; cases h
                | exn y => exact ih ρ y hr
                | ok rs => rw [hr] at h; cases h
    cases hc : compL tg tt te (wipeE (frzL s.c ρ) vs) s.ds with
    | bad => rw [hc] at p; exact p.elim
    | exn x => exact (nx _ _ _ hc).elim
    | ok rs =>
      rw [hc] at p
      have p : Post W S0 F σ H Q (dispC dep s.c rs) := p
      unfold dispC at p
      split at p
      · rename_i hz
        refine comp_loop (Qd := fun Dp H => Q (.ref Dp) H) (E.grow sm) j hc hz (fun Dp H2 acc fp s2 nD nfp hD nDf vl => ?_) Dp nD
        have s12 := sm.trans s2
        have n0 : ∀ a ∈ fp, H a = none := fun a ha => sm.free (nfp a ha)
        have nD0 : H Dp = none := sm.free nD
        have cv : ∀ {e : List Nat} {a : Addr}, inS S0 F (s.c ++ e) a → inS S0 (cutF s.c F) e a := fun h => inS_cut.mpr h
        have hE : ∀ r ∈ rs, ∀ i ∈ r.e, i ∈ esL rs := fun r h => esL_mem h
        have nfpE : ∀ e, ∀ a ∈ Dp :: fp, ¬ inS S0 F e a := fun e a ha z => E.fresh z ((List.mem_cons.mp ha).elim (fun q => q ▸ nD0) (n0 a))
        -- owned so deep
        have key : ∃ fq, (∀ a ∈ fq, H a = none) ∧ Ow (fun a => inS S0 F (s.c ++ esL rs) a ∨ a ∈ fq) H2 (hDep dep rs + 1) (.lst (rs.map (·.d))) (.ref Dp) fq := by
          by_cases hd : hDep dep rs = 0
          · refine ⟨[Dp], fun a ha => by rw [List.mem_singleton.mp ha]; exact nD0, ?_⟩
            rw [hd]
            exact ⟨Dp, acc, [], rfl, hD, all_zero (vl.rp (E := esL rs) (fun a z => z.elim (fun z => .inl (cv z)) fun z => .inr (by rw [List.mem_singleton.mp z]; exact List.mem_cons_self)) (fun a ha z => z.elim (nfpE _ a (List.mem_cons_of_mem _ ha)) fun z => nDf ((List.mem_singleton.mp z) ▸ ha)) hE), rfl, by simp⟩
          · refine ⟨Dp :: fp, fun a ha => (List.mem_cons.mp ha).elim (fun q => q ▸ nD0) (n0 a), Dp, acc, fp, rfl, hD, ?_, rfl, nDf⟩
            have al := vl.all (m := hDep dep rs) (E := esL rs) (fun r h => (hDep_sc r h).elim .inl fun z => z.elim .inr fun z => absurd z hd) hE
            exact al.mono (fun b o q n => ⟨q, fun z => n (z.elim (fun z => .inl (cv z)) .inr)⟩) (Same.refl _)
        obtain ⟨fq, nq, o⟩ := key
        have nqE : ∀ e, ∀ a ∈ fq, ¬ inS S0 F e a := fun e a ha z => E.fresh z (nq a ha)
        simp only at p
        split at p
        · rename_i ha
          have E2 := E.grow s12
          have tr := Ow.there _ _ _ _ o
          exact p _ H2 fq s12 nq (VR.of (Ow.af (fun a z => z.elim (fun z => E2.inTr z) (tr a)) _ _ _ _ ha o) (nqE _))
        · exact p _ H2 fq s12 nq (VR.of o (nqE _))
      · exact p.elim

theorem ptsI {X : Cx} {e : List Expr} {t t' : TT} (h : PTs X e t) (i : ∀ σ H Q, t' σ H Q → t σ H Q) : PTs X e t' := ⟨fun pins s σ H Q I q => h.run pins s σ H Q I (i σ H Q q)⟩
def fYes : FT := fun _ => .ok true
section
variable {X : Cx} {W : WK}
theorem ts_nil : PTs X [] (rdT W fYes) := ptsI pts_nil fun σ H Q ⟨S0, ρ, F, E, p⟩ => p H (Same.refl H)
theorem ts_one {c : Expr} {t : FT} (h : PT X c (rdT W t)) : PTs X [c] (rdT W t) := pts_one h
theorem e_comp {dep : Nat} {elt tg iter : Expr} {ifs : List Expr} {scope : Scope} {own : List (Str × Nat)} {pos : Pos} {it : FI} {g : FG} {tt : FT} {te : FE} (hc : X.calm = true) (hN : X.N.Nodup) (hi : PI X tg iter (rdI W it)) (ok : BlkOk X.N X.env.scope scope own)
    (hg : ∀ (s : Shared) (H : Hp) (C : Addr) (cl : List (Str × Addr)) (fp : List Addr), PG (X.blk s H scope (compEnvC scope cl C X.env) fp) tg (rdG (own.map (·.2)) g)) (ht : ∀ (s : Shared) (H : Hp) (C : Addr) (cl : List (Str × Addr)) (fp : List Addr), PTs (X.blk s H scope (compEnvC scope cl C X.env) fp) ifs (rdT W0 tt))
    (he : ∀ (s : Shared) (H : Hp) (C : Addr) (cl : List (Str × Addr)) (fp : List Addr), PE (X.blk s H scope (compEnvC scope cl C X.env) fp) elt (rdE W0 te)) (hs : ∀ x, foldedSetIterable iter X.env x = pure x := by intro _; rfl) :
    PE X (.ListComp elt [⟨tg, iter, ifs, 0⟩] scope pos) (rdE W (fComp dep it g tt te (own.map (·.2)))) :=
  peI (pe_lc hc hN hi ok hg ht he hs) fun _ _ _ h => rd_lc h
end
end PyL

namespace PyL
open PySem PySem.Spec L2
set_option autoImplicit false

/-! ### the state of a def's body -/
structure ER (S0 : PA1) (H0 : Hp) (ρ : Ev) (σ : St) (H : Hp) (F : FP) : Prop where
  ee : EE S0 ρ σ H F
  new : ∀ i a, a ∈ F i → H0 a = none
  same : Same H0 H
  old : ∀ a, S0 a → ∃ o, H0 a = some o
theorem ER.grow {S0 : PA1} {H0 : Hp} {ρ : Ev} {σ : St} {H H' : Hp} {F : FP} (E : ER S0 H0 ρ σ H F) (s : Same H H') : ER S0 H0 ρ σ H' F := ⟨E.ee.grow s, E.new, E.same.trans s, E.old⟩
theorem ER.weaken {S0 : PA1} {H0 H1 : Hp} {ρ : Ev} {σ : St} {H : Hp} {F : FP} (E : ER S0 H1 ρ σ H F) (s : Same H0 H1) (old : ∀ a, S0 a → ∃ o, H0 a = some o) : ER S0 H0 ρ σ H F :=
  ⟨E.ee, fun i a h => s.free (E.new i a h), s.trans E.same, old⟩
theorem ER.frzL {S0 : PA1} {H0 : Hp} {ρ : Ev} {σ : St} {H : Hp} {F : FP} (E : ER S0 H0 ρ σ H F) (e : List Nat) : ER S0 H0 (frzL e ρ) σ H (cutF e F) :=
  ⟨E.ee.frzL e, fun i a h => E.new i a (cutF_mem.mp h).2, E.same, E.old⟩
/-- the base taken anew: all that is not one's own -/
noncomputable def cutH (H : Hp) (F : FP) : Hp := fun a => open Classical in if ∃ i, a ∈ F i then none else H a
theorem cutH_some {H : Hp} {F : FP} {a : Addr} {o : HO} (h : H a = some o) (n : ∀ i, a ∉ F i) : cutH H F a = some o := by
  unfold cutH
  rw [if_neg (fun ⟨i, z⟩ => n i z)]
  exact h
theorem cutH_same {H : Hp} {F : FP} : Same (cutH H F) H := fun b o e => by
  unfold cutH at e
  split at e
  · cases e
  · exact e
theorem cutH_none {H : Hp} {F : FP} {i : Nat} {a : Addr} (h : a ∈ F i) : cutH H F a = none := by
  unfold cutH
  rw [if_pos ⟨i, h⟩]
theorem ER.rebase {S0 : PA1} {H0 : Hp} {ρ : Ev} {σ : St} {H : Hp} {F : FP} (E : ER S0 H0 ρ σ H F) : ER S0 (cutH H F) ρ σ H F ∧ Same H0 (cutH H F) :=
  ⟨⟨E.ee, fun i a h => cutH_none h, cutH_same, fun a h => by
      obtain ⟨o, ho⟩ := E.old a h
      exact ⟨o, cutH_some (E.same _ _ ho) fun i z => E.ee.apart i a z h⟩⟩, fun b o e => cutH_some (E.same _ _ e) fun i z => by rw [E.new i b z] at e; cases e⟩

inductive Out where
  | nx (ρ : Ev) | rt (d : D) (k : Nat) | bk (ρ : Ev) | ct (ρ : Ev) | ex (x : Exn) (ρ : Ev) | bad
abbrev FS := Ev → Out
def PostS (W : WK) (S0 : PA1) (H0 : Hp) (Dn : Ends) : Out → Prop
  | .nx ρ => ∀ σ H F, ER S0 H0 ρ σ H F → Dn.nx σ H
  | .bk ρ => ∀ σ H F, ER S0 H0 ρ σ H F → Dn.bk σ H
  | .ct ρ => ∀ σ H F, ER S0 H0 ρ σ H F → Dn.ct σ H
  | .rt d k => ∀ v H fp, Same H0 H → (∀ a ∈ fp, H0 a = none) → Ow (fun a => S0 a ∨ a ∈ fp) H k d v fp → Dn.rt v H
  | .ex x ρ => ∀ σ H F, ER S0 H0 ρ σ H F → ∀ d, repF S0 x.fs d H → W x.cls d σ H
  | .bad => False
def rdS (W : WK) (f : FS) : TS := fun Dn σ H => ∃ S0 H0 ρ F, ER S0 H0 ρ σ H F ∧ PostS W S0 H0 Dn (f ρ)
theorem PostS.weak {W : WK} {S0 : PA1} {H0 H1 : Hp} {Dn : Ends} (s : Same H0 H1) (old : ∀ a, S0 a → ∃ o, H0 a = some o) : ∀ {o : Out}, PostS W S0 H0 Dn o → PostS W S0 H1 Dn o
  | .nx _, h => fun σ H F E => h σ H F (E.weaken s old)
  | .bk _, h => fun σ H F E => h σ H F (E.weaken s old)
  | .ct _, h => fun σ H F E => h σ H F (E.weaken s old)
  | .rt _ _, h => fun v H fp sm n o => h v H fp (s.trans sm) (fun a ha => s.free (n a ha)) o
  | .ex _ _, h => fun σ H F E => h σ H F (E.weaken s old)
  | .bad, h => h

def stE (f : FE) (g : R → Ev → Out) : FS := fun ρ => match f ρ with
  | .ok r => g r ρ
  | .exn x => .ex x ρ
  | .bad => .bad
theorem ps_bind {W : WK} {S0 : PA1} {H0 : Hp} {ρ : Ev} {F : FP} {σ : St} {H : Hp} {Dn : Ends} {f : FE} {g : R → Ev → Out} {K : V → Hp → Prop} (E : ER S0 H0 ρ σ H F) (h : PostS W S0 H0 Dn (stE f g ρ))
    (k : ∀ r v H1 fp, Same H H1 → (∀ a ∈ fp, H a = none) → VR S0 F H1 r v fp → ER S0 H0 ρ σ H1 F → PostS W S0 H0 Dn (g r ρ) → K v H1) : rdE W f σ H K := by
  refine ⟨S0, ρ, F, E.ee, ?_⟩
  unfold stE at h
  cases q : f ρ with
  | ok r =>
    rw [q] at h
    exact fun v H1 fp s n vr => k r v H1 fp s n vr (E.grow s) h
  | exn x => rw [q] at h; exact fun H' s => h σ H' F (E.grow s)
  | bad => rw [q] at h; exact h
def stT (f : FT) (g : Bool → Ev → Out) : FS := fun ρ => match f ρ with
  | .ok b => g b ρ
  | .exn x => .ex x ρ
  | .bad => .bad
theorem ps_tbind {W : WK} {S0 : PA1} {H0 : Hp} {ρ : Ev} {F : FP} {σ : St} {H : Hp} {Dn : Ends} {f : FT} {g : Bool → Ev → Out} {K : Bool → Hp → Prop} (E : ER S0 H0 ρ σ H F) (h : PostS W S0 H0 Dn (stT f g ρ))
    (k : ∀ b H1, Same H H1 → ER S0 H0 ρ σ H1 F → PostS W S0 H0 Dn (g b ρ) → K b H1) : rdT W f σ H K := by
  refine ⟨S0, ρ, F, E.ee, ?_⟩
  unfold stT at h
  cases q : f ρ with
  | ok b => rw [q] at h; exact fun H1 s => k b H1 s (E.grow s) h
  | exn x => rw [q] at h; exact fun H' s => h σ H' F (E.grow s)
  | bad => rw [q] at h; exact h

/-! ### a slot's value is put, taken, changed -/
def putF (i : Nat) (fp : List Addr) (F : FP) : FP := fun j => if j = i then fp else F j
theorem putF_mem {i : Nat} {fp : List Addr} {F : FP} {j : Nat} {a : Addr} : a ∈ putF i fp F j ↔ (j = i ∧ a ∈ fp) ∨ (j ≠ i ∧ a ∈ F j) := by
  unfold putF
  split
  · simp_all
  · simp_all
/-- slot i gets an owned value; its old one is dropped -/
theorem EE.put {S0 : PA1} {ρ : Ev} {σ : St} {H : Hp} {F : FP} (E : EE S0 ρ σ H F) {i : Nat} {d : D} {k : Nat} {v : V} {fp : List Addr} (o : Ow (fun a => inS S0 F [i] a ∨ a ∈ fp) H k d v fp)
    (nS : ∀ a ∈ fp, ¬ inS S0 F [i] a) (nO : ∀ j d' k' w, j ≠ i → ρ[j]? = some (some (d', k')) → σ[j]? = some (some w) → Ow (inS S0 F []) H k' d' w (F j) → Ow (fun a => inS S0 F [i] a ∨ a ∈ fp) H k' d' w (F j)) :
    EE S0 (ρ.set i (some (d, k))) (σ.set i (some v)) H (putF i fp F) where
  len := by rw [List.length_set, List.length_set]; exact E.len
  rep := fun j d' k' h => by
    have sub : ∀ a, inS S0 (putF i fp F) [] a → inS S0 F [i] a ∨ a ∈ fp := fun a z => by
      rcases z with z | ⟨n, _, z⟩
      · exact .inl (.inl z)
      · rcases putF_mem.mp z with ⟨_, z⟩ | ⟨z1, z2⟩
        · exact .inr z
        · exact .inl (.inr ⟨n, by simp [z1], z2⟩)
    by_cases hj : j = i
    · subst hj
      have hl : j < ρ.length := by
        have := (List.getElem?_eq_some_iff.mp h).1
        rwa [List.length_set] at this
      rw [List.getElem?_set_self hl] at h
      cases h
      refine ⟨v, by rw [List.getElem?_set_self (by rw [← E.len]; exact hl)], ?_⟩
      rw [show putF j fp F j = fp by simp [putF]]
      exact Ow.imp (fun b o q n => ⟨q, fun z => n (sub b z)⟩) _ _ _ _ (fun _ _ _ q => q) o
    · rw [List.getElem?_set_ne (Ne.symm hj)] at h
      obtain ⟨w, e, ow⟩ := E.rep j d' k' h
      refine ⟨w, by rw [List.getElem?_set_ne (Ne.symm hj)]; exact e, ?_⟩
      rw [show putF i fp F j = F j by simp [putF, hj]]
      exact Ow.imp (fun b o q n => ⟨q, fun z => n (sub b z)⟩) _ _ _ _ (fun _ _ _ q => q) (nO j d' k' w hj h e ow)
  disj := fun a b c h1 h2 => by
    rcases putF_mem.mp h1 with ⟨a1, a2⟩ | ⟨a1, a2⟩ <;> rcases putF_mem.mp h2 with ⟨b1, b2⟩ | ⟨b1, b2⟩
    · rw [a1, b1]
    · exact (nS c a2 (.inr ⟨b, by simp [b1], b2⟩)).elim
    · exact (nS c b2 (.inr ⟨a, by simp [a1], a2⟩)).elim
    · exact E.disj a b c a2 b2
  trk := fun j a h => by
    rcases putF_mem.mp h with ⟨_, h⟩ | ⟨_, h⟩
    · exact Ow.there _ _ _ _ o a h
    · exact E.trk j a h
  out := E.out
  apart := fun j a h z => by
    rcases putF_mem.mp h with ⟨_, h⟩ | ⟨_, h⟩
    · exact nS a h (.inl z)
    · exact E.apart j a h z
/-- a new value (its own part is new) is stored in slot i -/
theorem ER.assign {S0 : PA1} {H0 : Hp} {ρ : Ev} {σ : St} {H H1 : Hp} {F : FP} (E : ER S0 H0 ρ σ H F) {i : Nat} {d : D} {k : Nat} {e : List Nat} {v : V} {fp : List Addr} (s : Same H H1) (n : ∀ a ∈ fp, H a = none) (o : Ow (fun a => inS S0 F e a ∨ a ∈ fp) H1 k d v fp) :
    ∃ F', ER S0 H0 ((PyL.frzL e ρ).set i (some (d, k))) (σ.set i (some v)) H1 F' := by
  have E1 := (E.frzL e)
  have E2 := E1.grow s
  refine ⟨putF i fp (cutF e F), ⟨E2.ee.put ?_ (fun a ha z => ?_) (fun j d' k' w hj h1 h2 ow => ?_), fun j a h => ?_, E2.same, E.old⟩⟩
  · refine Ow.imp (fun b o q n => ⟨q, fun z => n (z.elim (fun z => .inl ?_) .inr)⟩) _ _ _ _ (fun _ _ _ q => q) o
    exact inS_mono (fun i h => List.mem_append_left _ h) (inS_cut.mp z)
  · exact E.ee.fresh (inS_cut.mp z) (n a ha)
  · obtain ⟨w', e', ow0⟩ := E1.ee.rep j d' k' h1
    have h2' : σ[j]? = some (some w) := h2
    rw [e'] at h2'; cases h2'
    refine Ow.imp (fun b o q n' => ⟨s _ _ q, fun z => z.elim (fun z => n' (inS_mono (e := []) (e' := [i]) (fun _ h => by cases h) z)) fun z => ?_⟩) _ _ _ _ (fun b o _ q => s _ _ q) ow0
    rw [n b z] at q; cases q
  · rcases putF_mem.mp h with ⟨_, h⟩ | ⟨_, h⟩
    · exact E.same.free (n a h)
    · exact E1.new j a h

/-! ### statements -/
def sSet (i : Nat) (f : FE) : FS := stE f fun r ρ => .nx ((frzL r.e ρ).set i (some (r.d, r.k)))
def sRet (f : FE) : FS := stE f fun r _ => .rt r.d r.k
def sRetN : FS := fun _ => .rt .non 0
def sRetV (i : Nat) : FS := fun ρ => match ρ[i]? with
  | some (some (d, k)) => .rt d k
  | _ => .bad
def sExpr (f : FE) : FS := stE f fun _ ρ => .nx ρ
def sIf (t : FT) (f g : FS) : FS := stT t fun b ρ => if b then f ρ else g ρ
def sSeq (f g : FS) : FS := fun ρ => match f ρ with
  | .nx ρ' => g ρ'
  | o => o
def sNil : FS := fun ρ => .nx ρ
def sBrk : FS := fun ρ => .bk ρ
def sCnt : FS := fun ρ => .ct ρ
section
variable {X : Cx} {W : WK} {e : Expr} {fe : FE} {st : Stmt} {sts rest : List Stmt} {f g : FS} {pos : Pos}
theorem set_post {S0 : PA1} {H0 : Hp} {ρ : Ev} {F : FP} {σ : St} {H H1 : Hp} {Dn : Ends} {i : Nat} {r : R} {v : V} {fp : List Addr} (E : ER S0 H0 ρ σ H F) (s : Same H H1) (n : ∀ a ∈ fp, H a = none) (vr : VR S0 F H1 r v fp)
    (p : PostS W S0 H0 Dn (.nx ((frzL r.e ρ).set i (some (r.d, r.k))))) : Dn.nx (σ.set i (some v)) H1 := by
  obtain ⟨F', E'⟩ := E.assign s n vr.ow (i := i)
  exact p _ _ _ E'
theorem s_set {i : Nat} {x : Str} {pos' : Pos} (hN : X.N.Nodup) (hi : X.N[i]? = some x) (hx : Loc X.env.scope x) (he : PE X e (rdE W fe)) (hs : swapsWith e (some (.Name x pos')) pos.line X.env = pure false := by rfl) (hf : X.fn x = true ∨ X.env.scope.names.lookup x = some .local := by first | exact .inl rfl | exact .inr rfl | assumption) :
    PS X (.Assign [.Name x pos'] e pos) (rdS W (sSet i fe)) :=
  psI (ps_set hN hi hx he hs hf) fun Dn σ H ⟨S0, H0, ρ, F, E, p⟩ => ps_bind E p fun r v H1 fp s n vr E1 p1 => set_post E s n vr p1
/-- y = [..], a comprehension -/
theorem s_setLc {i dep : Nat} {y : Str} {py : Pos} {elt tg iter : Expr} {ifs : List Expr} {scope : Scope} {own : List (Str × Nat)} {spos : Pos} {it : FI} {tgf : FG} {tt : FT} {te : FE} (hc : X.calm = true) (hN : X.N.Nodup) (hy : X.N[i]? = some y) (hyl : X.env.scope.names.lookup y = some .local)
    (hsw : swapsWith (.ListComp elt [⟨tg, iter, ifs, 0⟩] scope pos) (some (.Name y py)) spos.line X.env = pure true) (hi : PI X tg iter (rdI W it)) (ok : BlkOk X.N X.env.scope scope own)
    (hg : ∀ (s : Shared) (H : Hp) (C : Addr) (cl : List (Str × Addr)) (fp : List Addr), PG (X.blk s H scope (compEnvC scope cl C X.env) fp) tg (rdG (own.map (·.2)) tgf)) (ht : ∀ (s : Shared) (H : Hp) (C : Addr) (cl : List (Str × Addr)) (fp : List Addr), PTs (X.blk s H scope (compEnvC scope cl C X.env) fp) ifs (rdT W0 tt))
    (he : ∀ (s : Shared) (H : Hp) (C : Addr) (cl : List (Str × Addr)) (fp : List Addr), PE (X.blk s H scope (compEnvC scope cl C X.env) fp) elt (rdE W0 te)) (hs : ∀ x, foldedSetIterable iter X.env x = pure x := by intro _; rfl) :
    PS X (.Assign [.Name y py] (.ListComp elt [⟨tg, iter, ifs, 0⟩] scope pos) spos) (rdS W (sSet i (fComp dep it tgf tt te (own.map (·.2))))) :=
  psI (ps_setLc hc hN hy hyl hsw hi ok hg ht he hs) fun Dn σ H ⟨S0, H0, ρ, F, E, p⟩ => rd_lc (ps_bind E p fun r v H1 fp s n vr E1 p1 => set_post E s n vr p1)
theorem s_ret (he : PE X e (rdE W fe)) : PS X (.Return (some e) pos) (rdS W (sRet fe)) :=
  psI (ps_ret he) fun Dn σ H ⟨S0, H0, ρ, F, E, p⟩ => ps_bind E p fun r v H1 fp s n vr E1 p1 =>
    p1 v H1 fp E1.same (fun a ha => E.same.free (n a ha)) (Ow.imp (fun b o q n => ⟨q, fun z => n (z.elim (fun z => .inl (.inl z)) .inr)⟩) _ _ _ _ (fun _ _ _ q => q) vr.ow)
theorem s_retN : PS X (.Return none pos) (rdS W sRetN) := psI ps_retN fun Dn σ H ⟨S0, H0, ρ, F, E, p⟩ => p .non H [] E.same (fun a ha => by cases ha) ⟨rfl, rfl⟩
theorem s_retV (i : Nat) {x : Str} {p' : Pos} (hN : X.N[i]? = some x := by rfl) (hv : Vis X.env.scope x := by first | exact Or.inl rfl | exact Or.inr (Or.inl rfl) | exact Or.inr (Or.inr rfl)) (hd : (x == ("__debug__" : Str)) = false := by decide)
    (hcd : (x == ("__classdict__" : Str)) = false := by decide) : PS X (.Return (some (.Name x p')) pos) (rdS W (sRetV i)) :=
  psI (ps_ret (pe_var (i := i) hN hv hd hcd)) fun Dn σ H ⟨S0, H0, ρ, F, E, p⟩ => by
    unfold sRetV at p
    split at p
    · rename_i d k q
      obtain ⟨v, e, o⟩ := E.ee.rep i d k q
      refine ⟨v, e, p v H (F i) E.same (E.new i) (Ow.imp (fun b o q n => ⟨q, fun z => n (z.elim (fun z => .inl z) fun z => .inr ⟨i, by simp, z⟩)⟩) _ _ _ _ (fun _ _ _ q => q) o)⟩
    · exact p.elim
theorem s_expr (he : PE X e (rdE W fe)) (hs : swapsWith e none pos.line X.env = pure false := by rfl) : PS X (.Expr e pos) (rdS W (sExpr fe)) :=
  psI (ps_expr he hs) fun Dn σ H ⟨S0, H0, ρ, F, E, p⟩ => ps_bind E p fun r v H1 fp s n vr E1 p1 => p1 σ H1 F E1
theorem s_if {c : Expr} {a b : List Stmt} {t : FT} (hc : PT X c (rdT W t)) (ha : PSs X a (rdS W f)) (hb : PSs X b (rdS W g)) : PS X (.If c a b pos) (rdS W (sIf t f g)) :=
  psI (ps_if hc ha hb) fun Dn σ H ⟨S0, H0, ρ, F, E, p⟩ => ps_tbind E p fun b H1 s E1 p1 => by
    cases b with
    | true => exact iteT ⟨S0, H0, ρ, F, E1, p1⟩
    | false => exact iteF ⟨S0, H0, ρ, F, E1, p1⟩
theorem b_nil : PSs X [] (rdS W sNil) := pssI pss_nil fun Dn σ H ⟨S0, H0, ρ, F, E, p⟩ => p σ H F E
theorem seq_post {S0 : PA1} {H0 : Hp} {ρ : Ev} {Dn : Ends} (old : True) (p : PostS W S0 H0 Dn (sSeq f g ρ)) : PostS W S0 H0 { Dn with nx := rdS W g Dn } (f ρ) := by
  unfold sSeq at p
  cases q : f ρ with
  | nx ρ' => rw [q] at p; exact fun σ H F E => ⟨S0, H0, ρ', F, E, p⟩
  | rt d k => rw [q] at p; exact p
  | bk ρ' => rw [q] at p; exact p
  | ct ρ' => rw [q] at p; exact p
  | ex x ρ' => rw [q] at p; exact p
  | bad => rw [q] at p; exact p
theorem b_cons (h1 : PS X st (rdS W f)) (h2 : PSs X rest (rdS W g)) : PSs X (st :: rest) (rdS W (sSeq f g)) :=
  pssI (pss_cons h1 h2) fun Dn σ H ⟨S0, H0, ρ, F, E, p⟩ => ⟨S0, H0, ρ, F, E, seq_post trivial p⟩
theorem b_one (h1 : PS X st (rdS W f)) : PSs X [st] (rdS W f) := pss_one h1
theorem s_brk : PS X (.Break pos) (rdS W sBrk) := psI ps_break fun Dn σ H ⟨S0, H0, ρ, F, E, p⟩ => p σ H F E
theorem s_cnt : PS X (.Continue pos) (rdS W sCnt) := psI ps_continue fun Dn σ H ⟨S0, H0, ρ, F, E, p⟩ => p σ H F E
theorem s_pass : PS X (.Pass pos) (rdS W sNil) := psI ps_pass fun Dn σ H ⟨S0, H0, ρ, F, E, p⟩ => p σ H F E
end

/-! ### loops -/
def whileL (t : FT) (body : FS) : Nat → Ev → Out
  | 0, _ => .bad
  | n + 1, ρ => match t ρ with
    | .ok b => if b then match body ρ with
        | .nx ρ' => whileL t body n ρ'
        | .ct ρ' => whileL t body n ρ'
        | .bk ρ' => .nx ρ'
        | o => o
      else .nx ρ
    | .exn x => .ex x ρ
    | .bad => .bad
def sWhile (n : Nat) (t : FT) (body : FS) : FS := whileL t body n
def forL (tg : FG) (vs : List Nat) (body : FS) : Ev → List D → Out
  | ρ, [] => .nx ρ
  | ρ, d :: ds => match tg d (wipeE ρ vs) with
    | none => .bad
    | some ρ2 => match body ρ2 with
      | .nx ρ3 => forL tg vs body ρ3 ds
      | .ct ρ3 => forL tg vs body ρ3 ds
      | .bk ρ3 => .nx ρ3
      | o => o
def sFor (it : FI) (tg : FG) (vs : List Nat) (body : FS) : FS := fun ρ => match it ρ with
  | .ok s => forL tg vs body (frzL (s.e ++ s.c) ρ) s.ds
  | .exn x => .ex x ρ
  | .bad => .bad
/-- slots are dropped -/
theorem EE.drop {S0 : PA1} {ρ : Ev} {σ : St} {H : Hp} {F : FP} (E : EE S0 ρ σ H F) (vs : List Nat) : EE S0 (wipeE ρ vs) σ H (cutF vs F) where
  len := by rw [wipeE_len]; exact E.len
  rep := fun i d k h => by
    obtain ⟨h1, h2⟩ := wipeE_some h
    obtain ⟨v, e, o⟩ := E.rep i d k h1
    refine ⟨v, e, ?_⟩
    rw [show cutF vs F i = F i by simp [cutF, h2]]
    refine Ow.imp (fun b o q n => ⟨q, fun z => n ?_⟩) k d v _ (fun _ _ _ q => q) o
    rcases z with z | ⟨j, _, z⟩
    · exact .inl z
    · exact .inr ⟨j, by simp, (cutF_mem.mp z).2⟩
  disj := fun a b c h1 h2 => E.disj a b c (cutF_mem.mp h1).2 (cutF_mem.mp h2).2
  trk := fun j a h => E.trk j a (cutF_mem.mp h).2
  out := E.out
  apart := fun j a h => E.apart j a (cutF_mem.mp h).2
section
variable {X : Cx} {W : WK} {body : List Stmt} {f : FS} {pos : Pos}
theorem s_while {c : Expr} {t : FT} (n : Nat) (hp : PassesOwn (model X.prog X.w) X.A X.env X.xe) (hc : PT X c (rdT W t)) (hb : PSs X body (rdS W f)) : PS X (.While c body [] pos) (rdS W (sWhile n t f)) := by
  refine psI (ps_while hp hc hb) fun Dn σ H ⟨S0, H0, ρ, F, E, p⟩ => ?_
  refine ⟨fun m σ H => ∃ ρ F, ER S0 H0 ρ σ H F ∧ PostS W S0 H0 Dn (whileL t f m ρ), ⟨n, ρ, F, E, p⟩, ?_⟩
  rintro m σ H ⟨ρ, F, E, p⟩
  cases m with
  | zero => exact p.elim
  | succ m =>
    unfold whileL at p
    refine ⟨S0, ρ, F, E.ee, ?_⟩
    cases q : t ρ with
    | exn x => rw [q] at p; exact fun H' s => p σ H' F (E.grow s)
    | bad => rw [q] at p; exact p
    | ok b =>
      rw [q] at p
      simp only at p
      intro H1 s
      have E1 := E.grow s
      cases b with
      | false => rw [if_neg Bool.false_ne_true] at p ⊢; exact p σ H1 F E1
      | true =>
        rw [if_pos rfl] at p ⊢
        refine ⟨fun σ' H' => ∃ ρ F, ER S0 H0 ρ σ' H' F ∧ PostS W S0 H0 Dn (whileL t f m ρ), fun σ' H' h => ⟨m, Nat.lt_succ_self m, h⟩, S0, H0, ρ, F, E1, ?_⟩
        cases q2 : f ρ with
        | nx ρ' => rw [q2] at p; exact fun σ H F E => ⟨ρ', F, E, p⟩
        | ct ρ' => rw [q2] at p; exact fun σ H F E => ⟨ρ', F, E, p⟩
        | bk ρ' => rw [q2] at p; exact p
        | rt d k => rw [q2] at p; exact p
        | ex x ρ' => rw [q2] at p; exact p
        | bad => rw [q2] at p; exact p
theorem s_for {tg iter : Expr} {it : FI} {g : FG} {vs : List Nat} (hp : PassesOwn (model X.prog X.w) X.A X.env X.xe) (hc : X.calm = true) (hi : PI X tg iter (rdI W it)) (hg : PG X tg (rdG vs g)) (hb : PSs X body (rdS W f))
    (hs : ∀ x, foldedSetIterable iter X.env x = pure x := by intro _; rfl) : PS X (.For tg iter body [] pos) (rdS W (sFor it g vs f)) := by
  refine psI (ps_for hp hc hi hg hb hs) fun Dn σ H ⟨S0, H0, ρ, F, E, p⟩ => ?_
  refine ⟨S0, ρ, F, E.ee, ?_⟩
  unfold sFor at p
  cases q : it ρ with
  | bad => rw [q] at p; exact p
  | exn x => rw [q] at p; exact fun H' s => p σ H' F (E.grow s)
  | ok s =>
    rw [q] at p
    intro J H1 sm j
    have E1 := (E.grow sm).frzL (s.e ++ s.c)
    obtain ⟨E2, s2⟩ := E1.rebase
    have p2 := PostS.weak s2 E.old p
    -- what is outside of the walk's own slots is not one's own any more
    have base : ∀ b o, H1 b = some o → (¬ inS S0 F s.e b ∨ ¬ inS S0 F s.c b) → cutH H1 (cutF (s.e ++ s.c) F) b = some o := fun b o h n => cutH_some h fun i z => by
      obtain ⟨z1, z2⟩ := cutF_mem.mp z
      have : i ∉ s.e ∧ i ∉ s.c := by simpa using z1
      rcases n with n | n
      · exact n (.inr ⟨i, this.1, z2⟩)
      · exact n (.inr ⟨i, this.2, z2⟩)
    refine ⟨fun i m σ H => m = s.ds.length - i ∧ i ≤ s.ds.length ∧ ∃ ρ F', ER S0 (cutH H1 (cutF (s.e ++ s.c) F)) ρ σ H F' ∧ PostS W S0 (cutH H1 (cutF (s.e ++ s.c) F)) Dn (forL g vs f ρ (s.ds.drop i)),
      ⟨s.ds.length, by simp, Nat.zero_le _, _, _, E2, p2⟩, ?_⟩
    rintro i m σ3 H3 ⟨rfl, hi', ρ3, F3, E3, p3⟩
    obtain ⟨j1, j2⟩ := j H3 (fun b o h n => E3.same _ _ (base b o h (.inl n))) i
    by_cases hlt : i < s.ds.length
    · obtain ⟨go, yl⟩ := j2 _ (List.getElem?_eq_getElem hlt)
      refine .inr ⟨go, fun σ' H' => ∃ ρ F', ER S0 (cutH H1 (cutF (s.e ++ s.c) F)) ρ σ' H' F' ∧ PostS W S0 (cutH H1 (cutF (s.e ++ s.c) F)) Dn (forL g vs f ρ (s.ds.drop (i + 1))), fun σ' H' h => ⟨s.ds.length - (i + 1), by omega, rfl, hlt, h⟩, fun x H4 y => ?_⟩
      obtain ⟨s4, rx⟩ := yl x H4 y
      have E4 := E3.grow s4
      have D4 : ER S0 (cutH H1 (cutF (s.e ++ s.c) F)) (wipeE ρ3 vs) σ3 H4 (cutF vs F3) := ⟨E4.ee.drop vs, fun k a h => E4.new k a (cutF_mem.mp h).2, E4.same, E4.old⟩
      rw [List.drop_eq_getElem_cons hlt] at p3
      unfold forL at p3
      have D3 := E3.ee.drop vs
      have rx' : Rp (inS S0 (cutF vs F3) []) H4 s.ds[i] x := rx _ (fun b o h n => by
        have hb := base b o h (.inr n)
        refine ⟨E3.same _ _ hb, fun z => ?_⟩
        rcases z with z | ⟨k, _, z⟩
        · exact n (.inl z)
        · have := E3.new k b (cutF_mem.mp z).2
          rw [hb] at this; cases this) fun b z => let ⟨o, h, _⟩ := D3.inTr z; ⟨o, h⟩
      cases ht : g s.ds[i] (wipeE ρ3 vs) with
      | none => rw [ht] at p3; exact p3.elim
      | some ρ4 =>
        rw [ht] at p3
        simp only at p3
        refine ⟨S0, _, _, s.ds[i], D4.ee, fun k hk => by simp [cutF, hk], rx', ρ4, ht, fun σ4 E5 _ _ => ?_⟩
        refine ⟨S0, _, ρ4, _, ⟨E5, D4.new, D4.same, D4.old⟩, ?_⟩
        cases q2 : f ρ4 with
        | nx ρ' => rw [q2] at p3; exact fun σ H F E => ⟨ρ', F, E, p3⟩
        | ct ρ' => rw [q2] at p3; exact fun σ H F E => ⟨ρ', F, E, p3⟩
        | bk ρ' => rw [q2] at p3; exact p3
        | rt d k => rw [q2] at p3; exact p3
        | ex x ρ' => rw [q2] at p3; exact p3
        | bad => rw [q2] at p3; exact p3
    · have e : i = s.ds.length := by omega
      subst e
      rw [List.drop_length] at p3
      exact .inl ⟨j1 (Nat.le_refl _), p3 σ3 H3 F3 E3⟩
end
end PyL

namespace PyL
open PySem PySem.Spec L2
set_option autoImplicit false

/-! ### calls of one's own defs -/
abbrev DS := List D → Res (D × Nat)
def spD (n : Nat) (sem : DS) : Sp := fun vs H Q _ => ∃ (S : PA1) (ds : List D), vs.length = n ∧ RpL S H ds vs ∧ (∀ a, S a → TrM H a) ∧ match sem ds with
  | .ok dk => ∀ v H' fp, Same H H' → (∀ a ∈ fp, H a = none) → Ow (fun a => S a ∨ a ∈ fp) H' dk.2 dk.1 v fp → Q v H'
  | _ => False
def callR (n : Nat) (sem : DS) (rs : List R) : Res R := if rs.length = n then match sem (rs.map (·.d)) with
    | .ok dk => .ok (if af dk.2 dk.1 then ⟨dk.1, dk.2, [], []⟩ else ⟨dk.1, dk.2, esL rs, esL rs⟩)
    | _ => .bad
  else .bad
def fCall (n : Nat) (sem : DS) (fa : FA) : FE := fun ρ => (fa ρ).bind (callR n sem)
theorem rd_call {W : WK} {fa : FA} {n : Nat} {sem : DS} {E' : XK} {σ : St} {H : Hp} {Q : VK} (h : rdE W (fCall n sem fa) σ H Q) : tCall (spD n sem) [] E' (rdA W fa) σ H Q := by
  obtain ⟨S0, ρ, F, E, p⟩ := h
  refine post_args E p fun rs vs H1 fp s1 n1 l1 E1 p1 => ?_
  have fz := l1.fz fun e => E.nin n1 e
  have rp := fz.rp (E := esL rs) fun r h => esL_mem h
  rw [List.append_nil]
  unfold callR at p1
  split at p1
  · rename_i hl
    refine ⟨inS S0 F (esL rs), rs.map (·.d), by rw [← rp.length, List.length_map, hl], rp, fun a z => E1.inTr z, ?_⟩
    cases q : sem (rs.map (·.d)) with
    | bad => rw [q] at p1; exact p1.elim
    | exn x => rw [q] at p1; exact p1.elim
    | ok dk =>
      rw [q] at p1
      intro v H2 fp2 s2 n2 o
      have E2 := E1.grow s2
      have n0 : ∀ a ∈ fp2, H a = none := fun a ha => s1.free (n2 a ha)
      simp only at p1
      split at p1
      · rename_i haf
        exact p1 v H2 fp2 (s1.trans s2) n0 (VR.of (Ow.af (fun a z => z.elim (fun z => E2.inTr z) (Ow.there _ _ _ _ o a)) _ _ _ _ haf o) (E.nin n0 _))
      · exact p1 v H2 fp2 (s1.trans s2) n0 (VR.of o (E.nin n0 _))
  · exact p1.elim
section
variable {X : Cx} {W : WK} {CX : CXT} {k n : Nat} {f : Addr} {fd : FuncData} {ps : List Str} {sem : DS} {E : XK} {x : Str} {p pos : Pos} {e : Expr} {es : List Expr} {fa : FA}
theorem e_call (F : FnOk X.prog X.w X.K X.mg X.base CX k f fd ps (spD n sem)) (hr : Room k X.A) (hg : Gl X x) (hm : X.mg x = some (.ref f)) (hk : PySem.W.keepIn X.K (.ref f) = true) (hb : Binds X.K fd ps []) (hx : Passes CX X E) (ha : PA X (e :: es) (rdA W fa))
    (hdb : (x == ("__debug__" : Str)) = false := by decide) (he : starEach (e :: es) X.env = (false, eval e X.env) :: starEach es X.env := by rfl) (hpl : (backTo pos (starEach es X.env)).any (·.1) = false := by rfl) :
    PE X (.Call (.Name x p) (e :: es) [] pos) (rdE W (fCall n sem fa)) :=
  peI (pe_call F hr hg hm hk hb .nil hx ha hdb he hpl) fun _ _ _ h => rd_call h
end
/-- what a def's body hands back -/
def dsem (N n : Nat) (body : FS) : DS := fun ds => if ds.length = n then match body (ds.map (fun d => some (d, 0)) ++ List.replicate (N - n) none) with
    | .rt d k => .ok (d, k)
    | .nx _ => .ok (.non, 0)
    | .ex x _ => .exn x
    | _ => .bad
  else .bad
theorem start_ee {S : PA1} {H : Hp} {N : List Str} {n : Nat} {ds : List D} {vs : List V} (l : RpL S H ds vs) (hn : vs.length = n) (hN : n ≤ N.length) (hS : ∀ a, S a → TrM H a) :
    ER S H (ds.map (fun d => some (d, 0)) ++ List.replicate (N.length - n) none) (L2.start N vs) H (fun _ => []) where
  ee := {
    len := by unfold L2.start; simp [l.length]; omega
    rep := fun i d k h => by
      have hl := l.length
      by_cases hi : i < ds.length
      · rw [List.getElem?_append_left (by simpa using hi), List.getElem?_map] at h
        rw [List.getElem?_eq_getElem hi] at h
        cases h
        obtain ⟨v, hv, rv⟩ := l.get (List.getElem?_eq_getElem hi)
        refine ⟨v, ?_, ?_, rfl⟩
        · unfold L2.start
          rw [List.getElem?_append_left (by simp; omega), List.getElem?_map, hv]
          rfl
        · exact Rp.imp (fun b o q n => ⟨q, fun z => z.elim n fun ⟨_, _, z⟩ => by cases z⟩) _ _ rv
      · rw [List.getElem?_append_right (by simp; omega), List.getElem?_replicate] at h
        split at h <;> cases h
    disj := fun _ _ _ h => by cases h
    trk := fun _ _ h => by cases h
    out := hS
    apart := fun _ _ h => by cases h }
  new := fun _ _ h => by cases h
  same := Same.refl H
  old := fun a h => let ⟨o, e, _⟩ := hS a h; ⟨o, e⟩
section
variable {P : Program} {w : World} {K : PySem.W.Frag} {mg : Str → Option Value} {base : Heap}
theorem def_ok {x qual : Str} {st : Stmt} {f : Addr} {fd : FuncData} {N ps : List Str} {k n : Nat} {body : FS} (F : Fun K x qual st f fd) (S : FnScope N ps (defScope st)) (hn : ps.length = n) (hN : n ≤ N.length)
    (hbody : ∀ (cdv : Value) (A : Around) (outer : List Env) (s : Shared) (H : Hp) (E : XK), Room k (A.deeper (PyProof.Rows.envOfC qual (defScope st) s.heap.objs.size f cdv)) → (A.deeper (PyProof.Rows.envOfC qual (defScope st) s.heap.objs.size f cdv)).units + 65 < cLine →
      PSs (cxOf CX0 P w K mg base N qual (defScope st) f cdv A outer s H E).nox (defBody st) (rdS W0 body)) : FnOk P w K mg base CX0 (k + 1) f fd ps (spD n (dsem N.length n body)) := by
  refine F.ok S (fun vs H Q E h => ?_) fun cdv A outer s H vs Q E hr h => ?_
  · obtain ⟨_, _, hl, _⟩ := h
    rw [hl, hn]
  · obtain ⟨S', ds, hl, rp, hS, q⟩ := h
    have hu : (A.deeper (PyProof.Rows.envOfC qual (defScope st) s.heap.objs.size f cdv)).units + 65 < cLine := by have := hr.un; omega
    refine ⟨_, hbody cdv A outer s H E hr hu, S', H, _, _, start_ee rp hl hN hS, ?_⟩
    have hdl : ds.length = n := by rw [rp.length, hl]
    unfold dsem at q
    rw [if_pos hdl] at q
    cases e : body (ds.map (fun d => some (d, 0)) ++ List.replicate (N.length - n) none) with
    | rt d k => rw [e] at q; exact q
    | nx ρ => rw [e] at q; exact fun σ H' F E => q .non H' [] E.same (fun a ha => by cases ha) ⟨rfl, rfl⟩
    | bk ρ => rw [e] at q; exact q.elim
    | ct ρ => rw [e] at q; exact q.elim
    | ex x ρ => rw [e] at q; exact q.elim
    | bad => rw [e] at q; exact q.elim
end

/-! ### one's own lists are changed -/
theorem AllF.snoc {P : D → V → List Addr → Prop} {d : D} {x : V} {f : List Addr} (p : P d x f) : ∀ {ds : List D} {xs : List V} {fp : List Addr}, AllF P ds xs fp → (∀ a ∈ fp, a ∉ f) → AllF P (ds ++ [d]) (xs ++ [x]) (fp ++ f)
  | [], _, _, ⟨e1, e2⟩, _ => ⟨x, [], f, [], by rw [e1]; rfl, p, ⟨rfl, rfl⟩, by rw [e2]; simp, by simp⟩
  | q :: ds, _, _, ⟨w, t, f1, f2, e, ow, l, ef, dj⟩, n => ⟨w, t ++ [x], f1, f2 ++ f, by rw [e]; rfl, ow, l.snoc p (fun a ha => n a (by rw [ef]; exact List.mem_append_right _ ha)), by rw [ef, List.append_assoc], fun a h1 h2 => by
      rcases List.mem_append.mp h2 with h2 | h2
      · exact dj a h1 h2
      · exact n a (by rw [ef]; exact List.mem_append_left _ h1) h2⟩
theorem AllF.length {P : D → V → List Addr → Prop} : ∀ {ds : List D} {xs : List V} {fp : List Addr}, AllF P ds xs fp → ds.length = xs.length
  | [], _, _, ⟨e, _⟩ => by rw [e]; rfl
  | _ :: _, _, _, ⟨x, r, f1, f2, e, p, q, ef, dj⟩ => by rw [e, List.length_cons, List.length_cons, q.length]
/-- one item for another -/
theorem AllF.at {P : D → V → List Addr → Prop} : ∀ {ds : List D} {xs : List V} {fp : List Addr} {i : Nat} {d : D}, AllF P ds xs fp → ds[i]? = some d → ∃ x f, xs[i]? = some x ∧ P d x f ∧ (∀ a ∈ f, a ∈ fp) ∧
    ∀ (P' : D → V → List Addr → Prop) (d' : D) (x' : V) (f' : List Addr), (∀ d v g, (∀ a ∈ g, a ∈ fp) → (∀ a ∈ g, a ∉ f) → P d v g → P' d v g) → P' d' x' f' → (∀ a ∈ f', a ∈ f ∨ a ∉ fp) → ∃ fp', AllF P' (ds.set i d') (xs.set i x') fp' ∧ (∀ a ∈ fp', a ∈ f' ∨ (a ∈ fp ∧ a ∉ f))
  | [], _, _, _, _, _, h => by simp at h
  | c :: ds, _, _, 0, d, ⟨x, r, f1, f2, e, p, q, ef, dj⟩, h => by
    have : c = d := by simpa using h
    subst this
    refine ⟨x, f1, by rw [e]; rfl, p, fun a ha => by rw [ef]; exact List.mem_append_left _ ha, fun P' d' x' f' hP p' hf => ⟨f' ++ f2, ⟨x', r, f', f2, by rw [e]; rfl, p', q.imp fun d v g hg pg => hP d v g (fun a ha => by rw [ef]; exact List.mem_append_right _ (hg a ha)) (fun a ha z => dj a z (hg a ha)) pg, rfl, fun a h1 h2 => ?_⟩, fun a ha => ?_⟩⟩
    · rcases hf a h1 with z | z
      · exact dj a z h2
      · exact z (by rw [ef]; exact List.mem_append_right _ h2)
    · rcases List.mem_append.mp ha with ha | ha
      · exact .inl ha
      · exact .inr ⟨by rw [ef]; exact List.mem_append_right _ ha, fun z => dj a z ha⟩
  | c :: ds, _, _, i + 1, d, ⟨x, r, f1, f2, e, p, q, ef, dj⟩, h => by
    obtain ⟨y, f, hy, py, hf, go⟩ := AllF.at (i := i) q (by simpa using h)
    refine ⟨y, f, by rw [e]; simpa using hy, py, fun a ha => by rw [ef]; exact List.mem_append_right _ (hf a ha), fun P' d' x' f' hP p' hf' => ?_⟩
    obtain ⟨fq, al, hq⟩ := go P' d' x' f' (fun d v g hg hn pg => hP d v g (fun a ha => by rw [ef]; exact List.mem_append_right _ (hg a ha)) hn pg) p' fun a ha => (hf' a ha).elim .inl fun z => .inr fun y => z (by rw [ef]; exact List.mem_append_right _ y)
    refine ⟨f1 ++ fq, ⟨x, _, f1, fq, by rw [e]; rfl, hP c x f1 (fun a ha => by rw [ef]; exact List.mem_append_left _ ha) (fun a ha z => dj a ha (hf a z)) p, al, rfl, fun a h1 h2 => ?_⟩, fun a ha => ?_⟩
    · rcases hq a h2 with z | ⟨z, _⟩
      · rcases hf' a z with z | z
        · exact dj a h1 (hf a z)
        · exact z (by rw [ef]; exact List.mem_append_left _ h1)
      · exact dj a h1 z
    · rcases List.mem_append.mp ha with ha | ha
      · exact .inr ⟨by rw [ef]; exact List.mem_append_left _ ha, fun z => dj a ha (hf a z)⟩
      · rcases hq a ha with z | ⟨z1, z2⟩
        · exact .inl z
        · exact .inr ⟨by rw [ef]; exact List.mem_append_right _ z1, z2⟩

theorem ER.mutate {S0 : PA1} {H0 : Hp} {ρ : Ev} {σ : St} {H H2 : Hp} {F : FP} (E : ER S0 H0 ρ σ H F) {i : Nat} {d0 d' : D} {k0 k' : Nat} {e : List Nat} {v : V} {a : Addr} {o' : HO} {fp' : List Addr} (hi : ρ[i]? = some (some (d0, k0))) (hv : σ[i]? = some (some v)) (he : i ∉ e) (s : Same H H2) (ha : a ∈ F i) (mo : Mt o')
    (hf : ∀ b ∈ fp', b ∈ F i ∨ H b = none) (o : Ow (fun b => inS S0 F (i :: e) b ∨ b ∈ fp') (upd H2 a o') k' d' v fp') : ER S0 H0 ((PyL.frzL e ρ).set i (some (d', k'))) σ (upd H2 a o') (putF i fp' (cutF e F)) := by
  have E1 := E.frzL e
  have Fi : cutF e F i = F i := by simp [cutF, he]
  have sub : ∀ b, inS S0 (putF i fp' (cutF e F)) [] b → inS S0 F (i :: e) b ∨ b ∈ fp' := fun b z => by
    rcases z with z | ⟨n, _, z⟩
    · exact .inl (.inl z)
    · rcases putF_mem.mp z with ⟨_, z⟩ | ⟨z1, z2⟩
      · exact .inr z
      · obtain ⟨y1, y2⟩ := cutF_mem.mp z2
        exact .inl (.inr ⟨n, by simp [z1, y1], y2⟩)
  have keep : ∀ b o, b ≠ a → H b = some o → upd H2 a o' b = some o := fun b o hb q => by rw [upd_ne hb]; exact s _ _ q
  have trkU : ∀ b, TrM H b → TrM (upd H2 a o') b := fun b ⟨o, q, m⟩ => by
    by_cases hb : b = a
    · subst hb; exact ⟨o', upd_same, mo⟩
    · exact ⟨o, keep b o hb q, m⟩
  refine ⟨⟨?_, fun j d k h => ?_, fun x y c h1 h2 => ?_, fun j b h => ?_, fun b h => ?_, fun j b h z => ?_⟩, fun j b h => ?_, fun b o q => ?_, E.old⟩
  · rw [List.length_set]; exact E1.ee.len
  · by_cases hj : j = i
    · subst hj
      have hl : j < (PyL.frzL e ρ).length := by
        have := (List.getElem?_eq_some_iff.mp h).1
        rwa [List.length_set] at this
      rw [List.getElem?_set_self hl] at h
      cases h
      refine ⟨v, hv, ?_⟩
      rw [show putF j fp' (cutF e F) j = fp' by simp [putF]]
      exact Ow.imp (fun b o q n => ⟨q, fun z => n (sub b z)⟩) _ _ _ _ (fun _ _ _ q => q) o
    · rw [List.getElem?_set_ne (Ne.symm hj)] at h
      obtain ⟨w, ew, ow⟩ := E1.ee.rep j d k h
      refine ⟨w, ew, ?_⟩
      rw [show putF i fp' (cutF e F) j = cutF e F j by simp [putF, hj]]
      refine Ow.imp (fun b o q n => ⟨keep b o (fun z => n (.inr ⟨i, by simp, by rw [Fi, z]; exact ha⟩)) q, fun z => ?_⟩) _ _ _ _ (fun b o hb q => keep b o (fun z => hj (E1.ee.disj j i b hb (by rw [Fi, z]; exact ha))) q) ow
      rcases z with z | ⟨n', _, z⟩
      · exact n (.inl z)
      · rcases putF_mem.mp z with ⟨_, z⟩ | ⟨z1, z2⟩
        · rcases hf b z with y | y
          · exact n (.inr ⟨i, by simp, by rw [Fi]; exact y⟩)
          · rw [y] at q; cases q
        · exact n (.inr ⟨n', by simp, z2⟩)
  · have key : ∀ {y c}, c ∈ fp' → y ≠ i → c ∈ cutF e F y → False := fun {y c} h1 hy h2 => by
      rcases hf c h1 with z | z
      · exact hy (E.ee.disj y i c (cutF_mem.mp h2).2 z)
      · obtain ⟨o, q, _⟩ := E.ee.trk y c (cutF_mem.mp h2).2
        rw [z] at q; cases q
    rcases putF_mem.mp h1 with ⟨a1, a2⟩ | ⟨a1, a2⟩ <;> rcases putF_mem.mp h2 with ⟨b1, b2⟩ | ⟨b1, b2⟩
    · rw [a1, b1]
    · exact (key a2 b1 b2).elim
    · exact (key b2 a1 a2).elim
    · exact E1.ee.disj x y c a2 b2
  · rcases putF_mem.mp h with ⟨_, h⟩ | ⟨_, h⟩
    · exact Ow.there _ _ _ _ o b h
    · exact trkU b (E1.ee.trk j b h)
  · exact trkU b (E.ee.out b h)
  · rcases putF_mem.mp h with ⟨_, h⟩ | ⟨_, h⟩
    · rcases hf b h with y | y
      · exact E.ee.apart i b y z
      · obtain ⟨o, q⟩ := E.ee.out b z
        rw [y] at q; cases q.1
    · exact E1.ee.apart j b h z
  · rcases putF_mem.mp h with ⟨_, h⟩ | ⟨_, h⟩
    · rcases hf b h with y | y
      · exact E.new i b y
      · exact E.same.free y
    · exact E1.new j b h
  · refine keep b o (fun z => ?_) (E.same _ _ q)
    have := E.new i a ha
    rw [← z, q] at this; cases this
end PyL

namespace PyL
open PySem PySem.Spec L2
set_option autoImplicit false

/-- an owned list's entry -/
theorem ER.list {S0 : PA1} {H0 : Hp} {ρ : Ev} {σ : St} {H : Hp} {F : FP} (E : ER S0 H0 ρ σ H F) {i : Nat} {ds : List D} {k : Nat} (h : ρ[i]? = some (some (.lst ds, k + 1))) :
    ∃ a xs fq, σ[i]? = some (some (.ref a)) ∧ H a = some (.lst xs) ∧ AllF (Ow (inS S0 F []) H k) ds xs fq ∧ F i = a :: fq ∧ a ∉ fq := by
  obtain ⟨v, e, a, xs, fq, rfl, ha, al, ef, nd⟩ := E.ee.rep i _ _ h
  exact ⟨a, xs, fq, e, ha, al, ef, nd⟩
/-- the items as frozen ones -/
theorem AllF.frzn {S S' : PA1} {H : Hp} {k : Nat} {ds : List D} {xs : List V} {fq : List Addr} (al : AllF (Ow S H k) ds xs fq) (hs : ∀ a, S' a → S a) (n : ∀ a ∈ fq, ¬ S' a) : RpL S' H ds xs :=
  al.toL fun d x f hf p => Ow.frz (fun a _ _ z => hs a z) k d x f (fun b hb => n b (hf b hb)) p
theorem inS_sub {S0 : PA1} {F : FP} {e : List Nat} {a : Addr} (h : inS S0 F e a) : inS S0 F [] a := inS_mono (e := []) (fun _ h => by cases h) h

/-- an item changed in depth: is the whole as deep as before? -/
def keepK (k : Nat) (r : R) : Bool := decide (1 ≤ k) && (scal r.d || r.k == k)

/-- the list at slot i gets another content; the new items frozen -/
theorem ER.setFrz {S0 : PA1} {H0 : Hp} {ρ : Ev} {σ : St} {H H2 : Hp} {F : FP} (E : ER S0 H0 ρ σ H F) {i : Nat} {ds ds' : List D} {k : Nat} {e : List Nat} (h : ρ[i]? = some (some (.lst ds, k + 1))) (he : i ∉ e) (s : Same H H2) {a : Addr} {xs' : List V} {fq : List Addr}
    (hv : σ[i]? = some (some (.ref a))) (ef : F i = a :: fq) (l : RpL (fun b => inS S0 F (i :: e) b ∨ b = a) H2 ds' xs') : ∃ F', ER S0 H0 ((PyL.frzL e ρ).set i (some (.lst ds', 1))) σ (upd H2 a (.lst xs')) F' := by
  refine ⟨_, E.mutate (d' := .lst ds') (k' := 1) (fp' := [a]) (o' := .lst xs') h hv he s (by rw [ef]; exact List.mem_cons_self) trivial (fun b hb => .inl (by rw [List.mem_singleton.mp hb, ef]; exact List.mem_cons_self)) ?_⟩
  refine ⟨a, xs', [], rfl, upd_same, all_zero (RpL.imp (fun b o q n => ⟨by rw [upd_ne (fun z => n (.inr z))]; exact q, fun z => n (z.imp id fun z => List.mem_singleton.mp z)⟩) _ _ l), rfl, by simp⟩

def appOut (i : Nat) (r : R) (ρ : Ev) : Out := match ρ[i]? with
  | some (some (.lst ds, k + 1)) => if i ∈ r.e then .bad else if ds.length < sizeLine then .nx ((frzL r.e ρ).set i (some (.lst (ds ++ [r.d]), if keepK k r then k + 1 else 1))) else .bad
  | _ => .bad
def ownL (i : Nat) (f : FS) : FS := fun ρ => match ρ[i]? with
  | some (some (.lst _, _ + 1)) => f ρ
  | _ => .bad
theorem ownL_ok {W : WK} {S0 : PA1} {H0 : Hp} {ρ : Ev} {i : Nat} {f : FS} {Dn : Ends} (p : PostS W S0 H0 Dn (ownL i f ρ)) : (∃ ds k, ρ[i]? = some (some (.lst ds, k + 1))) ∧ PostS W S0 H0 Dn (f ρ) := by
  unfold ownL at p
  split at p
  · rename_i ds k h
    exact ⟨⟨ds, k, h⟩, p⟩
  · exact p.elim
def sApp (i : Nat) (f : FE) : FS := ownL i (stE f (appOut i))
section
variable {X : Cx} {W : WK} {e : Expr} {fe : FE} {pos apos cpos npos : Pos} {x : Str}
theorem s_app (i : Nat) (he : PE X e (rdE W fe)) (hp : PE X (.Call (.Attribute (.Name x npos) "append" apos) [e] [] cpos) (tBM X.K "list" rAppend (tVar i) (tCons (rdE W fe) tNil)))
    (hs : swapsWith (.Call (.Attribute (.Name x npos) "append" apos) [e] [] cpos) none pos.line X.env = pure false := by rfl) : PS X (.Expr (.Call (.Attribute (.Name x npos) "append" apos) [e] [] cpos) pos) (rdS W (sApp i fe)) := by
  refine psI (ps_expr hp hs) fun Dn σ H ⟨S0, H0, ρ, F, E, p⟩ => ?_
  -- the list is there whatever the argument yields
  · obtain ⟨⟨ds, k, hi⟩, p⟩ := ownL_ok p
    obtain ⟨a, xs, fq, hv, ha, al, ef, nd⟩ := E.list hi
    refine ⟨.ref a, hv, .inl ⟨rfl, xs, SqL.of ha⟩, ps_bind E p fun r v H1 fp s n vr E1 p1 => ?_⟩
    unfold appOut at p1
    rw [hi] at p1
    simp only at p1
    split at p1
    · exact p1.elim
    · rename_i nie
      split at p1
      · rename_i hz
        have hl := al.length
        refine ⟨a, xs, v, rfl, rfl, s _ _ ha, by rw [← hl]; exact hz, ?_⟩
        have aF : a ∈ F i := by rw [ef]; exact List.mem_cons_self
        have fqF : ∀ b ∈ fq, b ∈ F i := fun b hb => by rw [ef]; exact List.mem_cons_of_mem _ hb
        have aS : inS S0 F r.e a := .inr ⟨i, nie, aF⟩
        by_cases hk : keepK k r = true
        · rw [if_pos hk] at p1
          have hk1 : scal r.d = true ∨ r.k = k := by
            unfold keepK at hk
            simp only [Bool.and_eq_true, Bool.or_eq_true, beq_iff_eq] at hk
            exact hk.2
          have nfp : ∀ b ∈ fp, b ≠ a ∧ b ∉ fq := fun b hb => by
            have nb := n b hb
            refine ⟨fun z => (by rw [z, ha] at nb; cases nb), fun z => ?_⟩
            obtain ⟨o, q, _⟩ := E.ee.trk i b (fqF b z)
            rw [nb] at q; cases q
          obtain ⟨F', E'⟩ : ∃ F', ER S0 H0 ((frzL r.e ρ).set i (some (.lst (ds ++ [r.d]), k + 1))) σ (upd H1 a (.lst (xs ++ [v]))) F' := by
            refine ⟨_, E.mutate (d' := .lst (ds ++ [r.d])) (k' := k + 1) (fp' := a :: (fq ++ fp)) (o' := .lst (xs ++ [v])) hi hv nie s aF trivial (fun b hb => ?_) ?_⟩
            · rcases List.mem_cons.mp hb with z | z
              · exact .inl (z ▸ aF)
              · exact (List.mem_append.mp z).imp (fqF b) (n b)
            · refine ⟨a, xs ++ [v], fq ++ fp, rfl, upd_same, ?_, rfl, fun z => (List.mem_append.mp z).elim nd fun z => (nfp a z).1 rfl⟩
              have kp : ∀ b o, b ≠ a → H1 b = some o → upd H1 a (.lst (xs ++ [v])) b = some o := fun b o hb q => by rw [upd_ne hb]; exact q
              refine AllF.snoc ?_ (al.imp fun d w f hf po => Ow.imp (fun b o q nn => ⟨kp b o (fun z => nn (z ▸ (.inr ⟨i, by simp, aF⟩))) (s _ _ q), fun z => ?_⟩) k d w f (fun b o hb q => kp b o (fun z => nd (z ▸ hf b hb)) (s _ _ q)) po) fun b h1 h2 => (nfp b h2).2 h1
              · have ow : Ow (fun b => inS S0 F (i :: r.e) b ∨ b ∈ a :: (fq ++ fp)) (upd H1 a (.lst (xs ++ [v]))) r.k r.d v fp := by
                  refine Ow.imp (fun b o q nn => ⟨kp b o (fun z => nn (.inl (z ▸ aS))) q, fun z => ?_⟩) _ _ _ _ (fun b o hb q => kp b o (nfp b hb).1 q) vr.ow
                  rcases z with z | z
                  · exact nn (.inl (inS_mono (fun j h => List.mem_cons_of_mem _ h) z))
                  · rcases List.mem_cons.mp z with z | z
                    · exact nn (.inl (z ▸ aS))
                    · rcases List.mem_append.mp z with z | z
                      · exact nn (.inl (.inr ⟨i, nie, fqF b z⟩))
                      · exact nn (.inr z)
                rcases hk1 with z | z
                · obtain ⟨o2, e2⟩ := scal_ow (S' := fun b => inS S0 F (i :: r.e) b ∨ b ∈ a :: (fq ++ fp)) (H' := upd H1 a (.lst (xs ++ [v]))) z ow k
                  have e3 : fp = [] := e2
                  rw [e3] at o2 ⊢
                  exact o2
                · rw [← z]; exact ow
              · rcases z with z | z
                · exact nn (inS_sub z)
                · rcases List.mem_cons.mp z with z | z
                  · exact nn (z ▸ .inr ⟨i, by simp, aF⟩)
                  · rcases List.mem_append.mp z with z | z
                    · exact nn (.inr ⟨i, by simp, fqF b z⟩)
                    · rw [n b z] at q; cases q
          exact p1 _ _ _ E'
        · rw [if_neg hk] at p1
          obtain ⟨F', E'⟩ := E.setFrz (ds' := ds ++ [r.d]) (xs' := xs ++ [v]) hi nie s hv ef (by
            refine RpL.snoc ?_ ?_
            · have l0 : RpL (fun b => inS S0 F (i :: r.e) b ∨ b = a) H ds xs := al.frzn (fun b z => z.elim inS_sub fun z => z ▸ .inr ⟨i, by simp, aF⟩) fun b hb z => z.elim (fun z => by
                rcases z with z | ⟨j, hj, z⟩
                · exact E.ee.apart i b (fqF b hb) z
                · exact hj (by simp [E.ee.disj j i b z (fqF b hb)])) fun z => nd (z ▸ hb)
              exact RpL.imp (fun b o q nn => ⟨s _ _ q, nn⟩) _ _ l0
            · exact Ow.frz (fun b _ _ z => .inl (z.elim (fun z => inS_mono (fun j h => List.mem_cons_of_mem _ h) z) fun z => z ▸ aS)) _ _ _ _ (fun b hb z => z.elim (fun z => E.ee.fresh z (n b hb)) fun z => by
                have nb := n b hb
                rw [z, ha] at nb; cases nb) vr.ow)
          exact p1 _ _ _ E'
      · exact p1.elim
end

/-! x[j] = v -/
def storeOut (i : Nat) (r q : R) (ρ : Ev) : Out := match ρ[i]?, q.d with
  | some (some (.lst ds, k + 1)), .int z => match ixN ds.length z with
    | some j => if i ∈ r.e then .bad else if keepK k r && scal r.d then .nx ((frzL r.e ρ).set i (some (.lst (ds.set j r.d), k + 1))) else .nx ((frzL r.e ρ).set i (some (.lst (ds.set j r.d), 1)))
    | none => .bad
  | _, _ => .bad
def sStore (i : Nat) (fi f : FE) : FS := ownL i (stE f fun r => stE fi fun q => storeOut i r q)
theorem stE_def {f : FE} {g : R → Ev → Out} {ρ : Ev} {r : R} (h : f ρ = .ok r) : stE f g ρ = g r ρ := by unfold stE; rw [h]
section
variable {X : Cx} {W : WK} {e ei : Expr} {fe fi : FE} {pos spos npos : Pos} {x : Str}
theorem s_store (i : Nat) (he : PE X e (rdE W fe)) (hp : PS X (.Assign [.Subscript (.Name x npos) ei spos] e pos) (tAsg (rdE W fe) (L2.gSub (tVar i) (rdE W fi) rSetL))) : PS X (.Assign [.Subscript (.Name x npos) ei spos] e pos) (rdS W (sStore i fi fe)) := by
  refine psI hp fun Dn σ H ⟨S0, H0, ρ, F, E, p⟩ => ?_
  obtain ⟨⟨ds, k, hi⟩, p⟩ := ownL_ok p
  obtain ⟨a, xs, fq, hv, ha, al, ef, nd⟩ := E.list hi
  refine ps_bind E p fun r v H1 fp s n vr E1 p1 => ⟨.ref a, hv, ps_bind E1 p1 fun q w H2 fp2 s2 n2 vq E2 p2 => ?_⟩
  have hl := al.length
  have aF : a ∈ F i := by rw [ef]; exact List.mem_cons_self
  have fqF : ∀ b ∈ fq, b ∈ F i := fun b hb => by rw [ef]; exact List.mem_cons_of_mem _ hb
  unfold storeOut at p2
  rw [hi] at p2
  split at p2
  · rename_i ds' k' z e1 e2
    cases e1
    split at p2
    · rename_i j hj
      have zq := (vq.fz (E1.ee.nin n2 _)).int e2
      have s12 := s.trans s2
      split at p2
      · exact p2.elim
      · rename_i nie
        refine ⟨a, xs, z, j, rfl, zq, s12 _ _ ha, by rw [← hl]; exact hj, ?_⟩
        have hjl : j < ds.length := by
          have := (ixN_seq hj).2.1
          exact this
        have aS : inS S0 F r.e a := .inr ⟨i, nie, aF⟩
        split at p2
        · rename_i hk
          simp only [Bool.and_eq_true] at hk
          obtain ⟨y, f, hy, py, hf, go⟩ := al.at (List.getElem?_eq_getElem hjl)
          have kp : ∀ b o, b ≠ a → H b = some o → upd H2 a (.lst (xs.set j v)) b = some o := fun b o hb q => by rw [upd_ne hb]; exact s12 _ _ q
          have rv : ∀ S' H', Ow S' H' k r.d v [] := fun S' H' => (scal_ow hk.2 vr.ow k).1
          obtain ⟨F', E'⟩ : ∃ F', ER S0 H0 ((frzL r.e ρ).set i (some (.lst (ds.set j r.d), k + 1))) σ (upd H2 a (.lst (xs.set j v))) F' := by
            obtain ⟨fq', al', hfq'⟩ := go (Ow (fun b => inS S0 F (i :: r.e) b ∨ b ∈ F i) (upd H2 a (.lst (xs.set j v))) k) r.d v [] (fun d w g hg _ po => Ow.imp (fun b o q nn => ⟨kp b o (fun z => nn (z ▸ (.inr ⟨i, by simp, aF⟩))) q, fun z => nn (z.elim inS_sub fun z => .inr ⟨i, by simp, z⟩)⟩) k d w g (fun b o hb q => kp b o (fun z => nd (z ▸ hg b hb)) q) po) (rv _ _) (fun b hb => by cases hb)
            have sub : ∀ b ∈ fq', b ∈ fq := fun b hb => (hfq' b hb).elim (fun z => by cases z) fun z => z.1
            refine ⟨_, E.mutate (d' := .lst (ds.set j r.d)) (k' := k + 1) (fp' := a :: fq') (o' := .lst (xs.set j v)) hi hv nie s12 aF trivial (fun b hb => .inl ((List.mem_cons.mp hb).elim (fun z => z ▸ aF) fun z => fqF b (sub b z))) ?_⟩
            refine ⟨a, xs.set j v, fq', rfl, upd_same, ?_, rfl, fun z => nd (sub a z)⟩
            exact al'.imp fun d w g hg po => Ow.imp (fun b o q nn => ⟨q, fun z => nn (z.imp id fun z => (List.mem_cons.mp z).elim (fun (z : b = a) => z ▸ aF) fun z => fqF b (sub b z))⟩) k d w g (fun _ _ _ q => q) po
          exact p2 _ _ _ E'
        · obtain ⟨F', E'⟩ := E.setFrz (ds' := ds.set j r.d) (xs' := xs.set j v) hi nie s12 hv ef (by
            refine RpL.set ?_ j ?_
            · have z0 : Rp (fun b => inS S0 F (i :: r.e) b ∨ b = a) H1 r.d v := Ow.frz (fun b _ _ z => .inl (z.elim (fun z => inS_mono (fun j h => List.mem_cons_of_mem _ h) z) fun z => z ▸ aS)) _ _ _ _ (fun b hb z => z.elim (fun z => E.ee.fresh z (n b hb)) fun z => by
                have nb := n b hb
                rw [z, ha] at nb; cases nb) vr.ow
              exact Rp.imp (fun b o q nn => ⟨s2 _ _ q, nn⟩) _ _ z0
            · have l0 : RpL (fun b => inS S0 F (i :: r.e) b ∨ b = a) H ds xs := al.frzn (fun b z => z.elim inS_sub fun z => z ▸ .inr ⟨i, by simp, aF⟩) fun b hb z => z.elim (fun z => by
                rcases z with z | ⟨j, hj, z⟩
                · exact E.ee.apart i b (fqF b hb) z
                · exact hj (by simp [E.ee.disj j i b z (fqF b hb)])) fun z => nd (z ▸ hb)
              exact RpL.imp (fun b o q nn => ⟨s12 _ _ q, nn⟩) _ _ l0)
          exact p2 _ _ _ E'
    · exact p2.elim
  · exact p2.elim
end

/-! x[j][l] = v, a number, a text .. -/
def store2Out (i : Nat) (r q q2 : R) (ρ : Ev) : Out := match ρ[i]?, q.d, q2.d with
  | some (some (.lst ds, k + 2)), .int z, .int z2 => match ixN ds.length z with
    | some j => match ds[j]? with
      | some (.lst es) => match ixN es.length z2 with
        | some l => if scal r.d then .nx (ρ.set i (some (.lst (ds.set j (.lst (es.set l r.d))), k + 2))) else .bad
        | none => .bad
      | _ => .bad
    | none => .bad
  | _, _, _ => .bad
def own2 (i : Nat) (f : FS) : FS := fun ρ => match ρ[i]? with
  | some (some (.lst _, _ + 2)) => f ρ
  | _ => .bad
theorem own2_ok {W : WK} {S0 : PA1} {H0 : Hp} {ρ : Ev} {i : Nat} {f : FS} {Dn : Ends} (p : PostS W S0 H0 Dn (own2 i f ρ)) : (∃ ds k, ρ[i]? = some (some (.lst ds, k + 2))) ∧ PostS W S0 H0 Dn (f ρ) := by
  unfold own2 at p
  split at p
  · rename_i ds k h
    exact ⟨⟨ds, k, h⟩, p⟩
  · exact p.elim
def rowOk (i : Nat) (q : R) (g : FS) : FS := fun ρ => match ρ[i]?, q.d with
  | some (some (.lst ds, _ + 2)), .int z => match ixN ds.length z with
    | some j => match ds[j]? with
      | some (.lst _) => g ρ
      | _ => .bad
    | none => .bad
  | _, _ => .bad
theorem rowOk_ok {W : WK} {S0 : PA1} {H0 : Hp} {ρ : Ev} {i : Nat} {q : R} {g : FS} {Dn : Ends} {ds : List D} {k : Nat} (hi : ρ[i]? = some (some (.lst ds, k + 2))) (p : PostS W S0 H0 Dn (rowOk i q g ρ)) : (∃ z j es, q.d = .int z ∧ ixN ds.length z = some j ∧ ds[j]? = some (.lst es)) ∧ PostS W S0 H0 Dn (g ρ) := by
  unfold rowOk at p
  rw [hi] at p
  split at p
  · rename_i ds' k' z e1 e2
    cases e1
    split at p
    · rename_i j hj
      split at p
      · rename_i es hes
        exact ⟨⟨z, j, es, e2, hj, hes⟩, p⟩
      · exact p.elim
    · exact p.elim
  · exact p.elim
def sStore2 (i : Nat) (fi fj f : FE) : FS := own2 i (stE f fun r => stE fi fun q => rowOk i q (stE fj fun q2 => store2Out i r q q2))
section
variable {X : Cx} {W : WK} {e ei ej : Expr} {fe fi fj : FE} {pos spos spos2 npos : Pos} {x : Str}
theorem s_store2 (i : Nat) (hp : PS X (.Assign [.Subscript (.Subscript (.Name x npos) ei spos) ej spos2] e pos) (tAsg (rdE W fe) (L2.gSub (tOp (rIxL X.K) (tVar i) (rdE W fi)) (rdE W fj) rSetL))) : PS X (.Assign [.Subscript (.Subscript (.Name x npos) ei spos) ej spos2] e pos) (rdS W (sStore2 i fi fj fe)) := by
  refine psI hp fun Dn σ H ⟨S0, H0, ρ, F, E, p⟩ => ?_
  obtain ⟨⟨ds, k, hi⟩, p⟩ := own2_ok p
  obtain ⟨a, xs, fq, hv, ha, al, ef, nd⟩ := E.list hi
  refine ps_bind E p fun r v H1 fp s n vr E1 p1 => ⟨.ref a, hv, ps_bind E1 p1 fun q w H2 fp2 s2 n2 vq E2 p2 => ?_⟩
  have hl := al.length
  have aF : a ∈ F i := by rw [ef]; exact List.mem_cons_self
  have fqF : ∀ b ∈ fq, b ∈ F i := fun b hb => by rw [ef]; exact List.mem_cons_of_mem _ hb
  -- which row: known once the last index is evaluated
  have zq := vq.fz (E1.ee.nin n2 _)
  have s12 := s.trans s2
  · obtain ⟨⟨z, j, es, ez, hj, hes⟩, p2⟩ := rowOk_ok hi p2
    obtain ⟨y, f, hy, py, hf, go⟩ := al.at hes
    obtain ⟨b, ys, fr, rfl, hb, al2, ef2, nd2⟩ := py
    have hj' : ixN xs.length z = some j := by rw [← hl]; exact hj
    refine ⟨a, xs, z, .ref b, rfl, zq.int ez, SqL.of (s12 _ _ ha), by unfold atI; rw [hj']; exact hy, ps_bind E2 p2 fun q2 w2 H3 fp3 s3 n3 vq2 E3 p3 => ?_⟩
    unfold store2Out at p3
    rw [hi, ez] at p3
    have s13 := s12.trans s3
    cases e2 : q2.d with
    | int z2 =>
      rw [e2] at p3
      simp only [hj, hes] at p3
      cases hl2 : ixN es.length z2 with
      | none => rw [hl2] at p3; exact p3.elim
      | some l =>
        rw [hl2] at p3
        simp only at p3
        split at p3
        · rename_i hs
          have z2q := (vq2.fz (E2.ee.nin n3 _)).int e2
          refine ⟨b, ys, z2, l, rfl, z2q, s13 _ _ hb, by rw [← al2.length]; exact hl2, ?_⟩
          have hll : l < es.length := (ixN_seq hl2).2.1
          have bf : b ∈ f := by rw [ef2]; exact List.mem_cons_self
          have bF : b ∈ F i := fqF b (hf b bf)
          have nab : a ≠ b := fun z => nd (z ▸ hf b bf)
          have kp : ∀ c o, c ≠ b → H c = some o → upd H3 b (.lst (ys.set l v)) c = some o := fun c o hc q => by rw [upd_ne hc]; exact s13 _ _ q
          have rv : ∀ S' H', Ow S' H' k r.d v [] := fun S' H' => (scal_ow hs vr.ow k).1
          obtain ⟨y3, f3, hy3, py3, hf3, go3⟩ := al2.at (List.getElem?_eq_getElem hll)
          have Sx : ∀ c, inS S0 F (i :: []) c ∨ c ∈ F i → inS S0 F [] c := fun c z => z.elim inS_sub fun z => .inr ⟨i, by simp, z⟩
          obtain ⟨fr', al3, hfr'⟩ := go3 (Ow (fun c => inS S0 F (i :: []) c ∨ c ∈ F i) (upd H3 b (.lst (ys.set l v))) k) r.d v [] (fun d w g hg _ po => Ow.imp (fun c o q nn => ⟨kp c o (fun z => nn (z ▸ (.inr ⟨i, by simp, bF⟩))) q, fun z => nn (Sx c z)⟩) k d w g (fun c o hc q => kp c o (fun z => nd2 (z ▸ hg c hc)) q) po) (rv _ _) (fun c hc => by cases hc)
          have sub2 : ∀ c ∈ fr', c ∈ fr := fun c hc => (hfr' c hc).elim (fun z => by cases z) fun z => z.1
          obtain ⟨fq', al4, hfq'⟩ := go (Ow (fun c => inS S0 F (i :: []) c ∨ c ∈ F i) (upd H3 b (.lst (ys.set l v))) (k + 1)) (.lst (es.set l r.d)) (.ref b) (b :: fr') (fun d w g hg hn po => Ow.imp (fun c o q nn => ⟨kp c o (fun z => nn (z ▸ (.inr ⟨i, by simp, bF⟩))) q, fun z => nn (Sx c z)⟩) (k + 1) d w g (fun c o hc q => kp c o (fun z => hn c hc (z ▸ bf)) q) po) ⟨b, ys.set l v, fr', rfl, upd_same, al3, rfl, fun z => nd2 (sub2 b z)⟩ (fun c hc => .inl ((List.mem_cons.mp hc).elim (fun z => z ▸ bf) fun z => by rw [ef2]; exact List.mem_cons_of_mem _ (sub2 c z)))
          have sub4 : ∀ c ∈ fq', c ∈ fq := fun c hc => (hfq' c hc).elim (fun z => (List.mem_cons.mp z).elim (fun z => z ▸ hf b bf) fun z => hf c (by rw [ef2]; exact List.mem_cons_of_mem _ (sub2 c z))) fun z => z.1
          have same_set : xs.set j (.ref b) = xs := by
            apply List.ext_getElem?
            intro m
            by_cases hm : m = j
            · subst hm
              rw [List.getElem?_set_self (List.getElem?_eq_some_iff.mp hy).1, hy]
            · rw [List.getElem?_set_ne (Ne.symm hm)]
          rw [same_set] at al4
          obtain ⟨F', E'⟩ : ∃ F', ER S0 H0 ((PyL.frzL [] ρ).set i (some (.lst (ds.set j (.lst (es.set l r.d))), k + 2))) σ (upd H3 b (.lst (ys.set l v))) F' := by
            refine ⟨_, E.mutate (d' := .lst (ds.set j (.lst (es.set l r.d)))) (k' := k + 2) (e := []) (fp' := a :: fq') (o' := .lst (ys.set l v)) hi hv (by simp) s13 bF trivial (fun c hc => .inl ((List.mem_cons.mp hc).elim (fun z => z ▸ aF) fun z => fqF c (sub4 c z))) ?_⟩
            refine ⟨a, xs, fq', rfl, by rw [upd_ne nab]; exact s13 _ _ ha, ?_, rfl, fun z => nd (sub4 a z)⟩
            exact al4.imp fun d w g hg po => Ow.imp (fun c o q nn => ⟨q, fun z => nn (z.imp id fun z => (List.mem_cons.mp z).elim (fun (z : c = a) => z ▸ aF) fun z => fqF c (sub4 c z))⟩) (k + 1) d w g (fun _ _ _ q => q) po
          exact p3 _ _ _ E'
        · exact p3.elim
    | _ => rw [e2] at p3; exact p3.elim
end
end PyL

namespace PyL
open PySem PySem.Spec L2
set_option autoImplicit false

/-! ### a, b = e -/
theorem EE.put' {S1 : PA1} {ρ : Ev} {σ : St} {H : Hp} {F : FP} {i : Nat} {d : D} {k : Nat} {v : V} {fp : List Addr} (E : EE (fun a => S1 a ∨ a ∈ fp) ρ σ H F) (o : Ow (fun a => inS S1 F [i] a ∨ a ∈ fp) H k d v fp) (n : ∀ a ∈ fp, ¬ S1 a) :
    EE S1 (ρ.set i (some (d, k))) (σ.set i (some v)) H (putF i fp F) := by
  have E1 : EE S1 ρ σ H F := E.ext (Same.refl H) (fun a h => .inl (.inl h)) fun a h => E.out a (.inl h)
  refine E1.put o (fun a ha z => ?_) fun j d' k' w hj h1 h2 ow => ?_
  · rcases z with z | ⟨j, _, z⟩
    · exact n a ha z
    · exact E.apart j a z (.inr ha)
  · obtain ⟨w', e', ow'⟩ := E.rep j d' k' h1
    rw [h2] at e'; cases e'
    refine Ow.imp (fun b o q nn => ⟨q, fun z => nn ?_⟩) _ _ _ _ (fun _ _ _ q => q) ow'
    rcases z with (z | ⟨m, _, z⟩) | z
    · exact .inl (.inl z)
    · exact .inr ⟨m, by simp, z⟩
    · exact .inl (.inr z)
def setTs : List Nat → List D → Nat → Ev → Option Ev
  | [], [], _, ρ => some ρ
  | i :: is, d :: ds, k, ρ => setTs is ds k (ρ.set i (some (d, k)))
  | _, _, _, _ => none
theorem setTs_run {S1 : PA1} {k : Nat} : ∀ (is : List Nat) (ds : List D) (xs : List V) (fp : List Addr) (ρ ρ' : Ev) (F : FP) (σ : St) (H : Hp) (Q : St → Hp → Prop), EE (fun a => S1 a ∨ a ∈ fp) ρ σ H F → (∀ a ∈ fp, ¬ S1 a) → (∀ i a, a ∈ F i → a ∉ fp) →
    (∀ T : PA1, (∀ a, T a → TrM H a) → True) → AllF (Ow (fun a => inS S1 F [] a ∨ a ∈ fp) H k) ds xs fp → setTs is ds k ρ = some ρ' →
    (∀ σ' F', EE S1 ρ' σ' H F' → (∀ i a, a ∈ F' i → a ∈ F i ∨ a ∈ fp ∨ ∃ j, a ∈ F j) → Q σ' H) → gNames is xs σ H Q
  | [], [], xs, fp, ρ, ρ', F, σ, H, Q, E, n, nF, _, ⟨e1, e2⟩, e, q => by
    cases e
    exact ⟨e1, q σ F (E.ext (Same.refl H) (fun a h => .inl (.inl h)) fun a h => E.out a (.inl h)) fun i a h => .inl h⟩
  | [], _ :: _, _, _, _, _, _, _, _, _, _, _, _, _, _, e, _ => by cases e
  | _ :: _, [], _, _, _, _, _, _, _, _, _, _, _, _, _, e, _ => by cases e
  | i :: is, d :: ds, xs, fp, ρ, ρ', F, σ, H, Q, E, n, nF, tt, ⟨x, r, f1, f2, e, o, l, ef, dj⟩, eq, q => by
    refine ⟨x, r, e, ?_⟩
    have E1 : EE (fun a => (S1 a ∨ a ∈ f2) ∨ a ∈ f1) ρ σ H F := E.ext (Same.refl H) (fun a h => .inl (h.elim (fun h => h.imp id fun h => by rw [ef]; exact List.mem_append_right _ h) fun h => .inr (by rw [ef]; exact List.mem_append_left _ h))) fun a h => E.out a (h.elim (fun h => h.imp id fun h => by rw [ef]; exact List.mem_append_right _ h) fun h => .inr (by rw [ef]; exact List.mem_append_left _ h))
    have E2 : EE (fun a => S1 a ∨ a ∈ f2) (ρ.set i (some (d, k))) (σ.set i (some x)) H (putF i f1 F) := by
      refine E1.put' (Ow.imp (fun b o q nn => ⟨q, fun z => nn ?_⟩) _ _ _ _ (fun _ _ _ q => q) o) fun a h1 z => ?_
      · rcases z with ((z | z) | ⟨j, _, z⟩) | z
        · exact .inl (.inl z)
        · exact .inr (by rw [ef]; exact List.mem_append_right _ z)
        · exact .inl (.inr ⟨j, by simp, z⟩)
        · exact .inr (by rw [ef]; exact List.mem_append_left _ z)
      · rcases z with z | z
        · exact n a (by rw [ef]; exact List.mem_append_left _ h1) z
        · exact dj a h1 z
    refine setTs_run is ds r f2 (ρ.set i (some (d, k))) ρ' (putF i f1 F) (σ.set i (some x)) H Q E2 (fun a ha => n a (by rw [ef]; exact List.mem_append_right _ ha)) (fun j a h z => ?_) tt (l.imp fun d v g hg po => Ow.imp (fun b o q nn => ⟨q, fun z => nn ?_⟩) _ _ _ _ (fun _ _ _ q => q) po) eq fun σ' F' E' hF => q σ' F' E' fun j a h => ?_
    · rcases putF_mem.mp h with ⟨_, h⟩ | ⟨_, h⟩
      · exact dj a h z
      · exact nF j a h (by rw [ef]; exact List.mem_append_right _ z)
    · rcases z with (z | ⟨j, _, z⟩) | z
      · exact .inl (.inl z)
      · rcases putF_mem.mp z with ⟨_, z⟩ | ⟨_, z⟩
        · exact .inr (by rw [ef]; exact List.mem_append_left _ z)
        · exact .inl (.inr ⟨j, by simp, z⟩)
      · exact .inr (by rw [ef]; exact List.mem_append_right _ z)
    · have key : ∀ m, a ∈ putF i f1 F m → a ∈ F j ∨ a ∈ fp ∨ ∃ j, a ∈ F j := fun m h => by
        rcases putF_mem.mp h with ⟨_, h⟩ | ⟨_, h⟩
        · exact .inr (.inl (by rw [ef]; exact List.mem_append_left _ h))
        · exact .inr (.inr ⟨m, h⟩)
      rcases hF j a h with h | h | ⟨m, h⟩
      · exact key j h
      · exact .inr (.inl (by rw [ef]; exact List.mem_append_right _ h))
      · exact key m h
def setTOut (is : List Nat) (r : R) (ρ : Ev) : Out := match r.d with
  | .tup ds => match setTs is ds (r.k - 1) (frzL r.e ρ) with
    | some ρ' => .nx ρ'
    | none => .bad
  | _ => .bad
def sSetT (is : List Nat) (f : FE) : FS := stE f (setTOut is)
theorem setTs_len {k : Nat} : ∀ {is : List Nat} {ds : List D} {ρ ρ' : Ev}, setTs is ds k ρ = some ρ' → ds.length = is.length
  | [], [], _, _, _ => rfl
  | [], _ :: _, _, _, h => by cases h
  | _ :: _, [], _, _, h => by cases h
  | i :: is, d :: ds, ρ, ρ', h => by
    have := setTs_len (is := is) (ds := ds) h
    simp [this]
section
variable {X : Cx} {W : WK} {e : Expr} {fe : FE} {pos : Pos} {tg : Expr}
theorem s_setT {is : List Nat} (hp : PS X (.Assign [tg] e pos) (tAsg (rdE W fe) (gTup X.K is.length (gNames is)))) : PS X (.Assign [tg] e pos) (rdS W (sSetT is fe)) := by
  refine psI hp fun Dn σ H ⟨S0, H0, ρ, F, E, p⟩ => ps_bind E p fun r v H1 fp s n vr E1 p1 => ?_
  unfold setTOut at p1
  split at p1
  · rename_i ds hd
    split at p1
    · rename_i ρ' hρ
      have ow := vr.ow
      rw [hd] at ow
      -- the items, owned so deep
      obtain ⟨a, xs, rfl, ha, al⟩ : ∃ a xs, v = .ref a ∧ H1 a = some (.tup xs) ∧ AllF (Ow (fun a => inS S0 F r.e a ∨ a ∈ fp) H1 (r.k - 1)) ds xs fp := by
        cases hk : r.k with
        | zero =>
          rw [hk] at ow
          obtain ⟨⟨a, xs, e, _, h, l⟩, ef⟩ := ow
          exact ⟨a, xs, e, h, by rw [ef] at l ⊢; exact all_zero l⟩
        | succ m =>
          rw [hk] at ow
          obtain ⟨a, xs, e, _, h, al⟩ := ow
          exact ⟨a, xs, e, h, al⟩
      refine ⟨a, xs, rfl, SqT.of ha, by rw [← al.length, setTs_len hρ], ?_⟩
      have Ef := E.frzL r.e
      have trf : ∀ b ∈ fp, TrM H1 b := Ow.there _ _ _ _ vr.ow
      have E2 : EE (fun a => S0 a ∨ a ∈ fp) (frzL r.e ρ) σ H1 (cutF r.e F) := Ef.ee.ext s (fun a h => h.imp id fun h => n a h) fun a h => h.elim (fun h => (E.ee.out a h).grow s) (trf a)
      refine setTs_run is ds xs fp (frzL r.e ρ) ρ' (cutF r.e F) σ H1 _ E2 (fun b hb z => ?_) (fun i b h z => ?_) (fun _ _ => trivial) (al.imp fun d w g _ po => Ow.imp (fun b o q nn => ⟨q, fun z => nn (z.imp (fun z => by have := inS_cut.mp z; rwa [List.append_nil] at this) id)⟩) _ _ _ _ (fun _ _ _ q => q) po) hρ fun σ' F' E' hF => ?_
      · obtain ⟨o, q, _⟩ := E.ee.out b z
        rw [n b hb] at q; cases q
      · obtain ⟨o, q, _⟩ := Ef.ee.trk i b h
        rw [n b z] at q; cases q
      · refine p1 σ' H1 F' ⟨E', fun i b h => ?_, E1.same, E.old⟩
        rcases hF i b h with h | h | ⟨j, h⟩
        · exact Ef.new i b h
        · exact E.same.free (n b h)
        · exact Ef.new j b h
    · exact p1.elim
  · exact p1.elim
end

/-! ### a, b = x, y -/
def stA (f : FA) (g : List R → Ev → Out) : FS := fun ρ => match f ρ with
  | .ok rs => g rs ρ
  | .exn x => .ex x ρ
  | .bad => .bad
theorem ps_abind {W : WK} {S0 : PA1} {H0 : Hp} {ρ : Ev} {F : FP} {σ : St} {H : Hp} {Dn : Ends} {f : FA} {g : List R → Ev → Out} {K : List V → Hp → Prop} (E : ER S0 H0 ρ σ H F) (h : PostS W S0 H0 Dn (stA f g ρ))
    (k : ∀ rs vs H1 fp, Same H H1 → (∀ a ∈ fp, H a = none) → VRL S0 F fp H1 rs vs fp → ER S0 H0 ρ σ H1 F → PostS W S0 H0 Dn (g rs ρ) → K vs H1) : rdA W f σ H K := by
  refine ⟨S0, ρ, F, E.ee, ?_⟩
  unfold stA at h
  cases q : f ρ with
  | ok r =>
    rw [q] at h
    exact fun v H1 fp s n vr => k r v H1 fp s n vr (E.grow s) h
  | exn x => rw [q] at h; exact fun H' s => h σ H' F (E.grow s)
  | bad => rw [q] at h; exact h
/-- a frozen value is stored -/
theorem ER.setF {S0 : PA1} {H0 : Hp} {ρ : Ev} {σ : St} {H : Hp} {F : FP} (E : ER S0 H0 ρ σ H F) {i : Nat} {d : D} {v : V} (r : Rp (inS S0 F []) H d v) : ∃ F', ER S0 H0 (ρ.set i (some (d, 0))) (σ.set i (some v)) H F' ∧ ∀ e a, inS S0 F' e a → inS S0 F e a := by
  obtain ⟨F', E'⟩ := E.assign (i := i) (d := d) (k := 0) (e := []) (fp := []) (Same.refl H) (fun a ha => by cases ha) ⟨Rp.imp (fun b o q n => ⟨q, fun z => z.elim n (fun z => by cases z)⟩) _ _ r, rfl⟩
  have E2 : EE S0 (ρ.set i (some (d, 0))) (σ.set i (some v)) H (putF i [] F) := E.ee.put ⟨Rp.imp (fun b o q n => ⟨q, fun z => z.elim (fun z => n (inS_sub z)) (fun z => by cases z)⟩) _ _ r, rfl⟩ (fun a ha => by cases ha) fun j d' k' w hj h1 h2 ow => Ow.imp (fun b o q n => ⟨q, fun z => z.elim (fun z => n (inS_sub z)) (fun z => by cases z)⟩) _ _ _ _ (fun _ _ _ q => q) ow
  refine ⟨putF i [] F, ⟨E2, fun j a h => ?_, E.same, E.old⟩, fun e a z => ?_⟩
  · rcases putF_mem.mp h with ⟨_, h⟩ | ⟨_, h⟩
    · cases h
    · exact E.new j a h
  · rcases z with z | ⟨j, h1, z⟩
    · exact .inl z
    · rcases putF_mem.mp z with ⟨_, z⟩ | ⟨_, z⟩
      · cases z
      · exact .inr ⟨j, h1, z⟩
def parOut (i j : Nat) (rs : List R) (ρ : Ev) : Out := match rs with
  | [r, q] => .nx (((frzL (esL rs) ρ).set i (some (r.d, 0))).set j (some (q.d, 0)))
  | _ => .bad
def sPar (i j : Nat) (f : FA) : FS := stA f (parOut i j)
section
variable {X : Cx} {W : WK} {st : Stmt} {fa : FA}
theorem s_par {i j : Nat} (hp : PS X st (tPar i j (rdA W fa))) : PS X st (rdS W (sPar i j fa)) := by
  refine psI hp fun Dn σ H ⟨S0, H0, ρ, F, E, p⟩ => ps_abind E p fun rs vs H1 fp s n l E1 p1 => ?_
  have fz := l.fz fun e => E.ee.nin n e
  have rp := fz.rp (E := esL rs) fun r h => esL_mem h
  match rs, rp, p1 with
  | [r, q], ⟨v, t, e1, h1, w, t2, e2, h2, e3⟩, p1 =>
    rw [show t2 = [] from e3] at e2
    subst e2
    refine ⟨v, w, e1, ?_⟩
    have Ef := E1.frzL (esL [r, q])
    have c : ∀ {a}, inS S0 (cutF (esL [r, q]) F) [] a → inS S0 F (esL [r, q]) a := fun z => by have := inS_cut.mp z; rwa [List.append_nil] at this
    obtain ⟨F1, E2, s1⟩ := Ef.setF (i := i) (Rp.imp (fun b o q n => ⟨q, fun z => n (c z)⟩) _ _ h1)
    obtain ⟨F2, E3, s2⟩ := E2.setF (i := j) (Rp.imp (fun b o q n => ⟨q, fun z => n (c (s1 _ _ z))⟩) _ _ h2)
    exact p1 _ _ _ E3
  | [], _, p1 => exact p1.elim
  | [_], _, p1 => exact p1.elim
  | _ :: _ :: _ :: _, _, p1 => exact p1.elim
end

/-! ### pop, reverse, remove, insert -/
def popOut (i : Nat) (tg : FG) (vs : List Nat) (ρ : Ev) : Out := match ρ[i]? with
  | some (some (.lst ds, _ + 1)) => match ds.getLast? with
    | some d => if i ∈ vs then .bad else match tg d (wipeE (ρ.set i (some (.lst ds.dropLast, 1))) vs) with
      | some ρ' => .nx ρ'
      | none => .bad
    | none => .bad
  | _ => .bad
def sPop (i : Nat) (tg : FG) (vs : List Nat) : FS := popOut i tg vs
theorem RpL.dropLast {S : PA1} {H : Hp} {ds : List D} {xs : List V} (l : RpL S H ds xs) : RpL S H ds.dropLast xs.dropLast := by
  rw [List.dropLast_eq_take, List.dropLast_eq_take, l.length]
  exact l.take _
theorem frzL_nil (ρ : Ev) : frzL [] ρ = ρ := rfl
section
variable {X : Cx} {W : WK} {st : Stmt} {fe : FE}
theorem ER.pop {S0 : PA1} {H0 : Hp} {ρ : Ev} {σ : St} {H : Hp} {F : FP} (E : ER S0 H0 ρ σ H F) {i : Nat} {ds : List D} {k : Nat} {d : D} (hi : ρ[i]? = some (some (.lst ds, k + 1))) (hd : ds.getLast? = some d) :
    ∃ a xs y F', σ[i]? = some (some (.ref a)) ∧ H a = some (.lst xs) ∧ xs[xs.length - 1]? = some y ∧ ER S0 H0 (ρ.set i (some (.lst ds.dropLast, 1))) σ (upd H a (.lst xs.dropLast)) F' ∧ Rp (inS S0 F' []) (upd H a (.lst xs.dropLast)) d y := by
  obtain ⟨a, xs, fq, hv, ha, al, ef, nd⟩ := E.list hi
  have aF : a ∈ F i := by rw [ef]; exact List.mem_cons_self
  have fqF : ∀ b ∈ fq, b ∈ F i := fun b hb => by rw [ef]; exact List.mem_cons_of_mem _ hb
  have l0 : RpL (fun b => inS S0 F (i :: []) b ∨ b = a) H ds xs := al.frzn (fun b z => z.elim inS_sub fun z => z ▸ .inr ⟨i, by simp, aF⟩) fun b hb z => z.elim (fun z => by
    rcases z with z | ⟨j, hj, z⟩
    · exact E.ee.apart i b (fqF b hb) z
    · exact hj (by simp [E.ee.disj j i b z (fqF b hb)])) fun z => nd (z ▸ hb)
  have hdl : ds[ds.length - 1]? = some d := by rw [← hd, List.getLast?_eq_getElem?]
  obtain ⟨y, hy, ry⟩ := l0.get hdl
  obtain E' := E.mutate (d' := .lst ds.dropLast) (k' := 1) (e := []) (fp' := [a]) (o' := .lst xs.dropLast) hi hv (by simp) (Same.refl H) aF trivial (fun b hb => .inl (by rw [List.mem_singleton.mp hb]; exact aF)) ⟨a, xs.dropLast, [], rfl, upd_same, all_zero (RpL.imp (fun b o q n => ⟨by rw [upd_ne (fun z => n (.inr z))]; exact q, fun z => n (z.imp id fun z => List.mem_singleton.mp z)⟩) _ _ l0.dropLast), rfl, by simp⟩
  refine ⟨a, xs, y, _, hv, ha, by rw [← l0.length]; exact hy, E', Rp.imp (fun b o q n => ⟨by rw [upd_ne (fun z => n (.inr z))]; exact q, fun z => n ?_⟩) _ _ ry⟩
  rcases z with z | ⟨j, _, z⟩
  · exact .inl (.inl z)
  · rcases putF_mem.mp z with ⟨_, z⟩ | ⟨z1, z2⟩
    · exact .inr (List.mem_singleton.mp z)
    · exact .inl (.inr ⟨j, by simp [z1], (cutF_mem.mp z2).2⟩)
theorem s_pop (i : Nat) {tg : FG} {vs : List Nat} (hp : PS X st (tAsg (tBM0 X.K "list" rPop (tVar i)) (rdG vs tg))) : PS X st (rdS W (sPop i tg vs)) := by
  refine psI hp fun Dn σ H ⟨S0, H0, ρ, F, E, p⟩ => ?_
  unfold sPop popOut at p
  split at p
  · rename_i ds k hi
    split at p
    · rename_i d hd
      split at p
      · exact p.elim
      · rename_i niv
        obtain ⟨a, xs, y, F', hv, ha, hy, E', ry⟩ := E.pop hi hd
        refine ⟨.ref a, hv, .inl ⟨rfl, xs, SqL.of ha⟩, a, xs, y, rfl, rfl, ha, hy, ?_⟩
        cases ht : tg d (wipeE (ρ.set i (some (.lst ds.dropLast, 1))) vs) with
        | none => rw [ht] at p; exact p.elim
        | some ρ' =>
          rw [ht] at p
          refine ⟨S0, _, _, d, E'.ee.drop vs, fun k hk => by simp [cutF, hk], Rp.imp (fun b o q n => ⟨q, fun z => n ?_⟩) _ _ ry, ρ', ht, fun σ' E2 _ _ => p σ' _ _ ⟨E2, fun k b h => E'.new k b (cutF_mem.mp h).2, E'.same, E'.old⟩⟩
          rcases z with z | ⟨j, _, z⟩
          · exact .inl z
          · exact .inr ⟨j, by simp, (cutF_mem.mp z).2⟩
    · exact p.elim
  · exact p.elim
def sRev (i : Nat) : FS := fun ρ => match ρ[i]? with
  | some (some (.lst ds, _ + 1)) => .nx (ρ.set i (some (.lst ds.reverse, 1)))
  | _ => .bad
theorem ER.lst0 {S0 : PA1} {H0 : Hp} {ρ : Ev} {σ : St} {H : Hp} {F : FP} (E : ER S0 H0 ρ σ H F) {i : Nat} {ds : List D} {k : Nat} (e : List Nat) (hi : ρ[i]? = some (some (.lst ds, k + 1))) :
    ∃ a xs fq, σ[i]? = some (some (.ref a)) ∧ H a = some (.lst xs) ∧ F i = a :: fq ∧ RpL (fun b => inS S0 F (i :: e) b ∨ b = a) H ds xs := by
  obtain ⟨a, xs, fq, hv, ha, al, ef, nd⟩ := E.list hi
  have aF : a ∈ F i := by rw [ef]; exact List.mem_cons_self
  have fqF : ∀ b ∈ fq, b ∈ F i := fun b hb => by rw [ef]; exact List.mem_cons_of_mem _ hb
  exact ⟨a, xs, fq, hv, ha, ef, al.frzn (fun b z => z.elim inS_sub fun z => z ▸ .inr ⟨i, by simp, aF⟩) fun b hb z => z.elim (fun z => by
    rcases z with z | ⟨j, hj, z⟩
    · exact E.ee.apart i b (fqF b hb) z
    · exact hj (by simp [E.ee.disj j i b z (fqF b hb)])) fun z => nd (z ▸ hb)⟩
theorem s_rev (i : Nat) (hp : PS X st (tDrop (tBM0 X.K "list" rReverse (tVar i)))) : PS X st (rdS W (sRev i)) := by
  refine psI hp fun Dn σ H ⟨S0, H0, ρ, F, E, p⟩ => ?_
  unfold sRev at p
  split at p
  · rename_i ds k hi
    obtain ⟨a, xs, fq, hv, ha, ef, l⟩ := E.lst0 [] hi
    obtain ⟨F', E'⟩ := E.setFrz (e := []) hi (by simp) (Same.refl H) hv ef l.reverse
    exact ⟨.ref a, hv, .inl ⟨rfl, xs, SqL.of ha⟩, a, xs, rfl, rfl, ha, p _ _ _ E'⟩
  · exact p.elim
def remOut (i : Nat) (r : R) (ρ : Ev) : Out := match ρ[i]?, r.d with
  | some (some (.lst ds, _ + 1)), .int z => match intsOf ds with
    | some ns => if z ∈ ns then .nx (ρ.set i (some (.lst ((ns.erase z).map .int), 1))) else .bad
    | none => .bad
  | _, _ => .bad
def sRem (i : Nat) (f : FE) : FS := ownL i (stE f (remOut i))
theorem s_rem (i : Nat) (hp : PS X st (tDrop (tBM X.K "list" rRemI (tVar i) (tCons (rdE W fe) tNil)))) : PS X st (rdS W (sRem i fe)) := by
  refine psI hp fun Dn σ H ⟨S0, H0, ρ, F, E, p⟩ => ?_
  obtain ⟨⟨ds, k, hi⟩, p⟩ := ownL_ok p
  obtain ⟨a, xs, fq, hv, ha, ef, l⟩ := E.lst0 [] hi
  refine ⟨.ref a, hv, .inl ⟨rfl, xs, SqL.of ha⟩, ps_bind E p fun r v H1 fp s n vr E1 p1 => ?_⟩
  unfold remOut at p1
  rw [hi] at p1
  split at p1
  · rename_i ds' k' z e1 e2
    cases e1
    split at p1
    · rename_i ns hn
      split at p1
      · rename_i hz
        have zq := (vr.fz (E.ee.nin n _)).int e2
        obtain ⟨j, h1, h2, h3, h4⟩ := first_at hz
        have hx := l.ofInts hn
        rw [hx] at ha
        refine ⟨a, ns, z, j, rfl, by rw [zq], s _ _ ha, h2, h3, ?_⟩
        rw [h4]
        obtain ⟨F', E'⟩ := E1.setFrz (e := []) (ds' := (ns.erase z).map .int) (xs' := (ns.erase z).map V.int) hi (by simp) (Same.refl H1) hv ef (RpL.ints _)
        exact p1 _ _ _ E'
      · exact p1.elim
    · exact p1.elim
  · exact p1.elim
end

/-! ### x[j].append(v), x a tuple of one's own -/
def appTOut (i : Nat) (j : Nat) (r : R) (ρ : Ev) : Out := match ρ[i]? with
  | some (some (.tup ds, 2)) => match ds[j]? with
    | some (.lst es) => if i ∈ r.e then .bad else if es.length < sizeLine then .nx ((frzL r.e ρ).set i (some (.tup (ds.set j (.lst (es ++ [r.d]))), 2))) else .bad
    | _ => .bad
  | _ => .bad
def ownT (i j : Nat) (f : FS) : FS := fun ρ => match ρ[i]? with
  | some (some (.tup ds, 2)) => match ds[j]? with
    | some (.lst _) => f ρ
    | _ => .bad
  | _ => .bad
theorem ownT_ok {W : WK} {S0 : PA1} {H0 : Hp} {ρ : Ev} {i j : Nat} {f : FS} {Dn : Ends} (p : PostS W S0 H0 Dn (ownT i j f ρ)) : (∃ ds es, ρ[i]? = some (some (.tup ds, 2)) ∧ ds[j]? = some (.lst es)) ∧ PostS W S0 H0 Dn (f ρ) := by
  unfold ownT at p
  split at p
  · rename_i ds h
    split at p
    · rename_i es h2
      exact ⟨⟨ds, es, h, h2⟩, p⟩
    · exact p.elim
  · exact p.elim
def sAppT (i j : Nat) (f : FE) : FS := ownT i j (stE f (appTOut i j))
section
variable {X : Cx} {W : WK} {st : Stmt} {fe : FE}
theorem s_appT (i j : Nat) (hp : PS X st (tDrop (tBM X.K "list" rAppend (tOp (rIxT X.K) (tVar i) (tC (.int (j : Int)))) (tCons (rdE W fe) tNil)))) : PS X st (rdS W (sAppT i j fe)) := by
  refine psI hp fun Dn σ H ⟨S0, H0, ρ, F, E, p⟩ => ?_
  obtain ⟨⟨ds, es, hi, hj⟩, p⟩ := ownT_ok p
  obtain ⟨v0, hv, a, xs, rfl, nS, ha, al⟩ := E.ee.rep i _ _ hi
  obtain ⟨y, f, hy, py, hf, go⟩ := al.at hj
  obtain ⟨b, ys, fr, rfl, hb, al2, ef2, nd2⟩ := py
  have hat : atI xs (j : Int) = some (.ref b) := atI_nat hy
  refine ⟨.ref a, hv, a, xs, (j : Int), .ref b, rfl, rfl, SqT.of ha, hat, .inl ⟨rfl, ys, SqL.of hb⟩, ps_bind E p fun r v H1 fp s n vr E1 p1 => ?_⟩
  unfold appTOut at p1
  rw [hi] at p1
  simp only [hj] at p1
  split at p1
  · exact p1.elim
  · rename_i nie
    split at p1
    · rename_i hz
      have bf : b ∈ f := by rw [ef2]; exact List.mem_cons_self
      have bF : b ∈ F i := hf b bf
      have bS : inS S0 F r.e b := .inr ⟨i, nie, bF⟩
      have fr0 : fr = [] := by
        have : ∀ {ds : List D} {xs : List V} {fp : List Addr} {S : PA1} {K : Hp}, AllF (Ow S K 0) ds xs fp → fp = [] := by
          intro ds
          induction ds with
          | nil => intro xs fp S K h; exact h.2
          | cons d ds ih => intro xs fp S K h; obtain ⟨x, r, f1, f2, e, p, q, ef, dj⟩ := h; rw [ef, p.2, ih q]; rfl
        exact this al2
      subst fr0
      refine ⟨b, ys, v, rfl, rfl, s _ _ hb, by rw [← al2.length]; exact hz, ?_⟩
      have kp : ∀ c o, c ≠ b → H c = some o → upd H1 b (.lst (ys ++ [v])) c = some o := fun c o hc q => by rw [upd_ne hc]; exact s _ _ q
      have Sx : ∀ c, inS S0 F (i :: r.e) c ∨ c ∈ F i → inS S0 F [] c := fun c z => z.elim inS_sub fun z => .inr ⟨i, by simp, z⟩
      have vz : Rp (fun c => inS S0 F (i :: r.e) c ∨ c ∈ F i) H1 r.d v := Ow.frz (fun c _ _ z => .inl (z.elim (fun z => inS_mono (fun j h => List.mem_cons_of_mem _ h) z) fun z => .inr ⟨i, nie, z⟩)) _ _ _ _ (fun c hc z => z.elim (fun z => E.ee.fresh z (n c hc)) fun z => by
        obtain ⟨o, q, _⟩ := E.ee.trk i c z
        rw [n c hc] at q; cases q) vr.ow
      obtain ⟨fq', al4, hfq'⟩ := go (Ow (fun c => inS S0 F (i :: r.e) c ∨ c ∈ F i) (upd H1 b (.lst (ys ++ [v]))) 1) (.lst (es ++ [r.d])) (.ref b) [b] (fun d w g hg hn po => Ow.imp (fun c o q nn => ⟨kp c o (fun z => nn (z ▸ (.inr ⟨i, by simp, bF⟩))) q, fun z => nn (Sx c z)⟩) 1 d w g (fun c o hc q => kp c o (fun z => hn c hc (z ▸ bf)) q) po)
        ⟨b, ys ++ [v], [], rfl, upd_same, all_zero (RpL.snoc (al2.toL fun d w g _ po => Rp.imp (fun c o q nn => ⟨kp c o (fun z => nn (z ▸ (.inr ⟨i, by simp, bF⟩))) q, fun z => nn (Sx c z)⟩) _ _ po.1) (Rp.imp (fun c o q nn => ⟨by rw [upd_ne (fun (z : c = b) => nn (.inr (z ▸ bF)))]; exact q, nn⟩) _ _ vz)), rfl, by simp⟩ (fun c hc => .inl ((List.mem_singleton.mp hc) ▸ bf))
      have sub4 : ∀ c ∈ fq', c ∈ F i := fun c hc => (hfq' c hc).elim (fun z => (List.mem_singleton.mp z) ▸ bF) fun z => z.1
      have same_set : xs.set j (.ref b) = xs := by
        apply List.ext_getElem?
        intro m
        by_cases hm : m = j
        · subst hm
          rw [List.getElem?_set_self (List.getElem?_eq_some_iff.mp hy).1, hy]
        · rw [List.getElem?_set_ne (Ne.symm hm)]
      rw [same_set] at al4
      have nab : a ≠ b := fun z => by rw [z, hb] at ha; cases ha
      obtain ⟨F', E'⟩ : ∃ F', ER S0 H0 ((PyL.frzL r.e ρ).set i (some (.tup (ds.set j (.lst (es ++ [r.d]))), 2))) σ (upd H1 b (.lst (ys ++ [v]))) F' := by
        refine ⟨_, E.mutate (d' := .tup (ds.set j (.lst (es ++ [r.d])))) (k' := 2) (fp' := fq') (o' := .lst (ys ++ [v])) hi hv nie s bF trivial (fun c hc => .inl (sub4 c hc)) ?_⟩
        refine ⟨a, xs, rfl, fun z => ?_, by rw [upd_ne nab]; exact s _ _ ha, al4.imp fun d w g hg po => Ow.imp (fun c o q nn => ⟨q, fun z => nn (z.imp id (sub4 c))⟩) 1 d w g (fun _ _ _ q => q) po⟩
        exact (E.ee.inTr (z.elim inS_sub fun z => .inr ⟨i, by simp, sub4 a z⟩ : inS S0 F [] a)).notTup ha
      exact p1 _ _ _ E'
    · exact p1.elim
end
end PyL

namespace PyL
open PySem PySem.Spec L2
set_option autoImplicit false

/-! ### isinstance(x, T), T one of the model's own -/
def tyD : D → String
  | .non => "NoneType"
  | .bl _ => "bool"
  | .int _ => "int"
  | .str _ => "str"
  | .lst _ => "list"
  | .tup _ => "tuple"
  | .dK _ => "dict"
  | .dT _ => "dict"
  | .scr _ _ => "list"
  | .exc _ _ _ _ _ => "object"
def isTy (T : String) (d : D) : Bool := match d with
  | .bl _ => T == "bool" || T == "int"
  | d => tyD d == T
def isScr (d : D) : Bool := match d with
  | .scr _ _ => true
  | .exc _ _ _ _ _ => true
  | _ => false
def gIsi (T : String) (r : R) : Res R := if isScr r.d then .bad else okB (isTy T r.d)
def fIsi (T : String) (f : FE) : FE := fun ρ => (f ρ).bind (gIsi T)
theorem Rp.ty {K : PySem.W.Frag} {S : PA1} {H : Hp} : ∀ {d : D} {v : V}, isScr d = false → Rp S H d v → TyX K H v (.type (tyD d))
  | .non, _, _, h => by cases h; exact .base .non
  | .bl b, _, _, h => by cases h; exact .base (.bl b)
  | .int i, _, _, h => by cases h; exact .base (.int i)
  | .str x, _, _, h => by cases h; exact .base (.str x)
  | .lst ds, _, _, ⟨a, xs, e, _, h, _⟩ => by rw [e]; exact .base (.lst h)
  | .tup ds, _, _, ⟨a, xs, e, _, h, _⟩ => by rw [e]; exact .base (.tup h)
  | .dK kvs, _, _, ⟨a, e, _, h⟩ => by rw [e]; exact .base (.dK h)
  | .dT kvs, _, _, ⟨a, e, _, h⟩ => by rw [e]; exact .base (.dT h)
  | .scr _ _, _, h, _ => by simp [isScr] at h
  | .exc _ _ _ _ _, _, h, _ => by simp [isScr] at h
/-- the answers for the types that are asked -/
def TyAsk (T : String) : Prop := T = "int" ∨ T = "bool" ∨ T = "list" ∨ T = "tuple" ∨ T = "str"
theorem kit_ans (K : PySem.W.Frag) {T : String} (hT : TyAsk T) : ∀ d : D, PySem.W.kitOne K (.type (tyD d)) (.type T) = some (isTy T d) := by
  rcases hT with rfl | rfl | rfl | rfl | rfl <;> intro d <;> cases d <;> rfl
section
variable {X : Cx} {W : WK} {a : Expr} {fa : FE} {p pt pos : Pos} {T : String} {x : Str}
theorem e_isi (hT : TyAsk T) (hg : Gl X "isinstance") (hm : X.mg "isinstance" = none) (hgT : Gl X x) (hmT : X.mg x = none) (hvT : bootBuiltins x = some (.type T)) (ha : PE X a (rdE W fa)) (hnT : x ≠ "__name__" := by decide) (hdT : (x == ("__debug__" : Str)) = false := by decide)
    (h1 : starEach [a, .Name x pt] X.env = (false, eval a X.env) :: starEach [.Name x pt] X.env := by rfl) (h2 : starEach [.Name x pt] X.env = (false, eval (.Name x pt) X.env) :: starEach [] X.env := by rfl)
    (hpl : (backTo pos (starEach [.Name x pt] X.env)).any (·.1) = false := by rfl) : PE X (.Call (.Name "isinstance" p) [a, .Name x pt] [] pos) (rdE W (fIsi T fa)) :=
  peI (pe_callB call_isi hg hm PyProof.Rows.boot_isinstance (pa_cons ha (pa_cons (pe_bltn (v := .ty T) hgT hmT hvT rfl hnT hdT) pa_nil h2) h1) (by decide) (by decide) h1 hpl) fun σ H Q ⟨S0, ρ, F, E, q⟩ => post_bind E q fun r v H1 fp s1 n1 v1 E1 p1 => by
    have z := v1.fz (E.nin n1 _)
    unfold gIsi at p1
    split at p1
    · exact p1.elim
    · rename_i hsc
      have hsc : isScr r.d = false := by simpa using hsc
      exact ⟨v, .ty T, _, _, _, rfl, .ty T, Rp.ty hsc z.rp, kit_ans X.K hT r.d, okB_post p1⟩
end

/-! ### list(range(..)) -/
def lrg (lo hi : Int) : Res R := if -(2 ^ 62) ≤ lo ∧ lo < 2 ^ 62 ∧ -(2 ^ 62) ≤ hi ∧ hi < 2 ^ 62 ∧ (hi - lo).toNat ≤ 2 ^ 24 then .ok ⟨.lst (rgD lo (hi - lo).toNat), 1, [], []⟩ else .bad
def gLR1 (r : R) : Res R := match r.d with
  | .int j => lrg 0 j
  | _ => .bad
def gLR2 (r q : R) : Res R := match r.d, q.d with
  | .int i, .int j => lrg i j
  | _, _ => .bad
def fLR1 (f : FE) : FE := fun ρ => (f ρ).bind gLR1
def fLR2 (f g : FE) : FE := fun ρ => (f ρ).bind fun r => (g ρ).bind fun q => gLR2 r q
theorem rgD_ints (lo : Int) (n : Nat) : rgD lo n = ((List.range n).map fun i : Nat => lo + (i : Int)).map .int := by unfold rgD; rw [List.map_map]; rfl
theorem rgV_ints (a b : Int) : rgV a b = ((List.range (b - a).toNat).map fun i : Nat => a + (i : Int)).map V.int := by unfold rgV; rw [List.map_map]; rfl
theorem lrg_post {W : WK} {S0 : PA1} {ρ : Ev} {F : FP} {σ : St} {H : Hp} {Q : VK} {lo hi : Int} (E : EE S0 ρ σ H F) (h : Post W S0 F σ H Q (lrg lo hi)) : RgOk lo hi ∧ ∀ q, H q = none → Q (.ref q) (upd H q (.lst (rgV lo hi))) := by
  unfold lrg at h
  split at h
  · rename_i hb
    refine ⟨hb, post_lst E h ?_⟩
    rw [rgD_ints, rgV_ints]
    exact RpL.ints _
  · exact h.elim
section
variable {X : Cx} {W : WK} {a b : Expr} {fa fb : FE} {p p2 pos pos2 : Pos}
theorem e_lr1 (hc : X.calm = true) (hg : Gl X "list") (hm : X.mg "list" = none) (hg2 : Gl X "range") (hm2 : X.mg "range" = none) (ha : PE X a (rdE W fa)) (na : starEach [a] X.env = (false, eval a X.env) :: starEach [] X.env := by rfl)
    (nb : starEach [.Call (.Name "range" p2) [a] [] pos2] X.env = (false, eval (.Call (.Name "range" p2) [a] [] pos2) X.env) :: starEach [] X.env := by rfl) : PE X (.Call (.Name "list" p) [.Call (.Name "range" p2) [a] [] pos2] [] pos) (rdE W (fLR1 fa)) :=
  peI (pe_listRg hc hg hm (prg_1 hg2 hm2 ha na) nb) fun σ H Q ⟨S0, ρ, F, E, q⟩ => post_bind E q fun r v H1 fp s1 n1 v1 E1 p1 => by
    have z := v1.fz (E.nin n1 _)
    unfold gLR1 at p1
    split at p1
    · rename_i j e
      exact ⟨j, z.int e, lrg_post E1 p1⟩
    · exact p1.elim
theorem e_lr2 (hc : X.calm = true) (hg : Gl X "list") (hm : X.mg "list" = none) (hg2 : Gl X "range") (hm2 : X.mg "range" = none) (ha : PE X a (rdE W fa)) (hb : PE X b (rdE W fb)) (na : starEach [a, b] X.env = (false, eval a X.env) :: starEach [b] X.env := by rfl) (nb : starEach [b] X.env = (false, eval b X.env) :: starEach [] X.env := by rfl)
    (hp : (backTo pos2 (starEach [b] X.env)).any (·.1) = false := by rfl)
    (nc : starEach [.Call (.Name "range" p2) [a, b] [] pos2] X.env = (false, eval (.Call (.Name "range" p2) [a, b] [] pos2) X.env) :: starEach [] X.env := by rfl) : PE X (.Call (.Name "list" p) [.Call (.Name "range" p2) [a, b] [] pos2] [] pos) (rdE W (fLR2 fa fb)) :=
  peI (pe_listRg hc hg hm (prg_2 hg2 hm2 ha hb na nb hp) nc) fun σ H Q ⟨S0, ρ, F, E, q⟩ => post_bind E q fun r v H1 fp s1 n1 v1 E1 p1 => post_bind E1 p1 fun r2 w H2 fp2 s2 n2 v2 E2 p2 => by
    have z := v1.fz (E.nin n1 _)
    have z2 := v2.fz (E1.nin n2 _)
    unfold gLR2 at p2
    split at p2
    · rename_i i j e1 e2
      exact ⟨i, j, z.int e1, z2.int e2, lrg_post E2 p2⟩
    · exact p2.elim
end

/-! ### x[::-1] -/
def gRevL (r : R) : Res R := match r.d with
  | .lst ds => .ok ⟨.lst ds.reverse, 1, r.c, r.c⟩
  | _ => .bad
def fRevL (f : FE) : FE := fun ρ => (f ρ).bind gRevL
section
variable {X : Cx} {W : WK} {a : Expr} {fa : FE} {p1 p2 p3 pos : Pos} {k : Nat}
theorem e_rev (ha : PE X a (rdE W fa)) : PE X (.Subscript a (.Slice none none (some (.UnaryOp .USub (.Constant (.int 1) k p1) p2)) p3) pos) (rdE W (fRevL fa)) :=
  peI (pe_revL ha) fun σ H Q ⟨S0, ρ, F, E, q⟩ => post_bind E q fun r v H1 fp s1 n1 v1 E1 p1 => by
    have z := v1.fz (E.nin n1 _)
    unfold gRevL at p1
    split at p1
    · rename_i ds e
      obtain ⟨b, us, rfl, hb, lb⟩ := z.lst e
      exact ⟨b, us, rfl, SqL.of hb, post_lst E1 p1 lb.reverse⟩
    · exact p1.elim
end

/-! ### x.index(v) -/
mutual
def noS : D → Bool
  | .str _ => false
  | .lst ds => noSL ds
  | .tup ds => noSL ds
  | _ => true
def noSL : List D → Bool
  | [] => true
  | d :: ds => noS d && noSL ds
end
mutual
theorem lay_of : ∀ (n : Nat) (d : D), pln n d = true → noS d = true → (toPy d).canLay0 = true
  | _, .non, _, _ => rfl
  | _, .bl _, _, _ => rfl
  | _, .int _, _, _ => rfl
  | _, .str _, _, h => by simp [noS] at h
  | n, .lst ds, h, h2 => by
    cases n with
    | zero => simp [pln] at h
    | succ n => exact lay_ofL n ds (by simpa [pln] using h) (by simpa [noS] using h2)
  | n, .tup ds, h, h2 => by
    cases n with
    | zero => simp [pln] at h
    | succ n => exact lay_ofL n ds (by simpa [pln] using h) (by simpa [noS] using h2)
  | _, .dK _, h, _ => by simp [pln] at h
  | _, .dT _, h, _ => by simp [pln] at h
  | _, .scr _ _, h, _ => by simp [pln] at h
  | _, .exc _ _ _ _ _, h, _ => by simp [pln] at h
theorem lay_ofL : ∀ (n : Nat) (ds : List D), plnL n ds = true → noSL ds = true → PyData.canLayAll0 (toPyL ds) = true
  | _, [], _, _ => rfl
  | n, d :: ds, h, h2 => by
    simp only [plnL, noSL, Bool.and_eq_true] at h h2
    simp only [toPyL, PyData.canLayAll0, Bool.and_eq_true]
    exact ⟨lay_of n d h.1 h2.1, lay_ofL n ds h.2 h2.2⟩
end
theorem shaped_of {d : D} (h : pln 60 d = true) (h2 : noS d = true) : SeqAt.shaped (toPy d) = true := by
  unfold SeqAt.shaped
  rw [lay_of 60 d h h2, decide_eq_true (by have := (pln_plain 60 d h).2; omega)]
  rfl
theorem shaped_ofL {ds : List D} (h : plnL 60 ds = true) (h2 : noSL ds = true) : SeqAt.shaped (.list (toPyL ds)) = true := by
  unfold SeqAt.shaped
  have e : PyData.canLay0 (.list (toPyL ds)) = true := lay_ofL 60 ds h h2
  have d : (PyData.list (toPyL ds)).depth ≤ 64 := by
    have := (plnL_plain 60 ds h).2
    show PyData.depthAll (toPyL ds) + 1 ≤ 64
    omega
  rw [e, decide_eq_true d]
  rfl
def fidx (d : D) : List D → Option Nat
  | [] => none
  | x :: xs => if deq x d then some 0 else (fidx d xs).map (· + 1)
theorem fidx_spec {d : D} : ∀ {ds : List D} {j : Nat}, fidx d ds = some j → (∃ z, ds[j]? = some z ∧ deq z d = true) ∧ ∀ (m : Nat) z, m < j → ds[m]? = some z → deq z d = false
  | [], _, h => by cases h
  | x :: xs, j, h => by
    unfold fidx at h
    split at h
    · rename_i hx
      cases h
      exact ⟨⟨x, rfl, hx⟩, fun m z hm => absurd hm (Nat.not_lt_zero m)⟩
    · rename_i hx
      cases q : fidx d xs with
      | none => rw [q] at h; cases h
      | some i =>
        rw [q] at h
        have h : i + 1 = j := by simpa using h
        subst h
        obtain ⟨⟨z, h1, h2⟩, h3⟩ := fidx_spec q
        refine ⟨⟨z, by simpa using h1, h2⟩, fun m z' hm hz => ?_⟩
        cases m with
        | zero => have : x = z' := by simpa using hz
                  rw [← this]; simpa using hx
        | succ m => exact h3 m z' (by omega) (by simpa using hz)
theorem toPyL_get : ∀ (ds : List D) (j : Nat), (toPyL ds)[j]? = ds[j]?.map toPy
  | [], j => by simp [toPyL]
  | d :: ds, 0 => by simp [toPyL]
  | d :: ds, j + 1 => by simp [toPyL, toPyL_get ds j]
theorem plnL_get : ∀ {n : Nat} {ds : List D} {j : Nat} {z : D}, plnL n ds = true → ds[j]? = some z → pln n z = true
  | _, [], _, _, _, h => by simp at h
  | n, d :: ds, 0, z, h, hz => by
    simp only [plnL, Bool.and_eq_true] at h
    have : d = z := by simpa using hz
    rw [← this]; exact h.1
  | n, d :: ds, j + 1, z, h, hz => by
    simp only [plnL, Bool.and_eq_true] at h
    exact plnL_get h.2 (by simpa using hz)
def gIndex (r q : R) : Res R := match r.d with
  | .lst ds => if pln 60 q.d && noS q.d && plnL 60 ds && noSL ds then match fidx q.d ds with
      | some j => okI (j : Nat)
      | none => .bad
    else .bad
  | _ => .bad
/-- the receiver must be a list ahead of the argument -/
def isL (r : R) : Bool := match r.d with
  | .lst _ => true
  | _ => false
def fIndex (f g : FE) : FE := fun ρ => (f ρ).bind fun r => if isL r then (g ρ).bind fun q => gIndex r q else .bad
section
variable {X : Cx} {W : WK} {a b : Expr} {fa fb : FE} {apos cpos : Pos}
theorem e_index (hu : X.A.units + 62 < cLine) (hp : PE X (.Call (.Attribute a "index" apos) [b] [] cpos) (tBM X.K "list" (rIndexD X.K) (rdE W fa) (tCons (rdE W fb) tNil))) : PE X (.Call (.Attribute a "index" apos) [b] [] cpos) (rdE W (fIndex fa fb)) :=
  peI hp fun σ H Q ⟨S0, ρ, F, E, q⟩ => post_bind E q fun r v H1 fp s1 n1 v1 E1 p1 => by
    split at p1
    · rename_i hL
      have z := v1.fz (E.nin n1 _)
      unfold isL at hL
      split at hL
      · rename_i ds hd
        obtain ⟨a', xs, rfl, ha, l⟩ := z.lst hd
        refine ⟨.inl ⟨rfl, xs, SqL.of ha⟩, post_bind E1 p1 fun r2 w H2 fp2 s2 n2 v2 E2 p2 => ?_⟩
        have z2 := v2.fz (E1.nin n2 _)
        unfold gIndex at p2
        rw [hd] at p2
        simp only at p2
        split at p2
        · rename_i hc
          simp only [Bool.and_eq_true] at hc
          obtain ⟨⟨⟨c1, c2⟩, c3⟩, c4⟩ := hc
          split at p2
          · rename_i j hj
            obtain ⟨⟨y, h1, h2⟩, h3⟩ := fidx_spec hj
            have zr : Rp (inS S0 F r.e) H2 (.lst ds) (.ref a') := by have := (z.grow s2).rp; rw [hd] at this; exact this
            refine ⟨a', w, toPy r2.d, toPyL ds, j, toPy y, rfl, rfl, ?_, Rp.dp 60 _ _ c1 z2.rp, shaped_ofL c3 c4, shaped_of c1 c2, by rw [toPyL_get, h1]; rfl, by rw [deq_py 60 _ _ (plnL_get c3 h1) c1]; exact h2, fun m z' hm hz => ?_, okI_post p2⟩
            · exact .lst (SqL.of (s2 _ _ ha)) (RpL.dp 60 ds xs c3 (RpL.imp (fun b o q n => ⟨s2 _ _ q, n⟩) _ _ l))
            · rw [toPyL_get] at hz
              cases hm2 : ds[m]? with
              | none => rw [hm2] at hz; cases hz
              | some t =>
                rw [hm2] at hz
                cases hz
                rw [deq_py 60 _ _ (plnL_get c3 hm2) c1]
                exact h3 m t hm hm2
          · exact p2.elim
        · exact p2.elim
      · cases hL
    · exact p1.elim
end

/-! ### sorted(x), ints -/
def insS (x : Int) : List Int → List Int
  | [] => [x]
  | y :: r => if x ≤ y then x :: y :: r else y :: insS x r
def isort : List Int → List Int
  | [] => []
  | x :: r => insS x (isort r)
theorem insS_perm (x : Int) : ∀ l : List Int, (insS x l).Perm (x :: l)
  | [] => .refl _
  | y :: r => by
    unfold insS
    split
    · exact .refl _
    · exact ((insS_perm x r).cons y).trans (.swap x y r)
theorem isort_perm : ∀ l : List Int, (isort l).Perm l
  | [] => .refl _
  | x :: r => (insS_perm x (isort r)).trans ((isort_perm r).cons x)
theorem insS_sorted (x : Int) : ∀ {l : List Int}, l.Pairwise (· ≤ ·) → (insS x l).Pairwise (· ≤ ·)
  | [], _ => List.pairwise_singleton _ _
  | y :: r, h => by
    obtain ⟨h1, h2⟩ := List.pairwise_cons.mp h
    unfold insS
    split
    · rename_i hx
      exact List.pairwise_cons.mpr ⟨fun z hz => (List.mem_cons.mp hz).elim (fun e => e ▸ hx) fun hz => Int.le_trans hx (h1 z hz), h⟩
    · rename_i hx
      refine List.pairwise_cons.mpr ⟨fun z hz => ?_, insS_sorted x h2⟩
      rcases List.mem_cons.mp ((insS_perm x r).mem_iff.mp hz) with e | hz
      · rw [e]; omega
      · exact h1 z hz
theorem isort_sorted : ∀ l : List Int, (isort l).Pairwise (· ≤ ·)
  | [] => .nil
  | x :: r => insS_sorted x (isort_sorted r)
theorem sorted_uniq : ∀ {a b : List Int}, a.Perm b → a.Pairwise (· ≤ ·) → b.Pairwise (· ≤ ·) → a = b
  | [], b, p, _, _ => (List.nil_perm.mp p).symm
  | x :: a, [], p, _, _ => absurd p.length_eq (by simp)
  | x :: a, y :: b, p, h1, h2 => by
    obtain ⟨g1, g2⟩ := List.pairwise_cons.mp h1
    obtain ⟨k1, k2⟩ := List.pairwise_cons.mp h2
    have e : x = y := by
      have hx : x ∈ y :: b := p.mem_iff.mp List.mem_cons_self
      have hy : y ∈ x :: a := p.mem_iff.mpr List.mem_cons_self
      rcases List.mem_cons.mp hx with e | hx
      · exact e
      · rcases List.mem_cons.mp hy with e | hy
        · exact e.symm
        · have := g1 y hy
          have := k1 x hx
          omega
    subst e
    rw [sorted_uniq ((List.perm_cons x).mp p) g2 k2]
def gSorted := onInts fun ns => .ok ⟨.lst ((isort ns).map .int), 1, [], []⟩
theorem ok_sorted {K : PySem.W.Frag} : BOk (rSortedI K) gSorted := by
  intro S0 ρ σ H F W rs vs Q E l p
  obtain ⟨a, ns, e, ha, q⟩ := onInts_ok l p
  refine ⟨a, ns, e, SqL.of ha, fun ns' b h1 h2 nb => ?_⟩
  have : ns' = isort ns := sorted_uniq (h1.trans (isort_perm ns).symm) h2 (isort_sorted ns)
  subst this
  exact post_lst E q (RpL.ints _) b nb

/-! ### for .. in reversed(..) -/
def revI (r : R) : Res IR := match r.d with
  | .lst ds => .ok ⟨ds.reverse, r.e, r.c⟩
  | _ => .bad
def fRevI (f : FA) : FI := fun ρ => (f ρ).bind (on1I revI)
theorem jok_rev {K : PySem.W.Frag} {Se Sc : PA1} {H : Hp} {a : Addr} {xs : List V} {ds : List D} (n : ¬ Se a) (h : H a = some (.lst xs)) (l : RpL Sc H ds xs) : JOk Se Sc (Itv K a xs.length) ds.reverse H := fun H' k1 i => by
  have h' : SqL K H' a xs := SqL.of (k1 a _ h n)
  refine ⟨fun hi => (show xs.length ≤ i by rw [List.length_reverse, l.length] at hi; exact hi), fun d hd => ?_⟩
  have hi : i < ds.length := by
    have := (List.getElem?_eq_some_iff.mp hd).1
    rwa [List.length_reverse] at this
  have hd' : ds[ds.length - 1 - i]? = some d := by rw [← hd, List.getElem?_reverse hi]
  obtain ⟨x, hx, _⟩ := l.get hd'
  rw [l.length] at hx
  refine ⟨⟨by rw [← l.length]; exact hi, xs, x, h', hx⟩, fun y H3 hy => ?_⟩
  obtain ⟨e, hy⟩ := hy
  have := hy xs h'
  rw [hx] at this
  cases this
  rw [e]
  refine ⟨Same.refl _, fun S' k2 _ => ?_⟩
  obtain ⟨z, hz, rz⟩ := (RpL.imp k2 _ _ l).get hd'
  rw [l.length, hx] at hz; cases hz
  exact rz
section
variable {X : Cx} {W : WK} {tg a : Expr} {fa : FA} {fe : FE} {p p2 pos pos2 : Pos}
theorem i_rev (hg : Gl X "reversed") (hm : X.mg "reversed" = none) (ha : PA X [a] (rdA W fa)) (hs : starEach [a] X.env = [(false, eval a X.env)] := by rfl) : PI X tg (.Call (.Name "reversed" p) [a] [] pos) (rdI W (fRevI fa)) := by
  refine piI (pi_reversed hg hm ha hs) fun σ H Rk ⟨S0, ρ, F, E, p⟩ => postI_args E p fun rs vs H1 fp s1 n1 l1 E1 p1 => ?_
  have fz := l1.fz fun e => E.nin n1 e
  match rs, fz with
  | [r], ⟨v, t, e, z, et⟩ =>
    rw [show t = [] from et] at e
    subst e
    have p1 : PostI W S0 F σ H1 Rk (revI r) := p1
    unfold revI at p1
    split at p1
    · rename_i ds hd
      have rp := z.rp
      rw [hd] at rp
      obtain ⟨a', xs, rfl, na, ha', _⟩ := rp
      obtain ⟨a2, xs2, ea, ha2, l⟩ := z.lst hd
      cases ea
      have : xs2 = xs := by rw [ha'] at ha2; cases ha2; rfl
      subst this
      exact ⟨a', xs2, rfl, SqL.of ha', p1 _ H1 (Same.refl H1) (jok_rev na ha' l)⟩
    · exact p1.elim
  | [], _ => exact p1.elim
  | _ :: _ :: _, _ => exact p1.elim
end
end PyL

namespace PyL
open PySem PySem.Spec L2
set_option autoImplicit false

/-! ### what the top has written -/
/-- a def by its name -/
def TopF (K : PySem.W.Frag) (mg : Str → Option Value) (x : Str) (st : Stmt) : Prop :=
  ∃ (f : Addr) (fd : FuncData), Fun K x x st f fd ∧ mg x = some (.ref f)
/-- a def by another name -/
def TopG (K : PySem.W.Frag) (mg : Str → Option Value) (g x : Str) (st : Stmt) : Prop :=
  ∃ (f : Addr) (fd : FuncData), Fun K x x st f fd ∧ mg g = some (.ref f)
/-- a def that keeps its word -/
def CalD (P : Program) (w : World) (K : PySem.W.Frag) (mg : Str → Option Value) (base : Heap) (k : Nat) (x : Str) (n : Nat) (sem : DS) : Prop :=
  ∃ (f : Addr) (fd : FuncData) (ps : List Str), FnOk P w K mg base CX0 k f fd ps (spD n sem) ∧ mg x = some (.ref f) ∧ PySem.W.keepIn K (.ref f) = true ∧ Binds K fd ps []
section
variable {P : Program} {w : World} {K : PySem.W.Frag} {mg : Str → Option Value} {base : Heap}
theorem cal_mk {x : Str} {st : Stmt} {N ps : List Str} {k n : Nat} {body : FS} (T : TopF K mg x st) (S : FnScope N ps (defScope st)) (hn : ps.length = n) (hN : n ≤ N.length)
    (hb : ∀ (kV doc pm : Value) (an : Option Addr) (cdv ct : Value) (us : List Value), us.length = ps.length → bindArgs (PySem.W.fnOf x x (defArgs st) (defBody st) (defScope st) .none kV doc pm an cdv ct) ⟨us, []⟩ = pure (ps.zip us))
    (hbody : ∀ (f : Addr) (cdv : Value) (A : Around) (outer : List Env) (s : Shared) (H : Hp) (E : XK), Room k (A.deeper (PyProof.Rows.envOfC x (defScope st) s.heap.objs.size f cdv)) → (A.deeper (PyProof.Rows.envOfC x (defScope st) s.heap.objs.size f cdv)).units + 65 < cLine →
      PSs (cxOf CX0 P w K mg base N x (defScope st) f cdv A outer s H E).nox (defBody st) (rdS W0 body)) : CalD P w K mg base (k + 1) x n (dsem N.length n body) := by
  obtain ⟨f, fd, F, hm⟩ := T
  exact ⟨f, fd, ps, def_ok F S hn hN (hbody f), hm, F.kp, F.binds hb⟩
theorem cal_mkG {g x : Str} {st : Stmt} {N ps : List Str} {k n : Nat} {body : FS} (T : TopG K mg g x st) (S : FnScope N ps (defScope st)) (hn : ps.length = n) (hN : n ≤ N.length)
    (hb : ∀ (kV doc pm : Value) (an : Option Addr) (cdv ct : Value) (us : List Value), us.length = ps.length → bindArgs (PySem.W.fnOf x x (defArgs st) (defBody st) (defScope st) .none kV doc pm an cdv ct) ⟨us, []⟩ = pure (ps.zip us))
    (hbody : ∀ (f : Addr) (cdv : Value) (A : Around) (outer : List Env) (s : Shared) (H : Hp) (E : XK), Room k (A.deeper (PyProof.Rows.envOfC x (defScope st) s.heap.objs.size f cdv)) → (A.deeper (PyProof.Rows.envOfC x (defScope st) s.heap.objs.size f cdv)).units + 65 < cLine →
      PSs (cxOf CX0 P w K mg base N x (defScope st) f cdv A outer s H E).nox (defBody st) (rdS W0 body)) : CalD P w K mg base (k + 1) g n (dsem N.length n body) := by
  obtain ⟨f, fd, F, hm⟩ := T
  exact ⟨f, fd, ps, def_ok F S hn hN (hbody f), hm, F.kp, F.binds hb⟩
theorem e_cal {X : Cx} {W : WK} {k k' n : Nat} {sem : DS} {x : Str} {p pos : Pos} {e : Expr} {es : List Expr} {fa : FA} (C : CalD X.prog X.w X.K X.mg X.base k x n sem) (hr : Room k' X.A) (hk : k ≤ k') (hg : Gl X x) (ha : PA X (e :: es) (rdA W fa))
    (hdb : (x == ("__debug__" : Str)) = false := by decide) (he : starEach (e :: es) X.env = (false, eval e X.env) :: starEach es X.env := by rfl) (hpl : (backTo pos (starEach es X.env)).any (·.1) = false := by rfl) :
    PE X (.Call (.Name x p) (e :: es) [] pos) (rdE W (fCall n sem fa)) := by
  obtain ⟨f, fd, ps, F, hm, hkp, hb⟩ := C
  exact e_call F (hr.mono hk) hg hm hkp hb pass0 ha hdb he hpl
end

theorem un62 {A : Around} (h : A.units + 65 < cLine) : A.units + 62 < cLine := by omega

/-! ### the law's own call -/
def ScrD (K : PySem.W.Frag) (ns : List Int) (d : D) : Prop := d = .lst (ns.map .int) ∨ d = .scr K ns
theorem law_sp {K : PySem.W.Frag} {H : Hp} {a : Addr} {ns : List Int} {sem : DS} {k : Nat} {E : XK} (hS : SqL K H a (ns.map V.int)) (h : ∀ d, ScrD K ns d → sem [d] = .ok (.bl true, k)) : spD 1 sem [.ref a] H (fun v _ => v = .bl true) E := by
  have key : ∃ d, ScrD K ns d ∧ Rp (fun _ => False) H d (.ref a) := by
    rcases hS with (hS | ⟨o, hS⟩) | hS
    · exact ⟨_, .inl rfl, a, _, rfl, id, hS, RpL.ints ns⟩
    · exact ⟨_, .inr rfl, a, rfl, .inl ⟨id, o, hS⟩⟩
    · exact ⟨_, .inr rfl, a, rfl, .inr hS⟩
  obtain ⟨d, hd, r⟩ := key
  refine ⟨fun _ => False, [d], rfl, ⟨_, _, rfl, r, rfl⟩, fun _ z => z.elim, ?_⟩
  rw [h d hd]
  intro v H' fp _ _ o
  cases k with
  | zero => exact o.1
  | succ k => exact o.1
end PyL
namespace PyL
open PySem PySem.Spec L2
/-! ### what is never reached -/
def sBad : FS := fun _ => .bad
theorem bs_bad {X : Cx} {W : WK} {st : List Stmt} : PSs X st (rdS W sBad) := ⟨fun _ _ _ _ _ _ ⟨_, _, _, _, _, p⟩ => p.elim⟩
theorem s_bad {X : Cx} {W : WK} {st : Stmt} : PS X st (rdS W sBad) := ⟨fun _ _ _ _ _ _ ⟨_, _, _, _, _, p⟩ => p.elim⟩
/-! ### a try whose body raises nothing -/
theorem s_tryN {X : Cx} {W : WK} {body : List Stmt} {f : FS} {h0 : ExceptHandler} {hs : List ExceptHandler} {pos : Pos} (hb : PSs X.nox body (rdS W f)) : PS X (.Try body (h0 :: hs) [] [] pos) (rdS W f) := ps_try_thru0 hb
end PyL

namespace PyL
open PySem PySem.Spec L2
set_option autoImplicit false

/-! ### math.gcd, math.factorial; x is True -/
theorem ok_gcd : BOk rGcd gGcd := fun S0 ρ σ H F W rs vs Q E l p => ok_II _ S0 ρ σ H F W rs vs Q E l p
def CFac (a : Int) : Prop := 0 ≤ a ∧ a ≤ 1000 ∧ (Builtin.Math.factorialNat a.toNat).log2 < 100000
instance (a : Int) : Decidable (CFac a) := inferInstanceAs (Decidable (_ ∧ _ ∧ _))
def gFac := on1 fun r => match r.d with
  | .int a => if CFac a then okI ((Builtin.Math.factorialNat a.toNat : Nat) : Int) else .bad
  | _ => .bad
def rFac : List V → Hp → VK → Prop := fun vs H Q => ∃ a : Int, vs = [.int a] ∧ CFac a ∧ Q (.int ((Builtin.Math.factorialNat a.toNat : Nat) : Int)) H
theorem cr_fac {X : Cx} : CallR X (.builtin "math.factorial") rFac := by
  intro pins s σ H vs us Q I r h
  obtain ⟨a, rfl, hc, q⟩ := h
  obtain ⟨u, rfl, t, rfl⟩ := vals1 r
  refine PySem.W.mg_factorial (by have := hc.2.1; show ¬ a > 9223372036854775807; omega) (by have := hc.1; omega) (by have := hc.2.1; show ¬ a > _; unfold Builtin.Math.manyFactors; omega) (by have := hc.2.2; rw [Int.natAbs_natCast]; exact Nat.lt_trans this (by decide)) ⟨.int _, H, I.tok _, ⟨_, rfl⟩, q⟩
theorem ok_fac : BOk rFac gFac := by
  intro S0 ρ σ H F W rs vs Q E l p
  obtain ⟨r, v, rfl, z, p⟩ := on1_ok l p
  split at p
  · rename_i a e
    split at p
    · rename_i hc
      exact ⟨a, by rw [z.int e], hc, okI_post p⟩
    · exact p.elim
  · exact p.elim
def gIsB (neg : Bool) : G2 := fun ra rb => match ra.d, rb.d with
  | .bl a, .bl b => okB (if neg then !decide (a = b) else decide (a = b))
  | _, _ => .bad
theorem ok_isB {f : Bool → Bool → Bool} {neg : Bool} (hf : ∀ a b, f a b = if neg then !decide (a = b) else decide (a = b)) : OpOk (fun x y H Q => ∃ a b, x = .bl a ∧ y = .bl b ∧ Q (.bl (f a b)) H) (gIsB neg) := by
  intro S0 ρ σ H F W ra rb x y Q E hx hy p
  unfold gIsB at p
  split at p
  · rename_i a b ea eb
    exact ⟨a, b, hx.bl ea, hy.bl eb, by rw [hf]; exact okB_post p⟩
  · exact p.elim
theorem ok_is : OpOk (fun x y H Q => ∃ a b, x = .bl a ∧ y = .bl b ∧ Q (.bl (decide (a = b))) H) (gIsB false) := ok_isB (f := fun a b => decide (a = b)) fun _ _ => rfl
theorem ok_isn : OpOk (fun x y H Q => ∃ a b, x = .bl a ∧ y = .bl b ∧ Q (.bl (!decide (a = b))) H) (gIsB true) := ok_isB (f := fun a b => !decide (a = b)) fun _ _ => rfl
end PyL

namespace PyL
open PySem PySem.Spec L2
set_option autoImplicit false

/-! ### x[a][b][c] = v, a number, a text .. -/
theorem set_same {xs : List V} {j : Nat} {y : V} (h : xs[j]? = some y) : xs.set j y = xs := by
  apply List.ext_getElem?
  intro m
  by_cases hm : m = j
  · subst hm
    rw [List.getElem?_set_self (List.getElem?_eq_some_iff.mp h).1, h]
  · rw [List.getElem?_set_ne (Ne.symm hm)]
/-- an item deep down is changed in place -/
theorem ow_step {S : PA1} {H : Hp} {k : Nat} {ds : List D} {v : V} {fp : List Addr} {j : Nat} {dj : D} (o : Ow S H (k + 1) (.lst ds) v fp) (hj : ds[j]? = some dj) :
    ∃ a xs y f, v = .ref a ∧ H a = some (.lst xs) ∧ xs.length = ds.length ∧ xs[j]? = some y ∧ Ow S H k dj y f ∧ (∀ c ∈ f, c ∈ fp) ∧
      ∀ (S' : PA1) (H' : Hp) (dj' : D) (f' : List Addr), (∀ c o, H c = some o → ¬ S c → H' c = some o ∧ ¬ S' c) → (∀ c o, c ∈ fp → c ∉ f → H c = some o → H' c = some o) → Ow S' H' k dj' y f' → (∀ c ∈ f', c ∈ f) → ∃ fp', Ow S' H' (k + 1) (.lst (ds.set j dj')) v fp' ∧ ∀ c ∈ fp', c ∈ fp := by
  obtain ⟨a, xs, fq, rfl, ha, al, ef, nd⟩ := o
  obtain ⟨y, f, hy, py, hf, go⟩ := al.at hj
  refine ⟨a, xs, y, f, rfl, ha, al.length.symm, hy, py, fun c hc => by rw [ef]; exact List.mem_cons_of_mem _ (hf c hc), fun S' H' dj' f' fr1 fr2 o' sub => ?_⟩
  obtain ⟨fq', al', hq'⟩ := go (Ow S' H' k) dj' y f' (fun d w g hg hn po => Ow.imp fr1 k d w g (fun c o hc q => fr2 c o (by rw [ef]; exact List.mem_cons_of_mem _ (hg c hc)) (hn c hc) q) po) o' (fun c hc => .inl (sub c hc))
  rw [set_same hy] at al'
  have s2 : ∀ c ∈ fq', c ∈ fq := fun c hc => (hq' c hc).elim (fun z => hf c (sub c z)) fun z => z.1
  refine ⟨a :: fq', ⟨a, xs, fq', rfl, fr2 a _ (by rw [ef]; exact List.mem_cons_self) (fun z => nd (hf a z)) ha, al', rfl, fun z => nd (s2 a z)⟩, fun c hc => ?_⟩
  rw [ef]
  exact (List.mem_cons.mp hc).elim (fun z => z ▸ List.mem_cons_self) fun z => List.mem_cons_of_mem _ (s2 c z)
theorem ow_set {S : PA1} {H : Hp} {k : Nat} {es : List D} {v : V} {fp : List Addr} {l : Nat} (o : Ow S H (k + 1) (.lst es) v fp) (hl : l < es.length) :
    ∃ b ys, v = .ref b ∧ H b = some (.lst ys) ∧ ys.length = es.length ∧ b ∈ fp ∧
      ∀ (S' : PA1) (H' : Hp) (d : D) (x : V), (∀ c o, H c = some o → ¬ S c → H' c = some o ∧ ¬ S' c) → (∀ c o, c ∈ fp → c ≠ b → H c = some o → H' c = some o) → H' b = some (.lst (ys.set l x)) → Ow S' H' k d x [] → ∃ fp', Ow S' H' (k + 1) (.lst (es.set l d)) v fp' ∧ ∀ c ∈ fp', c ∈ fp := by
  obtain ⟨b, ys, fr, rfl, hb, al, ef, nd⟩ := o
  obtain ⟨y, f, hy, py, hf, go⟩ := al.at (List.getElem?_eq_getElem hl)
  refine ⟨b, ys, rfl, hb, al.length.symm, by rw [ef]; exact List.mem_cons_self, fun S' H' d x fr1 fr2 hb' o' => ?_⟩
  obtain ⟨fr', al', hr'⟩ := go (Ow S' H' k) d x [] (fun d w g hg hn po => Ow.imp fr1 k d w g (fun c o hc q => fr2 c o (by rw [ef]; exact List.mem_cons_of_mem _ (hg c hc)) (fun z => nd (z ▸ hg c hc)) q) po) o' (fun c hc => by cases hc)
  have s2 : ∀ c ∈ fr', c ∈ fr := fun c hc => (hr' c hc).elim (fun z => by cases z) fun z => z.1
  refine ⟨b :: fr', ⟨b, _, fr', rfl, hb', al', rfl, fun z => nd (s2 b z)⟩, fun c hc => ?_⟩
  rw [ef]
  exact (List.mem_cons.mp hc).elim (fun z => z ▸ List.mem_cons_self) fun z => List.mem_cons_of_mem _ (s2 c z)

def own3 (i : Nat) (f : FS) : FS := fun ρ => match ρ[i]? with
  | some (some (.lst _, _ + 3)) => f ρ
  | _ => .bad
def row3a (i : Nat) (q : R) (g : FS) : FS := fun ρ => match ρ[i]?, q.d with
  | some (some (.lst ds, _ + 3)), .int z => match ixN ds.length z with
    | some j => match ds[j]? with
      | some (.lst _) => g ρ
      | _ => .bad
    | none => .bad
  | _, _ => .bad
def row3b (i : Nat) (q q2 : R) (g : FS) : FS := fun ρ => match ρ[i]?, q.d, q2.d with
  | some (some (.lst ds, _ + 3)), .int z, .int z2 => match ixN ds.length z with
    | some j => match ds[j]? with
      | some (.lst es) => match ixN es.length z2 with
        | some l => match es[l]? with
          | some (.lst _) => g ρ
          | _ => .bad
        | none => .bad
      | _ => .bad
    | none => .bad
  | _, _, _ => .bad
def store3Out (i : Nat) (r q q2 q3 : R) (ρ : Ev) : Out := match ρ[i]?, q.d, q2.d, q3.d with
  | some (some (.lst ds, k + 3)), .int z, .int z2, .int z3 => match ixN ds.length z with
    | some j => match ds[j]? with
      | some (.lst es) => match ixN es.length z2 with
        | some l => match es[l]? with
          | some (.lst gs) => match ixN gs.length z3 with
            | some m => if scal r.d then .nx (ρ.set i (some (.lst (ds.set j (.lst (es.set l (.lst (gs.set m r.d))))), k + 3))) else .bad
            | none => .bad
          | _ => .bad
        | none => .bad
      | _ => .bad
    | none => .bad
  | _, _, _, _ => .bad
def sStore3 (i : Nat) (fi fj fl f : FE) : FS := own3 i (stE f fun r => stE fi fun q => row3a i q (stE fj fun q2 => row3b i q q2 (stE fl fun q3 => store3Out i r q q2 q3)))
section
variable {X : Cx} {W : WK} {e ei ej el : Expr} {fe fi fj fl : FE} {pos s1 s2 s3 npos : Pos} {x : Str}
theorem s_store3 (i : Nat) (hp : PS X (.Assign [.Subscript (.Subscript (.Subscript (.Name x npos) ei s1) ej s2) el s3] e pos) (tAsg (rdE W fe) (L2.gSub (tOp (rIxL X.K) (tOp (rIxL X.K) (tVar i) (rdE W fi)) (rdE W fj)) (rdE W fl) rSetL))) :
    PS X (.Assign [.Subscript (.Subscript (.Subscript (.Name x npos) ei s1) ej s2) el s3] e pos) (rdS W (sStore3 i fi fj fl fe)) := by
  refine psI hp fun Dn σ H ⟨S0, H0, ρ, F, E, p⟩ => ?_
  unfold sStore3 own3 at p
  split at p
  · rename_i ds k hi
    obtain ⟨v0, hv, ow⟩ := E.ee.rep i _ _ hi
    refine ps_bind E p fun r v H1 fp n1 nv vr E1 p1 => ⟨v0, hv, ps_bind E1 p1 fun q w H2 fp2 n2 nw vq E2 p2 => ?_⟩
    have zq := vq.fz (E1.ee.nin nw _)
    have s12 := n1.trans n2
    unfold row3a at p2
    rw [hi] at p2
    split at p2
    · rename_i ds' k' z e1 ez
      cases e1
      split at p2
      · rename_i j hj
        split at p2
        · rename_i es hes
          obtain ⟨a, xs, y, f, rfl, ha, hxl, hy, oy, hf, up⟩ := ow_step ow hes
          refine ⟨a, xs, z, y, rfl, zq.int ez, SqL.of (s12 _ _ ha), by unfold atI; rw [hxl, hj]; exact hy, ps_bind E2 p2 fun q2 w2 H3 fp3 n3 nw2 vq2 E3 p3 => ?_⟩
          have s13 := s12.trans n3
          have zq2 := vq2.fz (E2.ee.nin nw2 _)
          unfold row3b at p3
          rw [hi, ez] at p3
          split at p3
          · rename_i ds'' k'' z' z2 e1 ez' ez2
            cases e1
            cases ez'
            simp only [hj, hes] at p3
            split at p3
            · rename_i l hl
              split at p3
              · rename_i gs hgs
                obtain ⟨b, ys, y2, f2, rfl, hb, hyl, hy2, oy2, hf2, up2⟩ := ow_step oy hgs
                refine ⟨b, ys, z2, y2, rfl, zq2.int ez2, SqL.of (s13 _ _ hb), by unfold atI; rw [hyl, hl]; exact hy2, ps_bind E3 p3 fun q3 w3 H4 fp4 n4 nw3 vq3 E4 p4 => ?_⟩
                have s14 := s13.trans n4
                have zq3 := vq3.fz (E3.ee.nin nw3 _)
                unfold store3Out at p4
                rw [hi, ez, ez2] at p4
                split at p4
                · rename_i ds3 k3 za zb z3 e1 e2 e3 ez3
                  cases e1
                  cases e2
                  cases e3
                  simp only [hj, hes, hl, hgs] at p4
                  split at p4
                  · rename_i m hm
                    split at p4
                    · rename_i hs
                      obtain ⟨c, us, rfl, hc, hul, cf, up3⟩ := ow_set oy2 (ixN_seq hm).2.1
                      refine ⟨c, us, z3, m, rfl, zq3.int ez3, s14 _ _ hc, by rw [hul]; exact hm, ?_⟩
                      have cF : c ∈ F i := hf c (hf2 c cf)
                      have kp : ∀ d o, d ≠ c → H d = some o → upd H4 c (.lst (us.set m v)) d = some o := fun d o hd q => by rw [upd_ne hd]; exact s14 _ _ q
                      let S' : PA1 := fun d => inS S0 F (i :: []) d ∨ d ∈ F i
                      have Sx : ∀ d, S' d → inS S0 F [] d := fun d z => z.elim inS_sub fun z => .inr ⟨i, by simp, z⟩
                      have fr1 : ∀ d o, H d = some o → ¬ inS S0 F [] d → upd H4 c (.lst (us.set m v)) d = some o ∧ ¬ S' d := fun d o q nn => ⟨kp d o (fun z => nn (z ▸ .inr ⟨i, by simp, cF⟩)) q, fun z => nn (Sx d z)⟩
                      obtain ⟨f3', o3, h3⟩ := up3 S' _ r.d v fr1 (fun d o _ hd q => kp d o hd q) upd_same (scal_ow hs vr.ow k).1
                      obtain ⟨f2', o2, h2⟩ := up2 S' _ _ f3' fr1 (fun d o _ hd q => kp d o (fun z => hd (z ▸ cf)) q) o3 h3
                      obtain ⟨f1', o1, h1⟩ := up S' _ _ f2' fr1 (fun d o _ hd q => kp d o (fun z => hd (z ▸ hf2 c cf)) q) o2 h2
                      have E' := E.mutate (e := []) (fp' := f1') (o' := .lst (us.set m v)) hi hv (by simp) s14 cF trivial (fun d hd => .inl (h1 d hd)) (Ow.imp (fun d o q nn => ⟨q, fun z => nn (z.imp id (h1 d))⟩) _ _ _ _ (fun _ _ _ q => q) o1)
                      exact p4 _ _ _ E'
                    · exact p4.elim
                  · exact p4.elim
                · exact p4.elim
              · exact p3.elim
            · exact p3.elim
          · exact p3.elim
        · exact p2.elim
      · exact p2.elim
    · exact p2.elim
  · exact p.elim
end
end PyL

namespace PyL
open PySem PySem.Spec L2
set_option autoImplicit false

/-! ### math.lcm -/
def CLcm (a b : Int) : Prop := a.natAbs.log2 < 10000 ∧ b.natAbs.log2 < 10000
instance (a b : Int) : Decidable (CLcm a b) := inferInstanceAs (Decidable (_ ∧ _))
theorem log2_max {a b n : Nat} (ha : a.log2 < n) (hb : b.log2 < n) : (max a b).log2 < n := by
  rcases Nat.le_total a b with h | h
  · rw [Nat.max_eq_right h]; exact hb
  · rw [Nat.max_eq_left h]; exact ha
theorem lcm_log2 {a b : Nat} (ha : a.log2 < 10000) (hb : b.log2 < 10000) : (a.lcm b).log2 < 20001 := by
  by_cases hz : a.lcm b = 0
  · rw [hz]; decide
  · refine (Nat.log2_lt hz).mpr ?_
    have ha0 : a ≠ 0 := fun z => hz (by rw [z, Nat.lcm_zero_left])
    have hb0 : b ≠ 0 := fun z => hz (by rw [z, Nat.lcm_zero_right])
    have h1 : a < 2 ^ 10000 := (Nat.log2_lt ha0).mp ha
    have h2 : b < 2 ^ 10000 := (Nat.log2_lt hb0).mp hb
    have h3 : a.lcm b ≤ a * b := Nat.le_of_dvd (Nat.mul_pos (Nat.pos_of_ne_zero ha0) (Nat.pos_of_ne_zero hb0)) (Nat.lcm_dvd (Nat.dvd_mul_right _ _) (Nat.dvd_mul_left _ _))
    calc a.lcm b ≤ a * b := h3
      _ < 2 ^ 10000 * 2 ^ 10000 := Nat.mul_lt_mul'' h1 h2
      _ = 2 ^ 20000 := by rw [← Nat.pow_add]
      _ ≤ 2 ^ 20001 := Nat.pow_le_pow_right (by decide) (by decide)
def rLcm : List V → Hp → VK → Prop := fun vs H Q => ∃ a b : Int, vs = [.int a, .int b] ∧ CLcm a b ∧ Q (.int ((Nat.lcm a.natAbs b.natAbs : Nat) : Int)) H
theorem cr_lcm {X : Cx} : CallR X (.builtin "math.lcm") rLcm := by
  intro pins s σ H vs us Q I r h
  obtain ⟨a, b, rfl, hc, q⟩ := h
  obtain ⟨t, u, rfl⟩ := Vals.int2 r
  have g := PySem.W.mg_run_lcm a t b u (by have := log2_max (a := 1) (b := a.natAbs) (n := 10000) (by decide) hc.1; omega) (by have := log2_max hc.1 hc.2; omega) (by
    rw [Nat.lcm_one_left, Int.natAbs_natCast]
    exact Nat.lt_trans (lcm_log2 hc.1 hc.2) (by decide))
  rw [Nat.lcm_one_left] at g
  exact call_function_meets PySem.W.MGF.kind_lcm PySem.W.MGF.plain_lcm PySem.W.MGF.entry_lcm (PySem.W.MGF.args_lcm _ _) g.meets ⟨.int _, H, I.tok _, ⟨_, rfl⟩, q⟩
def gLcm := on2 fun r q => match r.d, q.d with
  | .int a, .int b => if CLcm a b then okI ((Nat.lcm a.natAbs b.natAbs : Nat) : Int) else .bad
  | _, _ => .bad
theorem ok_lcm : BOk rLcm gLcm := by
  intro S0 ρ σ H F W rs vs Q E l p
  obtain ⟨r, q, v, w, rfl, z, z2, p⟩ := on2_ok l p
  split at p
  · rename_i a b ea eb
    split at p
    · rename_i hc
      exact ⟨a, b, by rw [z.int ea, z2.int eb], hc, okI_post p⟩
    · exact p.elim
  · exact p.elim



end PyL
namespace PyL
open PySem PySem.Spec L2
set_option autoImplicit false
def rcD (lo c : Int) (n : Nat) : List D := (List.range n).map fun i : Nat => .int (lo + (i : Int) * c)
theorem jok_rngC {Se Sc : PA1} {H : Hp} (lo c : Int) (n : Nat) : JOk Se Sc (Itc lo c n) (rcD lo c n) H := fun H' k1 i => by
  refine ⟨fun hi => (show n ≤ i by unfold rcD at hi; simpa using hi), fun d hd => ?_⟩
  unfold rcD at hd
  rw [List.getElem?_map] at hd
  cases q : (List.range n)[i]? with
  | none => rw [q] at hd; cases hd
  | some j =>
    rw [q] at hd
    cases hd
    obtain ⟨h1, h2⟩ := List.getElem?_eq_some_iff.mp q
    have hn : i < n := by simpa using h1
    have hj : i = j := by simpa using h2
    subst hj
    exact ⟨hn, fun x H3 hy => ⟨by rw [hy.1]; exact Same.refl _, fun _ _ _ => hy.2⟩⟩
instance (i j c : Int) (n : Nat) : Decidable (RgC i j c n) := inferInstanceAs (Decidable (_ ∧ _ ∧ _ ∧ _))
def rng3 (r q s : R) : Res IR := match r.d, q.d, s.d with
  | .int i, .int j, .int c => if RgC i j c (Builtin.Range.rangeSize i j c).toNat then .ok ⟨rcD i c (Builtin.Range.rangeSize i j c).toNat, [], []⟩ else .bad
  | _, _, _ => .bad
def on3I (g : R → R → R → Res IR) : List R → Res IR
  | [r, q, s] => g r q s
  | _ => .bad
def fRng3 (f : FA) : FI := fun ρ => (f ρ).bind (on3I rng3)
section
variable {X : Cx} {W : WK}
theorem i_rng3 {tg a b c : Expr} {fa : FA} {p pos : Pos} (hg : Gl X "range") (hm : X.mg "range" = none) (ha : PA X [a, b, c] (rdA W fa))
    (hs : starEach [a, b, c] X.env = (false, eval a X.env) :: starEach [b, c] X.env := by rfl) (hpl : (backTo pos (starEach [b, c] X.env)).any (·.1) = false := by rfl) : PI X tg (.Call (.Name "range" p) [a, b, c] [] pos) (rdI W (fRng3 fa)) := by
  refine piI (pi_range3 hg hm ha hs hpl) fun σ H Rk ⟨S0, ρ, F, E, p⟩ => postI_args E p fun rs vs H1 fp s1 n1 l1 E1 p1 => ?_
  have fz := l1.fz fun e => E.nin n1 e
  match rs, fz with
  | [r, q, s], ⟨v, t, e, z, v2, t2, e2, z2, v3, t3, e3, z3, et⟩ =>
    rw [show t3 = [] from et] at e3
    subst e3
    subst e2
    subst e
    have p1 : PostI W S0 F σ H1 Rk (rng3 r q s) := p1
    unfold rng3 at p1
    split at p1
    · rename_i i j c e1 e2 e3
      split at p1
      · rename_i hb
        exact ⟨i, j, c, _, by rw [z.int e1, z2.int e2, z3.int e3], hb, p1 _ H1 (Same.refl H1) (jok_rngC i c _)⟩
      · exact p1.elim
    · exact p1.elim
  | [], _ => exact p1.elim
  | [_], _ => exact p1.elim
  | [_, _], _ => exact p1.elim
  | _ :: _ :: _ :: _ :: _, _ => exact p1.elim
end
end PyL

namespace PyL
open PySem PySem.Spec L2
set_option autoImplicit false

/-! ### a, b = t, t one's own: what t held goes over, t is forgotten -/
theorem EE.dropS {S0 : PA1} {ρ : Ev} {σ : St} {H : Hp} {F : FP} (E : EE S0 ρ σ H F) (vs : List Nat) : EE (fun a => S0 a ∨ ∃ i ∈ vs, a ∈ F i) (wipeE ρ vs) σ H (cutF vs F) where
  len := by rw [wipeE_len]; exact E.len
  rep := fun i d k h => by
    obtain ⟨h1, h2⟩ := wipeE_some h
    obtain ⟨v, e, o⟩ := E.rep i d k h1
    refine ⟨v, e, ?_⟩
    rw [show cutF vs F i = F i by simp [cutF, h2]]
    refine Ow.imp (fun b o q n => ⟨q, fun z => n ?_⟩) k d v _ (fun _ _ _ q => q) o
    rcases z with (z | ⟨j, hj, z⟩) | ⟨j, _, z⟩
    · exact .inl z
    · exact .inr ⟨j, by simp, z⟩
    · exact .inr ⟨j, by simp, (cutF_mem.mp z).2⟩
  disj := fun a b c h1 h2 => E.disj a b c (cutF_mem.mp h1).2 (cutF_mem.mp h2).2
  trk := fun j a h => E.trk j a (cutF_mem.mp h).2
  out := fun a h => h.elim (E.out a) fun ⟨i, _, z⟩ => E.trk i a z
  apart := fun j a h z => by
    obtain ⟨h1, h2⟩ := cutF_mem.mp h
    rcases z with z | ⟨i, hi, z⟩
    · exact E.apart j a h2 z
    · exact h1 (E.disj _ _ _ z h2 ▸ hi)
def mvK (is : List Nat) (t : Nat) (ρ : Ev) : Option Slot → Out
  | some (some (.tup ds, k)) => match setTs is ds (k - 1) (wipeE ρ [t]) with
    | some ρ' => .nx ρ'
    | none => .bad
  | _ => .bad
def sMvT (t : Nat) (is : List Nat) : FS := fun ρ => mvK is t ρ ρ[t]?
section
variable {X : Cx} {W : WK} {st : Stmt}
theorem s_mvT {t : Nat} {is : List Nat} (hp : PS X st (tAsg (tVar t) (gTup X.K is.length (gNames is)))) : PS X st (rdS W (sMvT t is)) := by
  refine psI hp fun Dn σ H ⟨S0, H0, ρ, F, E, p⟩ => ?_
  unfold sMvT mvK at p
  split at p
  · rename_i ds k hi
    split at p
    · rename_i ρ' hρ
      obtain ⟨v, hv, o⟩ := E.ee.rep t _ _ hi
      obtain ⟨a, xs, rfl, ha, al⟩ : ∃ a xs, v = .ref a ∧ H a = some (.tup xs) ∧ AllF (Ow (inS S0 F []) H (k - 1)) ds xs (F t) := by
        cases k with
        | zero =>
          obtain ⟨⟨a, xs, e, _, h, l⟩, ef⟩ := o
          exact ⟨a, xs, e, h, by rw [ef]; exact all_zero l⟩
        | succ m =>
          obtain ⟨a, xs, e, _, h, al⟩ := o
          exact ⟨a, xs, e, h, al⟩
      refine ⟨.ref a, hv, a, xs, rfl, SqT.of ha, by rw [← al.length, setTs_len hρ], ?_⟩
      have Ed := E.ee.dropS [t]
      have E2 : EE (fun a => S0 a ∨ a ∈ F t) (wipeE ρ [t]) σ H (cutF [t] F) := Ed.ext (Same.refl H) (fun b h => .inl (h.imp id fun h => ⟨t, by simp, h⟩)) fun b h => h.elim (E.ee.out b) (E.ee.trk t b)
      refine setTs_run is ds xs (F t) (wipeE ρ [t]) ρ' (cutF [t] F) σ H _ E2 (fun b hb z => E.ee.apart t b hb z) (fun i b h z => ?_) (fun _ _ => trivial) (al.imp fun d w g _ po => Ow.imp (fun b o q nn => ⟨q, fun z => nn ?_⟩) _ _ _ _ (fun _ _ _ q => q) po) hρ fun σ' F' E' hF => ?_
      · obtain ⟨h1, h2⟩ := cutF_mem.mp h
        exact h1 (by simp [E.ee.disj _ _ _ h2 z])
      · rcases z with (z | ⟨j, _, z⟩) | z
        · exact .inl z
        · exact .inr ⟨j, by simp, (cutF_mem.mp z).2⟩
        · exact .inr ⟨t, by simp, z⟩
      · refine p σ' H F' ⟨E', fun i b h => ?_, E.same, E.old⟩
        rcases hF i b h with h | h | ⟨j, h⟩
        · exact E.new i b (cutF_mem.mp h).2
        · exact E.new t b h
        · exact E.new j b (cutF_mem.mp h).2
    · exact p.elim
  · exact p.elim
end

/-! ### return (x, y), one's own lists go along -/
def tVars : List Nat → TA
  | [] => tNil
  | i :: is => tCons (tVar i) (tVars is)
def getS (ρ : Ev) : List Nat → Option (List (D × Nat))
  | [] => some []
  | i :: is => match ρ[i]? with
    | some (some p) => (getS ρ is).map fun ps => p :: ps
    | _ => none
theorem vars_run {S0 : PA1} {ρ : Ev} {σ : St} {H : Hp} {F : FP} (E : EE S0 ρ σ H F) {m : Nat} : ∀ {is : List Nat} {ps : List (D × Nat)}, getS ρ is = some ps → is.Nodup → (∀ p ∈ ps, scal p.1 = true ∨ p.2 = m) →
    ∃ xs fp, (∀ Q : List V → Hp → Prop, Q xs H → tVars is σ H Q) ∧ AllF (Ow (inS S0 F []) H m) (ps.map (·.1)) xs fp ∧ ∀ a ∈ fp, ∃ i ∈ is, a ∈ F i
  | [], ps, h, _, _ => by
    cases h
    exact ⟨[], [], fun Q q => q, ⟨rfl, rfl⟩, fun a ha => by cases ha⟩
  | i :: is, ps, h, nd, hm => by
    unfold getS at h
    split at h
    · rename_i p hi
      obtain ⟨d, k⟩ := p
      cases hq : getS ρ is with
      | none => rw [hq] at h; cases h
      | some qs =>
        rw [hq] at h
        cases h
        obtain ⟨hn, nd'⟩ := List.nodup_cons.mp nd
        obtain ⟨xs, fp, run, al, hf⟩ := vars_run E hq nd' fun p hp => hm p (List.mem_cons_of_mem _ hp)
        obtain ⟨v, hv, o⟩ := E.rep i d k hi
        obtain ⟨f1, o1, h1⟩ : ∃ f1, Ow (inS S0 F []) H m d v f1 ∧ ∀ a ∈ f1, a ∈ F i := by
          rcases hm (d, k) List.mem_cons_self with z | z
          · exact ⟨[], (scal_ow z o m).1, fun a ha => by cases ha⟩
          · exact ⟨F i, (show k = m from z) ▸ o, fun a ha => ha⟩
        refine ⟨v :: xs, f1 ++ fp, fun Q q => ⟨v, hv, run _ q⟩, ⟨v, xs, f1, fp, rfl, o1, al, rfl, fun a ha hb => ?_⟩, fun a ha => ?_⟩
        · obtain ⟨j, hj, hb⟩ := hf a hb
          exact hn (E.disj _ _ _ (h1 a ha) hb ▸ hj)
        · rcases List.mem_append.mp ha with ha | ha
          · exact ⟨i, List.mem_cons_self, h1 a ha⟩
          · obtain ⟨j, hj, hb⟩ := hf a ha
            exact ⟨j, List.mem_cons_of_mem _ hj, hb⟩
    · cases h
def retTK (m : Nat) (is : List Nat) : Option (List (D × Nat)) → Out
  | some ps => if is.Nodup ∧ ps.length ≤ sizeLine ∧ (ps.all fun p => scal p.1 || p.2 == m + 1) = true then .rt (.tup (ps.map (·.1))) (m + 2) else .bad
  | none => .bad
def sRetT (m : Nat) (is : List Nat) : FS := fun ρ => retTK m is (getS ρ is)
section
variable {X : Cx} {W : WK} {es : List Expr} {x1 : Nat} {p2 pos : Pos}
theorem s_retT {m : Nat} {is : List Nat} {e : Expr} (hp : PE X e (tTup (tVars is))) : PS X (.Return (some e) pos) (rdS W (sRetT m is)) := by
  refine psI (ps_ret hp) fun Dn σ H ⟨S0, H0, ρ, F, E, p⟩ => ?_
  unfold sRetT retTK at p
  split at p
  · rename_i ps hps
    split at p
    · rename_i hc
      obtain ⟨nd, hz, hall⟩ := hc
      obtain ⟨xs, fp, run, al, hf⟩ := vars_run E.ee (m := m + 1) hps nd fun q hq => by
        have := List.all_eq_true.mp hall q hq
        simpa using this
      refine run _ ⟨by rw [← al.length, List.length_map]; exact hz, fun q nq => ?_⟩
      have sm := same_upd (o := .tup xs) nq
      have fF : ∀ a ∈ fp, ∃ i, a ∈ F i := fun a ha => let ⟨i, _, h⟩ := hf a ha; ⟨i, h⟩
      refine p (.ref q) _ fp (E.same.trans sm) (fun a ha => let ⟨i, h⟩ := fF a ha; E.new i a h) ⟨q, xs, rfl, fun z => ?_, upd_same, al.imp fun d w g hg po => Ow.imp (fun b o hb nn => ⟨sm _ _ hb, fun z => nn ?_⟩) _ _ _ _ (fun b o _ hb => sm _ _ hb) po⟩
      · rcases z with z | z
        · obtain ⟨o, h, _⟩ := E.ee.out q z
          rw [nq] at h; cases h
        · obtain ⟨i, h⟩ := fF q z
          obtain ⟨o, h, _⟩ := E.ee.trk i q h
          rw [nq] at h; cases h
      · rcases z with z | z
        · exact .inl z
        · obtain ⟨i, h⟩ := fF b z
          exact .inr ⟨i, by simp, h⟩
    · exact p.elim
  · exact p.elim
end
end PyL

namespace PyL
open PySem PySem.Spec L2
set_option autoImplicit false

/-! ### the combinators, applied (nr: for simp these shall be rewriting steps, no unfolding) -/
theorem nr {α : Type} {a b : α} (h : a = b) : a = b := h
section
variable {ρ : Ev} {f g fa fb fc : FE} {t ta tb : FT} {s s' : FS} {A : FA} {i j k n : Nat} {d : D} {e c : List Nat}
theorem bd_ok {α β : Type} {a : α} {q : α → Res β} : (Res.ok a).bind q = q a := nr rfl
theorem bd_bad {α β : Type} {q : α → Res β} : (Res.bad : Res α).bind q = .bad := nr rfl
theorem bd_ite {α β : Type} {P : Prop} [Decidable P] {x y : Res α} {q : α → Res β} : (if P then x else y).bind q = if P then x.bind q else y.bind q := by split <;> rfl
def varK (i : Nat) : Option Slot → Res R
  | some (some (d, k)) => .ok (al1 i d k)
  | _ => .bad
theorem ap_var : fVar i ρ = varK i ρ[i]? := by unfold fVar varK; split <;> simp_all
theorem vk_some : varK i (some (some (d, k))) = .ok (al1 i d k) := nr rfl
theorem al_int {z : Int} : al1 i (.int z) k = ⟨.int z, 0, [], []⟩ := by simp [al1, scal]
theorem al_bl {z : Bool} : al1 i (.bl z) k = ⟨.bl z, 0, [], []⟩ := by simp [al1, scal]
theorem al_non : al1 i .non k = ⟨.non, 0, [], []⟩ := by simp [al1, scal]
theorem al_str {z : Str} : al1 i (.str z) k = ⟨.str z, 0, [], []⟩ := by simp [al1, scal]
theorem al_0 : al1 i d 0 = ⟨d, 0, [], []⟩ := by simp [al1]
theorem al_l1 {ds : List D} : al1 i (.lst ds) 1 = ⟨.lst ds, 0, [i], []⟩ := by simp [al1, scal]
theorem al_l2 {ds : List D} : al1 i (.lst ds) (k + 2) = ⟨.lst ds, 0, [i], [i]⟩ := by simp [al1, scal]
theorem al_l2' {ds : List D} : al1 i (.lst ds) 2 = ⟨.lst ds, 0, [i], [i]⟩ := al_l2
theorem al_l3' {ds : List D} : al1 i (.lst ds) 3 = ⟨.lst ds, 0, [i], [i]⟩ := al_l2
theorem al_t2 {ds : List D} : al1 i (.tup ds) (k + 2) = ⟨.tup ds, 0, [i], [i]⟩ := by simp [al1, scal]
theorem al_t2' {ds : List D} : al1 i (.tup ds) 2 = ⟨.tup ds, 0, [i], [i]⟩ := al_t2
theorem al_t3' {ds : List D} : al1 i (.tup ds) 3 = ⟨.tup ds, 0, [i], [i]⟩ := al_t2
theorem al_t1 {ds : List D} : al1 i (.tup ds) 1 = ⟨.tup ds, 0, [i], []⟩ := by simp [al1, scal]
theorem ap_c : fC d ρ = .ok ⟨d, 0, [], []⟩ := nr rfl
theorem ap_bin {q : G2} : fBin q fa fb ρ = (fa ρ).bind fun ra => (fb ρ).bind fun rb => q ra rb := nr rfl
theorem ap_un {q : R → Res R} : fUn q f ρ = (f ρ).bind q := nr rfl
theorem ap_test : fTest f ρ = (f ρ).bind toB := nr rfl
theorem tb_bl {b : Bool} : toB ⟨.bl b, k, e, c⟩ = .ok b := nr rfl
theorem ap_notT : fNotT t ρ = (t ρ).bind fun b => .ok (!b) := nr rfl
theorem ap_andT : fAndT ta tb ρ = (ta ρ).bind fun b => if b then tb ρ else .ok false := nr rfl
theorem ap_orT : fOrT ta tb ρ = (ta ρ).bind fun b => if b then .ok true else tb ρ := nr rfl
theorem ap_andV : fAndV fa fb ρ = (fa ρ).bind fun r => (toB r).bind fun b => if b then fb ρ else okB false := nr rfl
theorem ap_orV : fOrV fa fb ρ = (fa ρ).bind fun r => (toB r).bind fun b => if b then okB true else fb ρ := nr rfl
theorem ap_notV : fNotV f ρ = (f ρ).bind fun r => (toB r).bind fun b => okB (!b) := nr rfl
theorem ap_ite : fIte t fa fb ρ = (t ρ).bind fun b => if b then fa ρ else fb ρ := nr rfl
theorem ap_chain {q q' : G2} : fChain q q' fa fb fc ρ = (fa ρ).bind fun ra => (fb ρ).bind fun rb => (q ra rb).bind fun r => (toB r).bind fun k => if k then (fc ρ).bind fun rc => q' rb rc else okB false := nr rfl
theorem ap_isN {neg : Bool} : fIsN neg f ρ = (f ρ).bind (gIsN neg) := nr rfl
theorem ap_nil : fNil ρ = .ok [] := nr rfl
theorem ap_cons : fCons f A ρ = (f ρ).bind fun r => (A ρ).bind fun rs => .ok (r :: rs) := nr rfl
theorem ap_B {q : List R → Res R} : fB q A ρ = (A ρ).bind q := nr rfl
theorem ap_lst : fLst A ρ = (A ρ).bind dispL := nr rfl
theorem ap_tup : fTup A ρ = (A ρ).bind dispT := nr rfl
theorem ap_lstE : fLstE k ρ = .ok ⟨.lst [], k + 1, [], []⟩ := nr rfl
theorem ap_sl {l h : FO} : fSl f l h ρ = (f ρ).bind fun r => (l ρ).bind fun lo => (h ρ).bind fun hi => gSl r lo hi := nr rfl
theorem ap_slK {K : PySem.W.Frag} {l h : FO} : fSlK K f l h ρ = (f ρ).bind fun r => (l ρ).bind fun lo => (h ρ).bind fun hi => gSlK K r lo hi := nr rfl
theorem ap_noP : fNoP ρ = .ok none := nr rfl
theorem ap_part : fPart f ρ = (f ρ).bind toI := nr rfl
theorem ti_int {z : Int} : toI ⟨.int z, k, e, c⟩ = .ok (some z) := nr rfl
theorem ap_isi {T : String} : fIsi T f ρ = (f ρ).bind (gIsi T) := nr rfl
theorem ap_lr1 : fLR1 f ρ = (f ρ).bind gLR1 := nr rfl
theorem ap_lr2 : fLR2 f g ρ = (f ρ).bind fun r => (g ρ).bind fun q => gLR2 r q := nr rfl
theorem ap_revL : fRevL f ρ = (f ρ).bind gRevL := nr rfl
theorem ap_index : fIndex f g ρ = (f ρ).bind fun r => if isL r then (g ρ).bind fun q => gIndex r q else .bad := nr rfl
theorem ap_seqI : fSeqI f ρ = (f ρ).bind seqI := nr rfl
theorem ap_rng1 : fRng1 A ρ = (A ρ).bind (on1I rng1) := nr rfl
theorem ap_rng2 : fRng2 A ρ = (A ρ).bind (on2I rng2) := nr rfl
theorem ap_revI : fRevI A ρ = (A ρ).bind (on1I revI) := nr rfl
theorem ap_call {sem : DS} : fCall n sem A ρ = (A ρ).bind (callR n sem) := nr rfl
theorem ap_comp {it : FI} {tg : FG} {vs : List Nat} {dep : Nat} : fComp dep it tg t f vs ρ = (it ρ).bind fun s => (compL tg t f (wipeE (frzL s.c ρ) vs) s.ds).bind (dispC dep s.c) := nr rfl
/-! statements -/
def Out.then (o : Out) (g : FS) : Out := match o with
  | .nx ρ => g ρ
  | o => o
theorem th_nx : (Out.nx ρ).then s = s ρ := nr rfl
theorem th_rt : (Out.rt d k).then s = .rt d k := nr rfl
theorem th_bk : (Out.bk ρ).then s = .bk ρ := nr rfl
theorem th_ct : (Out.ct ρ).then s = .ct ρ := nr rfl
theorem th_ite {P : Prop} [Decidable P] {x y : Out} : (if P then x else y).then s = if P then x.then s else y.then s := by split <;> rfl
theorem ap_seq : sSeq s s' ρ = (s ρ).then s' := by unfold sSeq Out.then; rfl
def Res.st {α : Type} (r : Res α) (ρ : Ev) (q : α → Out) : Out := match r with
  | .ok a => q a
  | .exn x => .ex x ρ
  | .bad => .bad
theorem st_ok {α : Type} {a : α} {q : α → Out} : (Res.ok a).st ρ q = q a := nr rfl
theorem ap_stE {q : R → Ev → Out} : stE f q ρ = (f ρ).st ρ fun r => q r ρ := by unfold stE Res.st; cases f ρ <;> rfl
theorem ap_set : sSet i f ρ = (f ρ).st ρ fun r => .nx ((frzL r.e ρ).set i (some (r.d, r.k))) := by unfold sSet stE Res.st; cases f ρ <;> rfl
theorem ap_ret : sRet f ρ = (f ρ).st ρ fun r => .rt r.d r.k := by unfold sRet stE Res.st; cases f ρ <;> rfl
theorem ap_retN : sRetN ρ = .rt .non 0 := nr rfl
def retK : Option Slot → Out
  | some (some (d, k)) => .rt d k
  | _ => .bad
theorem ap_retV : sRetV i ρ = retK ρ[i]? := by unfold sRetV retK; split <;> simp_all
theorem rk_some : retK (some (some (d, k))) = .rt d k := nr rfl
theorem ap_expr : sExpr f ρ = (f ρ).st ρ fun _ => .nx ρ := by unfold sExpr stE Res.st; cases f ρ <;> rfl
theorem ap_if : sIf t s s' ρ = (t ρ).st ρ fun b => if b then s ρ else s' ρ := by unfold sIf stT Res.st; cases t ρ <;> rfl
theorem ap_sNil : sNil ρ = .nx ρ := nr rfl
theorem ap_brk : sBrk ρ = .bk ρ := nr rfl
theorem ap_cnt : sCnt ρ = .ct ρ := nr rfl
theorem ap_for {it : FI} {tg : FG} {vs : List Nat} : sFor it tg vs s ρ = (it ρ).st ρ fun z => forL tg vs s (frzL (z.e ++ z.c) ρ) z.ds := by unfold sFor Res.st; cases it ρ <;> rfl
def appK (i : Nat) (ρ : Ev) (r : R) : Option Slot → Out
  | some (some (.lst ds, k + 1)) => if i ∈ r.e then .bad else if ds.length < sizeLine then .nx ((frzL r.e ρ).set i (some (.lst (ds ++ [r.d]), if keepK k r then k + 1 else 1))) else .bad
  | _ => .bad
def ownK (o : Out) : Option Slot → Out
  | some (some (.lst _, _ + 1)) => o
  | _ => .bad
theorem ap_app : sApp i f ρ = ownK ((f ρ).st ρ fun r => appK i ρ r ρ[i]?) ρ[i]? := by
  unfold sApp ownL ownK
  rw [ap_stE]
  unfold appOut appK
  rfl
theorem own_some {ds : List D} {o : Out} : ownK o (some (some (.lst ds, k + 1))) = o := nr rfl
theorem own_1 {ds : List D} {o : Out} : ownK o (some (some (.lst ds, 1))) = o := nr rfl
theorem own_2 {ds : List D} {o : Out} : ownK o (some (some (.lst ds, 2))) = o := nr rfl
theorem own_3 {ds : List D} {o : Out} : ownK o (some (some (.lst ds, 3))) = o := nr rfl
theorem app_1 {ds : List D} {k' : Nat} : appK i ρ ⟨d, k', e, c⟩ (some (some (.lst ds, 1))) = if i ∈ e then .bad else if ds.length < sizeLine then .nx ((frzL e ρ).set i (some (.lst (ds ++ [d]), 1))) else .bad := by simp [appK, keepK]
theorem app_2 {ds : List D} : appK i ρ ⟨d, 1, e, c⟩ (some (some (.lst ds, 2))) = if i ∈ e then .bad else if ds.length < sizeLine then .nx ((frzL e ρ).set i (some (.lst (ds ++ [d]), 2))) else .bad := by simp [appK, keepK]
def storeK (i : Nat) (ρ : Ev) (r q : R) : Option Slot → Out := fun o => match o, q.d with
  | some (some (.lst ds, k + 1)), .int z => match ixN ds.length z with
    | some j => if i ∈ r.e then .bad else if keepK k r && scal r.d then .nx ((frzL r.e ρ).set i (some (.lst (ds.set j r.d), k + 1))) else .nx ((frzL r.e ρ).set i (some (.lst (ds.set j r.d), 1)))
    | none => .bad
  | _, _ => .bad
theorem ap_store : sStore i f g ρ = ownK ((g ρ).st ρ fun r => (f ρ).st ρ fun q => storeK i ρ r q ρ[i]?) ρ[i]? := by
  unfold sStore ownL ownK
  rw [ap_stE]
  simp only [ap_stE]
  unfold storeOut storeK
  rfl
theorem store_1 {ds : List D} {z : Int} {r : R} {k1 : Nat} {e1 c1 : List Nat} {j : Nat} (hj : ixN ds.length z = some j) : storeK i ρ r ⟨.int z, k1, e1, c1⟩ (some (some (.lst ds, 1))) = if i ∈ r.e then .bad else .nx ((frzL r.e ρ).set i (some (.lst (ds.set j r.d), 1))) := by
  simp [storeK, keepK, hj]
def setTK : Option Ev → Out
  | some ρ => .nx ρ
  | none => .bad
theorem ap_setT {is : List Nat} : sSetT is f ρ = (f ρ).st ρ fun r => match r.d with
    | .tup ds => setTK (setTs is ds (r.k - 1) (frzL r.e ρ))
    | _ => .bad := by
  unfold sSetT
  rw [ap_stE]
  rfl
theorem tk_some : setTK (some ρ) = .nx ρ := nr rfl
theorem st_nil {k : Nat} : setTs [] [] k ρ = some ρ := nr rfl
theorem st_cons {k : Nat} {is : List Nat} {ds : List D} : setTs (i :: is) (d :: ds) k ρ = setTs is ds k (ρ.set i (some (d, k))) := nr rfl
theorem ap_par : sPar i j A ρ = (A ρ).st ρ fun rs => parOut i j rs ρ := by unfold sPar stA Res.st; cases A ρ <;> rfl
theorem par_eq {r q : R} : parOut i j [r, q] ρ = .nx (((frzL (esL [r, q]) ρ).set i (some (r.d, 0))).set j (some (q.d, 0))) := nr rfl
def revK (i : Nat) (ρ : Ev) : Option Slot → Out
  | some (some (.lst ds, _ + 1)) => .nx (ρ.set i (some (.lst ds.reverse, 1)))
  | _ => .bad
theorem ap_rev : sRev i ρ = revK i ρ ρ[i]? := by unfold sRev revK; rfl
theorem rev_1 {ds : List D} : revK i ρ (some (some (.lst ds, k + 1))) = .nx (ρ.set i (some (.lst ds.reverse, 1))) := nr rfl
theorem rev_1' {ds : List D} : revK i ρ (some (some (.lst ds, 1))) = .nx (ρ.set i (some (.lst ds.reverse, 1))) := nr rfl
/-! targets -/
theorem gn_ap : gN i d ρ = some (ρ.set i (some (d, 0))) := nr rfl
theorem gt_ap {is : List Nat} {ds : List D} : gT is (.tup ds) ρ = gTs is ds ρ := nr rfl
theorem gts_nil : gTs [] [] ρ = some ρ := nr rfl
theorem gts_cons {is : List Nat} {ds : List D} : gTs (i :: is) (d :: ds) ρ = gTs is ds (ρ.set i (some (d, 0))) := nr rfl
theorem wp_nil : wipeE ρ [] = ρ := nr rfl
theorem wp_cons {vs : List Nat} : wipeE ρ (i :: vs) = (wipeE ρ vs).set i none := nr rfl
theorem fz_nil : frzL [] ρ = ρ := nr rfl
theorem fz_cons {es : List Nat} : frzL (i :: es) ρ = frzL es (frz1 i ρ) := nr rfl
def frzK (i : Nat) (ρ : Ev) : Option Slot → Ev
  | some (some (d, _)) => ρ.set i (some (d, 0))
  | _ => ρ
theorem fz_1 : frz1 i ρ = frzK i ρ ρ[i]? := by unfold frz1 frzK; split <;> simp_all
theorem fz_some : frzK i ρ (some (some (d, k))) = ρ.set i (some (d, 0)) := nr rfl
/-! operators -/
variable {x y : Int} {k1 k2 : Nat} {e1 e2 c1 c2 : List Nat} {xs ys : List D}
theorem o_I : okI x = .ok ⟨.int x, 0, [], []⟩ := nr rfl
theorem o_B {b : Bool} : okB b = .ok ⟨.bl b, 0, [], []⟩ := nr rfl
theorem g_addI : gAdd ⟨.int x, k1, e1, c1⟩ ⟨.int y, k2, e2, c2⟩ = .ok ⟨.int (x + y), 0, [], []⟩ := nr rfl
theorem g_addL : gAdd ⟨.lst xs, k1, e1, c1⟩ ⟨.lst ys, k2, e2, c2⟩ = if xs.length + ys.length ≤ sizeLine then .ok ⟨.lst (xs ++ ys), 1, c1 ++ c2, c1 ++ c2⟩ else .bad := nr rfl
theorem g_subI : gSub ⟨.int x, k1, e1, c1⟩ ⟨.int y, k2, e2, c2⟩ = .ok ⟨.int (x - y), 0, [], []⟩ := nr rfl
theorem g_mulI : gMul ⟨.int x, k1, e1, c1⟩ ⟨.int y, k2, e2, c2⟩ = if CMulL x y then .ok ⟨.int (x * y), 0, [], []⟩ else .bad := nr rfl
theorem g_divI : gDiv ⟨.int x, k1, e1, c1⟩ ⟨.int y, k2, e2, c2⟩ = if CDivL x y then .ok ⟨.int (x.fdiv y), 0, [], []⟩ else .bad := nr rfl
theorem g_modI : gMod ⟨.int x, k1, e1, c1⟩ ⟨.int y, k2, e2, c2⟩ = if y ≠ 0 then .ok ⟨.int (x.fmod y), 0, [], []⟩ else .bad := nr rfl
theorem g_powI : gPow ⟨.int x, k1, e1, c1⟩ ⟨.int y, k2, e2, c2⟩ = if CPow x y then .ok ⟨.int (x ^ y.toNat), 0, [], []⟩ else .bad := nr rfl
theorem g_negI : gNeg ⟨.int x, k1, e1, c1⟩ = .ok ⟨.int (-x), 0, [], []⟩ := nr rfl
theorem g_ltI : gLt ⟨.int x, k1, e1, c1⟩ ⟨.int y, k2, e2, c2⟩ = .ok ⟨.bl (decide (x < y)), 0, [], []⟩ := nr rfl
theorem g_leI : gLe ⟨.int x, k1, e1, c1⟩ ⟨.int y, k2, e2, c2⟩ = .ok ⟨.bl (decide (x ≤ y)), 0, [], []⟩ := nr rfl
theorem g_gtI : gGt ⟨.int x, k1, e1, c1⟩ ⟨.int y, k2, e2, c2⟩ = .ok ⟨.bl (decide (y < x)), 0, [], []⟩ := nr rfl
theorem g_geI : gGe ⟨.int x, k1, e1, c1⟩ ⟨.int y, k2, e2, c2⟩ = .ok ⟨.bl (decide (y ≤ x)), 0, [], []⟩ := nr rfl
theorem g_cmpI {q : Int → Int → Bool} : gCmp q ⟨.int x, k1, e1, c1⟩ ⟨.int y, k2, e2, c2⟩ = .ok ⟨.bl (q x y), 0, [], []⟩ := nr rfl
theorem deq_ii : deq (.int x) (.int y) = decide (x = y) := by unfold deq; first | rfl | (simp [deq]; rfl)
theorem g_eqI : gEq ⟨.int x, k1, e1, c1⟩ ⟨.int y, k2, e2, c2⟩ = .ok ⟨.bl (decide (x = y)), 0, [], []⟩ := by
  show (if pln 60 (.int x) && pln 60 (.int y) then okB (deq (.int x) (.int y)) else .bad) = _
  rw [deq_ii]; rfl
theorem g_neI : gNe ⟨.int x, k1, e1, c1⟩ ⟨.int y, k2, e2, c2⟩ = .ok ⟨.bl (!decide (x = y)), 0, [], []⟩ := by
  show (if pln 60 (.int x) && pln 60 (.int y) then okB (!deq (.int x) (.int y)) else .bad) = _
  rw [deq_ii]; rfl
theorem g_eqD {a b : D} (ha : pln 60 a = true) (hb : pln 60 b = true) : gEq ⟨a, k1, e1, c1⟩ ⟨b, k2, e2, c2⟩ = .ok ⟨.bl (deq a b), 0, [], []⟩ := by
  show (if pln 60 a && pln 60 b then okB (deq a b) else .bad) = _
  rw [ha, hb]; rfl
theorem g_neD {a b : D} (ha : pln 60 a = true) (hb : pln 60 b = true) : gNe ⟨a, k1, e1, c1⟩ ⟨b, k2, e2, c2⟩ = .ok ⟨.bl (!deq a b), 0, [], []⟩ := by
  show (if pln 60 a && pln 60 b then okB (!deq a b) else .bad) = _
  rw [ha, hb]; rfl
def ixK (c : List Nat) : Option D → Res R
  | some d => .ok (itemR ⟨.non, 0, [], c⟩ d)
  | none => .bad
theorem g_ixL : gIx ⟨.lst xs, k1, e1, c1⟩ ⟨.int y, k2, e2, c2⟩ = ixK c1 (atI xs y) := by
  unfold gIx ixK
  cases h : atI xs y <;> simp only [h] <;> first | done | rfl
theorem g_ixT : gIx ⟨.tup xs, k1, e1, c1⟩ ⟨.int y, k2, e2, c2⟩ = ixK c1 (atI xs y) := by
  unfold gIx ixK
  cases h : atI xs y <;> simp only [h] <;> first | done | rfl
theorem ik_int {z : Int} : ixK c (some (.int z)) = .ok ⟨.int z, 0, [], []⟩ := nr rfl
theorem ik_str {z : Str} : ixK c (some (.str z)) = .ok ⟨.str z, 0, [], []⟩ := nr rfl
theorem ik_af (h : af 0 d = true) : ixK c (some d) = .ok ⟨d, 0, [], []⟩ := by unfold ixK itemR; simp only [h, if_true]; rfl
theorem ik_lst {ds : List D} : ixK c (some (.lst ds)) = .ok ⟨.lst ds, 0, c, c⟩ := by unfold ixK itemR; simp [af]
theorem ix_0 {d0 : D} : atI (d0 :: xs) 0 = some d0 := atI_nat (j := 0) rfl
theorem ix_1 {d0 d1 : D} : atI (d0 :: d1 :: xs) 1 = some d1 := atI_nat (j := 1) rfl
theorem ix_2 {d0 d1 d2 : D} : atI (d0 :: d1 :: d2 :: xs) 2 = some d2 := atI_nat (j := 2) rfl
theorem ix_3 {d0 d1 d2 d3 : D} : atI (d0 :: d1 :: d2 :: d3 :: xs) 3 = some d3 := atI_nat (j := 3) rfl
theorem g_len_l : gLen [⟨.lst xs, k1, e1, c1⟩] = .ok ⟨.int xs.length, 0, [], []⟩ := nr rfl
theorem g_len_t : gLen [⟨.tup xs, k1, e1, c1⟩] = .ok ⟨.int xs.length, 0, [], []⟩ := nr rfl
theorem g_absI : gAbs [⟨.int x, k1, e1, c1⟩] = .ok ⟨.int (if x < 0 then -x else x), 0, [], []⟩ := nr rfl
theorem g_intI : gInt [⟨.int x, k1, e1, c1⟩] = .ok ⟨.int x, 0, [], []⟩ := nr rfl
theorem g_intB {b : Bool} : gInt [⟨.bl b, k1, e1, c1⟩] = .ok ⟨.int (if b then 1 else 0), 0, [], []⟩ := nr rfl
theorem g_max2 : gMax2 [⟨.int x, k1, e1, c1⟩, ⟨.int y, k2, e2, c2⟩] = .ok ⟨.int (if y > x then y else x), 0, [], []⟩ := nr rfl
theorem g_min2 : gMin2 [⟨.int x, k1, e1, c1⟩, ⟨.int y, k2, e2, c2⟩] = .ok ⟨.int (if y < x then y else x), 0, [], []⟩ := nr rfl
theorem ints_map : ∀ ns : List Int, intsOf (ns.map .int) = some ns
  | [] => rfl
  | n :: ns => by
    rw [List.map_cons]
    unfold intsOf
    rw [ints_map ns]
    rfl
theorem g_sum {ns : List Int} : gSum [⟨.lst (ns.map .int), k1, e1, c1⟩] = .ok ⟨.int ns.sum, 0, [], []⟩ := by
  unfold gSum onInts on1; simp only [ints_map]; rfl
theorem g_slL {lo hi : Option Int} : gSl ⟨.lst xs, k1, e1, c1⟩ lo hi = .ok ⟨.lst (cutD xs lo hi), 1, c1, c1⟩ := nr rfl
theorem g_rev : gRevL ⟨.lst xs, k1, e1, c1⟩ = .ok ⟨.lst xs.reverse, 1, c1, c1⟩ := nr rfl
theorem g_isi {T : String} (h : isScr d = false) : gIsi T ⟨d, k1, e1, c1⟩ = .ok ⟨.bl (isTy T d), 0, [], []⟩ := by unfold gIsi; simp only [h]; rfl
theorem sq_l : seqI ⟨.lst xs, k1, e1, c1⟩ = .ok ⟨xs, e1, c1⟩ := nr rfl
theorem sq_t : seqI ⟨.tup xs, k1, e1, c1⟩ = .ok ⟨xs, e1, c1⟩ := nr rfl
/-! displays -/
theorem szn (n : Nat) (h : n ≤ 1000) : n ≤ sizeLine := Nat.le_trans h (by decide)
theorem cd_0 {rs : List R} (h : rs.all (fun r => r.k == 0) = true) : cDepth rs = 0 := by
  unfold cDepth
  split
  · rfl
  · rename_i r t q
    split
    · have : r ∈ rs := (List.mem_filter.mp (q ▸ List.mem_cons_self : r ∈ rs.filter fun r => !scal r.d)).1
      simpa using List.all_eq_true.mp h r this
    · rfl
theorem dl_0 {rs : List R} (h : rs.all (fun r => r.k == 0) = true) (h2 : rs.length ≤ sizeLine) : dispL rs = .ok ⟨.lst (rs.map (·.d)), 1, esL rs, esL rs⟩ := by
  unfold dispL; rw [if_pos h2, cd_0 h]
theorem dt_0 {rs : List R} (h : rs.all (fun r => r.k == 0) = true) (h2 : rs.length ≤ sizeLine) : dispT rs = .ok ⟨.tup (rs.map (·.d)), 0, esL rs, esL rs⟩ := by
  unfold dispT; rw [if_pos h2, cd_0 h]; rfl
theorem dl0_0 : dispL [] = .ok ⟨.lst [], 1, [], []⟩ := nr rfl
theorem dt0_0 : dispT [] = .ok ⟨.tup [], 0, [], []⟩ := nr rfl
theorem es_0 : esL [] = [] := nr rfl
theorem es_c {r : R} {rs : List R} : esL (r :: rs) = r.e ++ esL rs := nr rfl
theorem dl0_1 {d0 : D} {e0 c0 : List Nat} : dispL [⟨d0, 0, e0, c0⟩] = .ok ⟨.lst [d0], 1, e0 ++ [], e0 ++ []⟩ := dl_0 rfl (szn 1 (by decide))
theorem dt0_1 {d0 : D} {e0 c0 : List Nat} : dispT [⟨d0, 0, e0, c0⟩] = .ok ⟨.tup [d0], 0, e0 ++ [], e0 ++ []⟩ := dt_0 rfl (szn 1 (by decide))
theorem dl0_2 {d0 d1 : D} {e0 c0 e1 c1 : List Nat} : dispL [⟨d0, 0, e0, c0⟩, ⟨d1, 0, e1, c1⟩] = .ok ⟨.lst [d0, d1], 1, e0 ++ (e1 ++ []), e0 ++ (e1 ++ [])⟩ := dl_0 rfl (szn 2 (by decide))
theorem dt0_2 {d0 d1 : D} {e0 c0 e1 c1 : List Nat} : dispT [⟨d0, 0, e0, c0⟩, ⟨d1, 0, e1, c1⟩] = .ok ⟨.tup [d0, d1], 0, e0 ++ (e1 ++ []), e0 ++ (e1 ++ [])⟩ := dt_0 rfl (szn 2 (by decide))
theorem dl0_3 {d0 d1 d2 : D} {e0 c0 e1 c1 e2 c2 : List Nat} : dispL [⟨d0, 0, e0, c0⟩, ⟨d1, 0, e1, c1⟩, ⟨d2, 0, e2, c2⟩] = .ok ⟨.lst [d0, d1, d2], 1, e0 ++ (e1 ++ (e2 ++ [])), e0 ++ (e1 ++ (e2 ++ []))⟩ := dl_0 rfl (szn 3 (by decide))
theorem dt0_3 {d0 d1 d2 : D} {e0 c0 e1 c1 e2 c2 : List Nat} : dispT [⟨d0, 0, e0, c0⟩, ⟨d1, 0, e1, c1⟩, ⟨d2, 0, e2, c2⟩] = .ok ⟨.tup [d0, d1, d2], 0, e0 ++ (e1 ++ (e2 ++ [])), e0 ++ (e1 ++ (e2 ++ []))⟩ := dt_0 rfl (szn 3 (by decide))
theorem dl0_4 {d0 d1 d2 d3 : D} {e0 c0 e1 c1 e2 c2 e3 c3 : List Nat} : dispL [⟨d0, 0, e0, c0⟩, ⟨d1, 0, e1, c1⟩, ⟨d2, 0, e2, c2⟩, ⟨d3, 0, e3, c3⟩] = .ok ⟨.lst [d0, d1, d2, d3], 1, e0 ++ (e1 ++ (e2 ++ (e3 ++ []))), e0 ++ (e1 ++ (e2 ++ (e3 ++ [])))⟩ := dl_0 rfl (szn 4 (by decide))
theorem dt0_4 {d0 d1 d2 d3 : D} {e0 c0 e1 c1 e2 c2 e3 c3 : List Nat} : dispT [⟨d0, 0, e0, c0⟩, ⟨d1, 0, e1, c1⟩, ⟨d2, 0, e2, c2⟩, ⟨d3, 0, e3, c3⟩] = .ok ⟨.tup [d0, d1, d2, d3], 0, e0 ++ (e1 ++ (e2 ++ (e3 ++ []))), e0 ++ (e1 ++ (e2 ++ (e3 ++ [])))⟩ := dt_0 rfl (szn 4 (by decide))
theorem dl0_5 {d0 d1 d2 d3 d4 : D} {e0 c0 e1 c1 e2 c2 e3 c3 e4 c4 : List Nat} : dispL [⟨d0, 0, e0, c0⟩, ⟨d1, 0, e1, c1⟩, ⟨d2, 0, e2, c2⟩, ⟨d3, 0, e3, c3⟩, ⟨d4, 0, e4, c4⟩] = .ok ⟨.lst [d0, d1, d2, d3, d4], 1, e0 ++ (e1 ++ (e2 ++ (e3 ++ (e4 ++ [])))), e0 ++ (e1 ++ (e2 ++ (e3 ++ (e4 ++ []))))⟩ := dl_0 rfl (szn 5 (by decide))
theorem dt0_5 {d0 d1 d2 d3 d4 : D} {e0 c0 e1 c1 e2 c2 e3 c3 e4 c4 : List Nat} : dispT [⟨d0, 0, e0, c0⟩, ⟨d1, 0, e1, c1⟩, ⟨d2, 0, e2, c2⟩, ⟨d3, 0, e3, c3⟩, ⟨d4, 0, e4, c4⟩] = .ok ⟨.tup [d0, d1, d2, d3, d4], 0, e0 ++ (e1 ++ (e2 ++ (e3 ++ (e4 ++ [])))), e0 ++ (e1 ++ (e2 ++ (e3 ++ (e4 ++ []))))⟩ := dt_0 rfl (szn 5 (by decide))
theorem dl0_6 {d0 d1 d2 d3 d4 d5 : D} {e0 c0 e1 c1 e2 c2 e3 c3 e4 c4 e5 c5 : List Nat} : dispL [⟨d0, 0, e0, c0⟩, ⟨d1, 0, e1, c1⟩, ⟨d2, 0, e2, c2⟩, ⟨d3, 0, e3, c3⟩, ⟨d4, 0, e4, c4⟩, ⟨d5, 0, e5, c5⟩] = .ok ⟨.lst [d0, d1, d2, d3, d4, d5], 1, e0 ++ (e1 ++ (e2 ++ (e3 ++ (e4 ++ (e5 ++ []))))), e0 ++ (e1 ++ (e2 ++ (e3 ++ (e4 ++ (e5 ++ [])))))⟩ := dl_0 rfl (szn 6 (by decide))
theorem dt0_6 {d0 d1 d2 d3 d4 d5 : D} {e0 c0 e1 c1 e2 c2 e3 c3 e4 c4 e5 c5 : List Nat} : dispT [⟨d0, 0, e0, c0⟩, ⟨d1, 0, e1, c1⟩, ⟨d2, 0, e2, c2⟩, ⟨d3, 0, e3, c3⟩, ⟨d4, 0, e4, c4⟩, ⟨d5, 0, e5, c5⟩] = .ok ⟨.tup [d0, d1, d2, d3, d4, d5], 0, e0 ++ (e1 ++ (e2 ++ (e3 ++ (e4 ++ (e5 ++ []))))), e0 ++ (e1 ++ (e2 ++ (e3 ++ (e4 ++ (e5 ++ [])))))⟩ := dt_0 rfl (szn 6 (by decide))
theorem dl0_7 {d0 d1 d2 d3 d4 d5 d6 : D} {e0 c0 e1 c1 e2 c2 e3 c3 e4 c4 e5 c5 e6 c6 : List Nat} : dispL [⟨d0, 0, e0, c0⟩, ⟨d1, 0, e1, c1⟩, ⟨d2, 0, e2, c2⟩, ⟨d3, 0, e3, c3⟩, ⟨d4, 0, e4, c4⟩, ⟨d5, 0, e5, c5⟩, ⟨d6, 0, e6, c6⟩] = .ok ⟨.lst [d0, d1, d2, d3, d4, d5, d6], 1, e0 ++ (e1 ++ (e2 ++ (e3 ++ (e4 ++ (e5 ++ (e6 ++ [])))))), e0 ++ (e1 ++ (e2 ++ (e3 ++ (e4 ++ (e5 ++ (e6 ++ []))))))⟩ := dl_0 rfl (szn 7 (by decide))
theorem dt0_7 {d0 d1 d2 d3 d4 d5 d6 : D} {e0 c0 e1 c1 e2 c2 e3 c3 e4 c4 e5 c5 e6 c6 : List Nat} : dispT [⟨d0, 0, e0, c0⟩, ⟨d1, 0, e1, c1⟩, ⟨d2, 0, e2, c2⟩, ⟨d3, 0, e3, c3⟩, ⟨d4, 0, e4, c4⟩, ⟨d5, 0, e5, c5⟩, ⟨d6, 0, e6, c6⟩] = .ok ⟨.tup [d0, d1, d2, d3, d4, d5, d6], 0, e0 ++ (e1 ++ (e2 ++ (e3 ++ (e4 ++ (e5 ++ (e6 ++ [])))))), e0 ++ (e1 ++ (e2 ++ (e3 ++ (e4 ++ (e5 ++ (e6 ++ []))))))⟩ := dt_0 rfl (szn 7 (by decide))
theorem dl0_8 {d0 d1 d2 d3 d4 d5 d6 d7 : D} {e0 c0 e1 c1 e2 c2 e3 c3 e4 c4 e5 c5 e6 c6 e7 c7 : List Nat} : dispL [⟨d0, 0, e0, c0⟩, ⟨d1, 0, e1, c1⟩, ⟨d2, 0, e2, c2⟩, ⟨d3, 0, e3, c3⟩, ⟨d4, 0, e4, c4⟩, ⟨d5, 0, e5, c5⟩, ⟨d6, 0, e6, c6⟩, ⟨d7, 0, e7, c7⟩] = .ok ⟨.lst [d0, d1, d2, d3, d4, d5, d6, d7], 1, e0 ++ (e1 ++ (e2 ++ (e3 ++ (e4 ++ (e5 ++ (e6 ++ (e7 ++ []))))))), e0 ++ (e1 ++ (e2 ++ (e3 ++ (e4 ++ (e5 ++ (e6 ++ (e7 ++ [])))))))⟩ := dl_0 rfl (szn 8 (by decide))
theorem dt0_8 {d0 d1 d2 d3 d4 d5 d6 d7 : D} {e0 c0 e1 c1 e2 c2 e3 c3 e4 c4 e5 c5 e6 c6 e7 c7 : List Nat} : dispT [⟨d0, 0, e0, c0⟩, ⟨d1, 0, e1, c1⟩, ⟨d2, 0, e2, c2⟩, ⟨d3, 0, e3, c3⟩, ⟨d4, 0, e4, c4⟩, ⟨d5, 0, e5, c5⟩, ⟨d6, 0, e6, c6⟩, ⟨d7, 0, e7, c7⟩] = .ok ⟨.tup [d0, d1, d2, d3, d4, d5, d6, d7], 0, e0 ++ (e1 ++ (e2 ++ (e3 ++ (e4 ++ (e5 ++ (e6 ++ (e7 ++ []))))))), e0 ++ (e1 ++ (e2 ++ (e3 ++ (e4 ++ (e5 ++ (e6 ++ (e7 ++ [])))))))⟩ := dt_0 rfl (szn 8 (by decide))
theorem dl0_9 {d0 d1 d2 d3 d4 d5 d6 d7 d8 : D} {e0 c0 e1 c1 e2 c2 e3 c3 e4 c4 e5 c5 e6 c6 e7 c7 e8 c8 : List Nat} : dispL [⟨d0, 0, e0, c0⟩, ⟨d1, 0, e1, c1⟩, ⟨d2, 0, e2, c2⟩, ⟨d3, 0, e3, c3⟩, ⟨d4, 0, e4, c4⟩, ⟨d5, 0, e5, c5⟩, ⟨d6, 0, e6, c6⟩, ⟨d7, 0, e7, c7⟩, ⟨d8, 0, e8, c8⟩] = .ok ⟨.lst [d0, d1, d2, d3, d4, d5, d6, d7, d8], 1, e0 ++ (e1 ++ (e2 ++ (e3 ++ (e4 ++ (e5 ++ (e6 ++ (e7 ++ (e8 ++ [])))))))), e0 ++ (e1 ++ (e2 ++ (e3 ++ (e4 ++ (e5 ++ (e6 ++ (e7 ++ (e8 ++ []))))))))⟩ := dl_0 rfl (szn 9 (by decide))
theorem dl0_10 {d0 d1 d2 d3 d4 d5 d6 d7 d8 d9 : D} {e0 c0 e1 c1 e2 c2 e3 c3 e4 c4 e5 c5 e6 c6 e7 c7 e8 c8 e9 c9 : List Nat} : dispL [⟨d0, 0, e0, c0⟩, ⟨d1, 0, e1, c1⟩, ⟨d2, 0, e2, c2⟩, ⟨d3, 0, e3, c3⟩, ⟨d4, 0, e4, c4⟩, ⟨d5, 0, e5, c5⟩, ⟨d6, 0, e6, c6⟩, ⟨d7, 0, e7, c7⟩, ⟨d8, 0, e8, c8⟩, ⟨d9, 0, e9, c9⟩] = .ok ⟨.lst [d0, d1, d2, d3, d4, d5, d6, d7, d8, d9], 1, e0 ++ (e1 ++ (e2 ++ (e3 ++ (e4 ++ (e5 ++ (e6 ++ (e7 ++ (e8 ++ (e9 ++ []))))))))), e0 ++ (e1 ++ (e2 ++ (e3 ++ (e4 ++ (e5 ++ (e6 ++ (e7 ++ (e8 ++ (e9 ++ [])))))))))⟩ := dl_0 rfl (szn 10 (by decide))
theorem dl0_11 {d0 d1 d2 d3 d4 d5 d6 d7 d8 d9 d10 : D} {e0 c0 e1 c1 e2 c2 e3 c3 e4 c4 e5 c5 e6 c6 e7 c7 e8 c8 e9 c9 e10 c10 : List Nat} : dispL [⟨d0, 0, e0, c0⟩, ⟨d1, 0, e1, c1⟩, ⟨d2, 0, e2, c2⟩, ⟨d3, 0, e3, c3⟩, ⟨d4, 0, e4, c4⟩, ⟨d5, 0, e5, c5⟩, ⟨d6, 0, e6, c6⟩, ⟨d7, 0, e7, c7⟩, ⟨d8, 0, e8, c8⟩, ⟨d9, 0, e9, c9⟩, ⟨d10, 0, e10, c10⟩] = .ok ⟨.lst [d0, d1, d2, d3, d4, d5, d6, d7, d8, d9, d10], 1, e0 ++ (e1 ++ (e2 ++ (e3 ++ (e4 ++ (e5 ++ (e6 ++ (e7 ++ (e8 ++ (e9 ++ (e10 ++ [])))))))))), e0 ++ (e1 ++ (e2 ++ (e3 ++ (e4 ++ (e5 ++ (e6 ++ (e7 ++ (e8 ++ (e9 ++ (e10 ++ []))))))))))⟩ := dl_0 rfl (szn 11 (by decide))
theorem dl0_12 {d0 d1 d2 d3 d4 d5 d6 d7 d8 d9 d10 d11 : D} {e0 c0 e1 c1 e2 c2 e3 c3 e4 c4 e5 c5 e6 c6 e7 c7 e8 c8 e9 c9 e10 c10 e11 c11 : List Nat} : dispL [⟨d0, 0, e0, c0⟩, ⟨d1, 0, e1, c1⟩, ⟨d2, 0, e2, c2⟩, ⟨d3, 0, e3, c3⟩, ⟨d4, 0, e4, c4⟩, ⟨d5, 0, e5, c5⟩, ⟨d6, 0, e6, c6⟩, ⟨d7, 0, e7, c7⟩, ⟨d8, 0, e8, c8⟩, ⟨d9, 0, e9, c9⟩, ⟨d10, 0, e10, c10⟩, ⟨d11, 0, e11, c11⟩] = .ok ⟨.lst [d0, d1, d2, d3, d4, d5, d6, d7, d8, d9, d10, d11], 1, e0 ++ (e1 ++ (e2 ++ (e3 ++ (e4 ++ (e5 ++ (e6 ++ (e7 ++ (e8 ++ (e9 ++ (e10 ++ (e11 ++ []))))))))))), e0 ++ (e1 ++ (e2 ++ (e3 ++ (e4 ++ (e5 ++ (e6 ++ (e7 ++ (e8 ++ (e9 ++ (e10 ++ (e11 ++ [])))))))))))⟩ := dl_0 rfl (szn 12 (by decide))
theorem dl0_13 {d0 d1 d2 d3 d4 d5 d6 d7 d8 d9 d10 d11 d12 : D} {e0 c0 e1 c1 e2 c2 e3 c3 e4 c4 e5 c5 e6 c6 e7 c7 e8 c8 e9 c9 e10 c10 e11 c11 e12 c12 : List Nat} : dispL [⟨d0, 0, e0, c0⟩, ⟨d1, 0, e1, c1⟩, ⟨d2, 0, e2, c2⟩, ⟨d3, 0, e3, c3⟩, ⟨d4, 0, e4, c4⟩, ⟨d5, 0, e5, c5⟩, ⟨d6, 0, e6, c6⟩, ⟨d7, 0, e7, c7⟩, ⟨d8, 0, e8, c8⟩, ⟨d9, 0, e9, c9⟩, ⟨d10, 0, e10, c10⟩, ⟨d11, 0, e11, c11⟩, ⟨d12, 0, e12, c12⟩] = .ok ⟨.lst [d0, d1, d2, d3, d4, d5, d6, d7, d8, d9, d10, d11, d12], 1, e0 ++ (e1 ++ (e2 ++ (e3 ++ (e4 ++ (e5 ++ (e6 ++ (e7 ++ (e8 ++ (e9 ++ (e10 ++ (e11 ++ (e12 ++ [])))))))))))), e0 ++ (e1 ++ (e2 ++ (e3 ++ (e4 ++ (e5 ++ (e6 ++ (e7 ++ (e8 ++ (e9 ++ (e10 ++ (e11 ++ (e12 ++ []))))))))))))⟩ := dl_0 rfl (szn 13 (by decide))
theorem dl0_14 {d0 d1 d2 d3 d4 d5 d6 d7 d8 d9 d10 d11 d12 d13 : D} {e0 c0 e1 c1 e2 c2 e3 c3 e4 c4 e5 c5 e6 c6 e7 c7 e8 c8 e9 c9 e10 c10 e11 c11 e12 c12 e13 c13 : List Nat} : dispL [⟨d0, 0, e0, c0⟩, ⟨d1, 0, e1, c1⟩, ⟨d2, 0, e2, c2⟩, ⟨d3, 0, e3, c3⟩, ⟨d4, 0, e4, c4⟩, ⟨d5, 0, e5, c5⟩, ⟨d6, 0, e6, c6⟩, ⟨d7, 0, e7, c7⟩, ⟨d8, 0, e8, c8⟩, ⟨d9, 0, e9, c9⟩, ⟨d10, 0, e10, c10⟩, ⟨d11, 0, e11, c11⟩, ⟨d12, 0, e12, c12⟩, ⟨d13, 0, e13, c13⟩] = .ok ⟨.lst [d0, d1, d2, d3, d4, d5, d6, d7, d8, d9, d10, d11, d12, d13], 1, e0 ++ (e1 ++ (e2 ++ (e3 ++ (e4 ++ (e5 ++ (e6 ++ (e7 ++ (e8 ++ (e9 ++ (e10 ++ (e11 ++ (e12 ++ (e13 ++ []))))))))))))), e0 ++ (e1 ++ (e2 ++ (e3 ++ (e4 ++ (e5 ++ (e6 ++ (e7 ++ (e8 ++ (e9 ++ (e10 ++ (e11 ++ (e12 ++ (e13 ++ [])))))))))))))⟩ := dl_0 rfl (szn 14 (by decide))
theorem dl0_15 {d0 d1 d2 d3 d4 d5 d6 d7 d8 d9 d10 d11 d12 d13 d14 : D} {e0 c0 e1 c1 e2 c2 e3 c3 e4 c4 e5 c5 e6 c6 e7 c7 e8 c8 e9 c9 e10 c10 e11 c11 e12 c12 e13 c13 e14 c14 : List Nat} : dispL [⟨d0, 0, e0, c0⟩, ⟨d1, 0, e1, c1⟩, ⟨d2, 0, e2, c2⟩, ⟨d3, 0, e3, c3⟩, ⟨d4, 0, e4, c4⟩, ⟨d5, 0, e5, c5⟩, ⟨d6, 0, e6, c6⟩, ⟨d7, 0, e7, c7⟩, ⟨d8, 0, e8, c8⟩, ⟨d9, 0, e9, c9⟩, ⟨d10, 0, e10, c10⟩, ⟨d11, 0, e11, c11⟩, ⟨d12, 0, e12, c12⟩, ⟨d13, 0, e13, c13⟩, ⟨d14, 0, e14, c14⟩] = .ok ⟨.lst [d0, d1, d2, d3, d4, d5, d6, d7, d8, d9, d10, d11, d12, d13, d14], 1, e0 ++ (e1 ++ (e2 ++ (e3 ++ (e4 ++ (e5 ++ (e6 ++ (e7 ++ (e8 ++ (e9 ++ (e10 ++ (e11 ++ (e12 ++ (e13 ++ (e14 ++ [])))))))))))))), e0 ++ (e1 ++ (e2 ++ (e3 ++ (e4 ++ (e5 ++ (e6 ++ (e7 ++ (e8 ++ (e9 ++ (e10 ++ (e11 ++ (e12 ++ (e13 ++ (e14 ++ []))))))))))))))⟩ := dl_0 rfl (szn 15 (by decide))
theorem dl0_16 {d0 d1 d2 d3 d4 d5 d6 d7 d8 d9 d10 d11 d12 d13 d14 d15 : D} {e0 c0 e1 c1 e2 c2 e3 c3 e4 c4 e5 c5 e6 c6 e7 c7 e8 c8 e9 c9 e10 c10 e11 c11 e12 c12 e13 c13 e14 c14 e15 c15 : List Nat} : dispL [⟨d0, 0, e0, c0⟩, ⟨d1, 0, e1, c1⟩, ⟨d2, 0, e2, c2⟩, ⟨d3, 0, e3, c3⟩, ⟨d4, 0, e4, c4⟩, ⟨d5, 0, e5, c5⟩, ⟨d6, 0, e6, c6⟩, ⟨d7, 0, e7, c7⟩, ⟨d8, 0, e8, c8⟩, ⟨d9, 0, e9, c9⟩, ⟨d10, 0, e10, c10⟩, ⟨d11, 0, e11, c11⟩, ⟨d12, 0, e12, c12⟩, ⟨d13, 0, e13, c13⟩, ⟨d14, 0, e14, c14⟩, ⟨d15, 0, e15, c15⟩] = .ok ⟨.lst [d0, d1, d2, d3, d4, d5, d6, d7, d8, d9, d10, d11, d12, d13, d14, d15], 1, e0 ++ (e1 ++ (e2 ++ (e3 ++ (e4 ++ (e5 ++ (e6 ++ (e7 ++ (e8 ++ (e9 ++ (e10 ++ (e11 ++ (e12 ++ (e13 ++ (e14 ++ (e15 ++ []))))))))))))))), e0 ++ (e1 ++ (e2 ++ (e3 ++ (e4 ++ (e5 ++ (e6 ++ (e7 ++ (e8 ++ (e9 ++ (e10 ++ (e11 ++ (e12 ++ (e13 ++ (e14 ++ (e15 ++ [])))))))))))))))⟩ := dl_0 rfl (szn 16 (by decide))
theorem dl0_17 {d0 d1 d2 d3 d4 d5 d6 d7 d8 d9 d10 d11 d12 d13 d14 d15 d16 : D} {e0 c0 e1 c1 e2 c2 e3 c3 e4 c4 e5 c5 e6 c6 e7 c7 e8 c8 e9 c9 e10 c10 e11 c11 e12 c12 e13 c13 e14 c14 e15 c15 e16 c16 : List Nat} : dispL [⟨d0, 0, e0, c0⟩, ⟨d1, 0, e1, c1⟩, ⟨d2, 0, e2, c2⟩, ⟨d3, 0, e3, c3⟩, ⟨d4, 0, e4, c4⟩, ⟨d5, 0, e5, c5⟩, ⟨d6, 0, e6, c6⟩, ⟨d7, 0, e7, c7⟩, ⟨d8, 0, e8, c8⟩, ⟨d9, 0, e9, c9⟩, ⟨d10, 0, e10, c10⟩, ⟨d11, 0, e11, c11⟩, ⟨d12, 0, e12, c12⟩, ⟨d13, 0, e13, c13⟩, ⟨d14, 0, e14, c14⟩, ⟨d15, 0, e15, c15⟩, ⟨d16, 0, e16, c16⟩] = .ok ⟨.lst [d0, d1, d2, d3, d4, d5, d6, d7, d8, d9, d10, d11, d12, d13, d14, d15, d16], 1, e0 ++ (e1 ++ (e2 ++ (e3 ++ (e4 ++ (e5 ++ (e6 ++ (e7 ++ (e8 ++ (e9 ++ (e10 ++ (e11 ++ (e12 ++ (e13 ++ (e14 ++ (e15 ++ (e16 ++ [])))))))))))))))), e0 ++ (e1 ++ (e2 ++ (e3 ++ (e4 ++ (e5 ++ (e6 ++ (e7 ++ (e8 ++ (e9 ++ (e10 ++ (e11 ++ (e12 ++ (e13 ++ (e14 ++ (e15 ++ (e16 ++ []))))))))))))))))⟩ := dl_0 rfl (szn 17 (by decide))
theorem dl0_18 {d0 d1 d2 d3 d4 d5 d6 d7 d8 d9 d10 d11 d12 d13 d14 d15 d16 d17 : D} {e0 c0 e1 c1 e2 c2 e3 c3 e4 c4 e5 c5 e6 c6 e7 c7 e8 c8 e9 c9 e10 c10 e11 c11 e12 c12 e13 c13 e14 c14 e15 c15 e16 c16 e17 c17 : List Nat} : dispL [⟨d0, 0, e0, c0⟩, ⟨d1, 0, e1, c1⟩, ⟨d2, 0, e2, c2⟩, ⟨d3, 0, e3, c3⟩, ⟨d4, 0, e4, c4⟩, ⟨d5, 0, e5, c5⟩, ⟨d6, 0, e6, c6⟩, ⟨d7, 0, e7, c7⟩, ⟨d8, 0, e8, c8⟩, ⟨d9, 0, e9, c9⟩, ⟨d10, 0, e10, c10⟩, ⟨d11, 0, e11, c11⟩, ⟨d12, 0, e12, c12⟩, ⟨d13, 0, e13, c13⟩, ⟨d14, 0, e14, c14⟩, ⟨d15, 0, e15, c15⟩, ⟨d16, 0, e16, c16⟩, ⟨d17, 0, e17, c17⟩] = .ok ⟨.lst [d0, d1, d2, d3, d4, d5, d6, d7, d8, d9, d10, d11, d12, d13, d14, d15, d16, d17], 1, e0 ++ (e1 ++ (e2 ++ (e3 ++ (e4 ++ (e5 ++ (e6 ++ (e7 ++ (e8 ++ (e9 ++ (e10 ++ (e11 ++ (e12 ++ (e13 ++ (e14 ++ (e15 ++ (e16 ++ (e17 ++ []))))))))))))))))), e0 ++ (e1 ++ (e2 ++ (e3 ++ (e4 ++ (e5 ++ (e6 ++ (e7 ++ (e8 ++ (e9 ++ (e10 ++ (e11 ++ (e12 ++ (e13 ++ (e14 ++ (e15 ++ (e16 ++ (e17 ++ [])))))))))))))))))⟩ := dl_0 rfl (szn 18 (by decide))
theorem dl0_19 {d0 d1 d2 d3 d4 d5 d6 d7 d8 d9 d10 d11 d12 d13 d14 d15 d16 d17 d18 : D} {e0 c0 e1 c1 e2 c2 e3 c3 e4 c4 e5 c5 e6 c6 e7 c7 e8 c8 e9 c9 e10 c10 e11 c11 e12 c12 e13 c13 e14 c14 e15 c15 e16 c16 e17 c17 e18 c18 : List Nat} : dispL [⟨d0, 0, e0, c0⟩, ⟨d1, 0, e1, c1⟩, ⟨d2, 0, e2, c2⟩, ⟨d3, 0, e3, c3⟩, ⟨d4, 0, e4, c4⟩, ⟨d5, 0, e5, c5⟩, ⟨d6, 0, e6, c6⟩, ⟨d7, 0, e7, c7⟩, ⟨d8, 0, e8, c8⟩, ⟨d9, 0, e9, c9⟩, ⟨d10, 0, e10, c10⟩, ⟨d11, 0, e11, c11⟩, ⟨d12, 0, e12, c12⟩, ⟨d13, 0, e13, c13⟩, ⟨d14, 0, e14, c14⟩, ⟨d15, 0, e15, c15⟩, ⟨d16, 0, e16, c16⟩, ⟨d17, 0, e17, c17⟩, ⟨d18, 0, e18, c18⟩] = .ok ⟨.lst [d0, d1, d2, d3, d4, d5, d6, d7, d8, d9, d10, d11, d12, d13, d14, d15, d16, d17, d18], 1, e0 ++ (e1 ++ (e2 ++ (e3 ++ (e4 ++ (e5 ++ (e6 ++ (e7 ++ (e8 ++ (e9 ++ (e10 ++ (e11 ++ (e12 ++ (e13 ++ (e14 ++ (e15 ++ (e16 ++ (e17 ++ (e18 ++ [])))))))))))))))))), e0 ++ (e1 ++ (e2 ++ (e3 ++ (e4 ++ (e5 ++ (e6 ++ (e7 ++ (e8 ++ (e9 ++ (e10 ++ (e11 ++ (e12 ++ (e13 ++ (e14 ++ (e15 ++ (e16 ++ (e17 ++ (e18 ++ []))))))))))))))))))⟩ := dl_0 rfl (szn 19 (by decide))
theorem dl0_20 {d0 d1 d2 d3 d4 d5 d6 d7 d8 d9 d10 d11 d12 d13 d14 d15 d16 d17 d18 d19 : D} {e0 c0 e1 c1 e2 c2 e3 c3 e4 c4 e5 c5 e6 c6 e7 c7 e8 c8 e9 c9 e10 c10 e11 c11 e12 c12 e13 c13 e14 c14 e15 c15 e16 c16 e17 c17 e18 c18 e19 c19 : List Nat} : dispL [⟨d0, 0, e0, c0⟩, ⟨d1, 0, e1, c1⟩, ⟨d2, 0, e2, c2⟩, ⟨d3, 0, e3, c3⟩, ⟨d4, 0, e4, c4⟩, ⟨d5, 0, e5, c5⟩, ⟨d6, 0, e6, c6⟩, ⟨d7, 0, e7, c7⟩, ⟨d8, 0, e8, c8⟩, ⟨d9, 0, e9, c9⟩, ⟨d10, 0, e10, c10⟩, ⟨d11, 0, e11, c11⟩, ⟨d12, 0, e12, c12⟩, ⟨d13, 0, e13, c13⟩, ⟨d14, 0, e14, c14⟩, ⟨d15, 0, e15, c15⟩, ⟨d16, 0, e16, c16⟩, ⟨d17, 0, e17, c17⟩, ⟨d18, 0, e18, c18⟩, ⟨d19, 0, e19, c19⟩] = .ok ⟨.lst [d0, d1, d2, d3, d4, d5, d6, d7, d8, d9, d10, d11, d12, d13, d14, d15, d16, d17, d18, d19], 1, e0 ++ (e1 ++ (e2 ++ (e3 ++ (e4 ++ (e5 ++ (e6 ++ (e7 ++ (e8 ++ (e9 ++ (e10 ++ (e11 ++ (e12 ++ (e13 ++ (e14 ++ (e15 ++ (e16 ++ (e17 ++ (e18 ++ (e19 ++ []))))))))))))))))))), e0 ++ (e1 ++ (e2 ++ (e3 ++ (e4 ++ (e5 ++ (e6 ++ (e7 ++ (e8 ++ (e9 ++ (e10 ++ (e11 ++ (e12 ++ (e13 ++ (e14 ++ (e15 ++ (e16 ++ (e17 ++ (e18 ++ (e19 ++ [])))))))))))))))))))⟩ := dl_0 rfl (szn 20 (by decide))
theorem dt_g {rs : List R} (h2 : rs.length ≤ sizeLine) : dispT rs = .ok ⟨.tup (rs.map (·.d)), if cDepth rs = 0 then 0 else cDepth rs + 1, esL rs, esL rs⟩ := if_pos h2
theorem dl_g {rs : List R} (h2 : rs.length ≤ sizeLine) : dispL rs = .ok ⟨.lst (rs.map (·.d)), cDepth rs + 1, esL rs, esL rs⟩ := if_pos h2
theorem dt_i1 {z : Int} {xs : List D} {e c : List Nat} : dispT [⟨.int z, 0, [], []⟩, ⟨.lst xs, 1, e, c⟩] = .ok ⟨.tup [.int z, .lst xs], 2, e ++ [], e ++ []⟩ := by
  refine Eq.trans (dt_g ?_) ?_
  · exact szn 2 (by decide)
  · rfl
theorem dt_l1i {z : Int} {xs : List D} {e c : List Nat} : dispT [⟨.lst xs, 1, e, c⟩, ⟨.int z, 0, [], []⟩] = .ok ⟨.tup [.lst xs, .int z], 2, e ++ [], e ++ []⟩ := by
  refine Eq.trans (dt_g ?_) ?_
  · exact szn 2 (by decide)
  · rfl
theorem dl_l1 {xs : List D} {e c : List Nat} : dispL [⟨.lst xs, 1, e, c⟩] = .ok ⟨.lst [.lst xs], 2, e ++ [], e ++ []⟩ := by
  refine Eq.trans (dl_g ?_) ?_
  · exact szn 1 (by decide)
  · rfl
theorem dl_l1l1 {xs ys : List D} {e c e' c' : List Nat} : dispL [⟨.lst xs, 1, e, c⟩, ⟨.lst ys, 1, e', c'⟩] = .ok ⟨.lst [.lst xs, .lst ys], 2, e ++ (e' ++ []), e ++ (e' ++ [])⟩ := by
  refine Eq.trans (dl_g ?_) ?_
  · exact szn 2 (by decide)
  · rfl
/-! range -/
def InR (x : Int) : Prop := -(2 ^ 62) ≤ x ∧ x < 2 ^ 62
theorem InR.of {x : Int} (h1 : -1000000000000 ≤ x) (h2 : x ≤ 1000000000000) : InR x := by
  unfold InR
  have e : (2 : Int) ^ 62 = 4611686018427387904 := by decide
  rw [e]; omega
theorem r1_ok (h : InR x) : on1I rng1 [⟨.int x, k1, e1, c1⟩] = .ok ⟨rgD 0 x.toNat, [], []⟩ := by
  unfold on1I rng1
  exact if_pos h
theorem r2_ok (h : InR x) (h' : InR y) : on2I rng2 [⟨.int x, k1, e1, c1⟩, ⟨.int y, k2, e2, c2⟩] = .ok ⟨rgD x (y - x).toNat, [], []⟩ := by
  unfold on2I rng2
  exact if_pos ⟨h.1, h.2, h'.1, h'.2⟩
theorem lr1_ok (h : InR x) (h2 : x.toNat ≤ 2 ^ 24) : gLR1 ⟨.int x, k1, e1, c1⟩ = .ok ⟨.lst (rgD 0 x.toNat), 1, [], []⟩ := by
  unfold gLR1 lrg
  simp only [Int.sub_zero]
  exact if_pos ⟨by decide, by decide, h.1, h.2, h2⟩
/-! calls -/
def callV (rs : List R) (d : D) (k : Nat) : R := if af k d then ⟨d, k, [], []⟩ else ⟨d, k, esL rs, esL rs⟩
theorem cl_ok {sem : DS} {rs : List R} (hn : rs.length = n) (h : sem (rs.map (·.d)) = .ok (d, k)) : callR n sem rs = .ok (callV rs d k) := by
  unfold callR callV
  rw [if_pos hn, h]
theorem cv_af {rs : List R} (h : af k d = true) : callV rs d k = ⟨d, k, [], []⟩ := by unfold callV; rw [if_pos h]
theorem c1_ok {sem : DS} {d1 : D} (h : sem [d1] = .ok (d, k)) (ha : af k d = true) : callR 1 sem [⟨d1, k1, e1, c1⟩] = .ok ⟨d, k, [], []⟩ := by rw [cl_ok (n := 1) rfl h, cv_af ha]
theorem c2_ok {sem : DS} {d1 d2 : D} (h : sem [d1, d2] = .ok (d, k)) (ha : af k d = true) : callR 2 sem [⟨d1, k1, e1, c1⟩, ⟨d2, k2, e2, c2⟩] = .ok ⟨d, k, [], []⟩ := by rw [cl_ok (n := 2) rfl h, cv_af ha]
theorem c3_ok {sem : DS} {d1 d2 d3 : D} {k3 : Nat} {e3 c3 : List Nat} (h : sem [d1, d2, d3] = .ok (d, k)) (ha : af k d = true) : callR 3 sem [⟨d1, k1, e1, c1⟩, ⟨d2, k2, e2, c2⟩, ⟨d3, k3, e3, c3⟩] = .ok ⟨d, k, [], []⟩ := by rw [cl_ok (n := 3) rfl h, cv_af ha]
theorem c4_ok {sem : DS} {d1 d2 d3 d4 : D} {k3 k4 : Nat} {e3 c3 e4 c4 : List Nat} (h : sem [d1, d2, d3, d4] = .ok (d, k)) (ha : af k d = true) : callR 4 sem [⟨d1, k1, e1, c1⟩, ⟨d2, k2, e2, c2⟩, ⟨d3, k3, e3, c3⟩, ⟨d4, k4, e4, c4⟩] = .ok ⟨d, k, [], []⟩ := by rw [cl_ok (n := 4) rfl h, cv_af ha]
theorem c5_ok {sem : DS} {d1 d2 d3 d4 d5 : D} {k3 k4 k5 : Nat} {e3 c3 e4 c4 e5 c5 : List Nat} (h : sem [d1, d2, d3, d4, d5] = .ok (d, k)) (ha : af k d = true) : callR 5 sem [⟨d1, k1, e1, c1⟩, ⟨d2, k2, e2, c2⟩, ⟨d3, k3, e3, c3⟩, ⟨d4, k4, e4, c4⟩, ⟨d5, k5, e5, c5⟩] = .ok ⟨d, k, [], []⟩ := by rw [cl_ok (n := 5) rfl h, cv_af ha]
def callE (rs : List R) (d : D) (k : Nat) : List Nat := if af k d then [] else esL rs
theorem cl_any {sem : DS} {rs : List R} (hn : rs.length = n) (h : sem (rs.map (·.d)) = .ok (d, k)) : callR n sem rs = .ok ⟨d, k, callE rs d k, callE rs d k⟩ := by
  rw [cl_ok hn h]
  unfold callV callE
  split <;> rfl
theorem c1_any {sem : DS} {d1 : D} (h : sem [d1] = .ok (d, k)) : callR 1 sem [⟨d1, k1, e1, c1⟩] = .ok ⟨d, k, callE [⟨d1, k1, e1, c1⟩] d k, callE [⟨d1, k1, e1, c1⟩] d k⟩ := by rw [cl_any (n := 1) rfl h]
theorem c2_any {sem : DS} {d1 d2 : D} (h : sem [d1, d2] = .ok (d, k)) : callR 2 sem [⟨d1, k1, e1, c1⟩, ⟨d2, k2, e2, c2⟩] = .ok ⟨d, k, callE [⟨d1, k1, e1, c1⟩, ⟨d2, k2, e2, c2⟩] d k, callE [⟨d1, k1, e1, c1⟩, ⟨d2, k2, e2, c2⟩] d k⟩ := by rw [cl_any (n := 2) rfl h]
theorem c3_any {sem : DS} {d1 d2 d3 : D} {k3 : Nat} {e3 c3 : List Nat} (h : sem [d1, d2, d3] = .ok (d, k)) : callR 3 sem [⟨d1, k1, e1, c1⟩, ⟨d2, k2, e2, c2⟩, ⟨d3, k3, e3, c3⟩] = .ok ⟨d, k, callE [⟨d1, k1, e1, c1⟩, ⟨d2, k2, e2, c2⟩, ⟨d3, k3, e3, c3⟩] d k, callE [⟨d1, k1, e1, c1⟩, ⟨d2, k2, e2, c2⟩, ⟨d3, k3, e3, c3⟩] d k⟩ := by rw [cl_any (n := 3) rfl h]
theorem c6_ok {sem : DS} {d1 d2 d3 d4 d5 d6 : D} {k3 k4 k5 k6 : Nat} {e3 c3 e4 c4 e5 c5 e6 c6 : List Nat} (h : sem [d1, d2, d3, d4, d5, d6] = .ok (d, k)) (ha : af k d = true) : callR 6 sem [⟨d1, k1, e1, c1⟩, ⟨d2, k2, e2, c2⟩, ⟨d3, k3, e3, c3⟩, ⟨d4, k4, e4, c4⟩, ⟨d5, k5, e5, c5⟩, ⟨d6, k6, e6, c6⟩] = .ok ⟨d, k, [], []⟩ := by rw [cl_ok (n := 6) rfl h, cv_af ha]
theorem ce_0 {rs : List R} (h : af k d = false) : callE rs d k = esL rs := by unfold callE; rw [h]; rfl
theorem af_int : af k (.int x) = true := by cases k <;> rfl
theorem af_bl {b : Bool} : af k (.bl b) = true := by cases k <;> rfl
theorem af_non : af k .non = true := by cases k <;> rfl
theorem af_str {z : Str} : af k (.str z) = true := by cases k <;> rfl
theorem afL_of {ds : List D} (h : ∀ d ∈ ds, af k d = true) : afL k ds = true := by
  induction ds with
  | nil => cases k <;> rfl
  | cons d ds ih => simp only [afL, Bool.and_eq_true]; exact ⟨h d List.mem_cons_self, ih fun d hd => h d (List.mem_cons_of_mem _ hd)⟩
theorem af_lst {ds : List D} (h : ∀ d ∈ ds, af k d = true) : af (k + 1) (.lst ds) = true := by simpa [af] using afL_of h
theorem af_ints {ns : List Int} : af 1 (.lst (ns.map .int)) = true := af_lst fun d hd => by
  obtain ⟨n, _, rfl⟩ := List.mem_map.mp hd
  rfl
/-! a def's body -/
def dK : Out → Res (D × Nat)
  | .rt d k => .ok (d, k)
  | .nx _ => .ok (.non, 0)
  | .ex x _ => .exn x
  | _ => .bad
theorem ds_eq {N : Nat} {body : FS} {ds : List D} (h : ds.length = n) : dsem N n body ds = dK (body (ds.map (fun d => some (d, 0)) ++ List.replicate (N - n) none)) := by
  unfold dsem
  rw [if_pos h]
  unfold dK
  rfl
theorem dk_rt : dK (.rt d k) = .ok (d, k) := nr rfl
theorem dk_nx : dK (.nx ρ) = .ok (.non, 0) := nr rfl
end
end PyL

namespace PyL
open PySem PySem.Spec L2
set_option autoImplicit false

/-! ### loops, at the level of data -/
theorem forL_inv {tg : FG} {vs : List Nat} {body : FS} (I : Nat → Ev → Prop) : ∀ {ds : List D} {ρ : Ev} {j : Nat}, I j ρ →
    (∀ i d ρ, ds[i]? = some d → I (j + i) ρ → ∃ ρ1 ρ2, tg d (wipeE ρ vs) = some ρ1 ∧ (body ρ1 = .nx ρ2 ∨ body ρ1 = .ct ρ2) ∧ I (j + i + 1) ρ2) → ∃ ρ', forL tg vs body ρ ds = .nx ρ' ∧ I (j + ds.length) ρ'
  | [], ρ, j, h, _ => ⟨ρ, rfl, h⟩
  | d :: ds, ρ, j, h, step => by
    obtain ⟨ρ1, ρ2, e1, e2, h2⟩ := step 0 d ρ rfl h
    obtain ⟨ρ', e, h'⟩ := forL_inv I (ds := ds) (ρ := ρ2) (j := j + 1) h2 fun i d' ρ hd hi => by
      have := step (i + 1) d' ρ (by simpa using hd) (by rw [show j + (i + 1) = j + 1 + i by omega]; exact hi)
      rw [show j + (i + 1) = j + 1 + i by omega] at this
      exact this
    refine ⟨ρ', ?_, by rw [List.length_cons, show j + (ds.length + 1) = j + 1 + ds.length by omega]; exact h'⟩
    unfold forL
    rcases e2 with e2 | e2
    · simp only [e1, e2]; exact e
    · simp only [e1, e2]; exact e

/-! ### the draws -/
def OkN (L : List Int) : Prop := ∀ x ∈ L, 0 ≤ x ∧ x < 1000003
theorem OkN.snoc {L : List Int} {x : Int} (h : OkN L) (h1 : 0 ≤ x) (h2 : x < 1000003) : OkN (L ++ [x]) := fun y hy => by
  rcases List.mem_append.mp hy with hy | hy
  · exact h y hy
  · rw [List.mem_singleton.mp hy]; exact ⟨h1, h2⟩
def b1d : FS := sSeq (sSet 4 (fB gAbs (fCons (fB gInt (fCons (fVar 3) (fNil))) (fNil))))
    (sIf (fTest (fBin gGe (fVar 4) (fBin gPow (fC (.int 10)) (fC (.int 18))))) (sFor (fRng1 (fCons (fC (.int 60)) (fNil))) (gN 5) [5] (sIf (fTest (fBin gGt (fVar 4) (fC (.int 0)))) (sSeq (sApp 2 (fBin gMod (fVar 4) (fC (.int 1000003))))
    (sSet 4 (fBin gDiv (fVar 4) (fC (.int 1000003))))) (sNil))) (sSeq (sSet 6 (fBin gMod (fBin gAdd (fBin gAdd (fBin gMul (fVar 4) (fC (.int 48271))) (fBin gMul (fC (.int 7)) (fB gLen (fCons (fVar 2) (fNil))))) (fC (.int 11))) (fC (.int 2147483647))))
    (sFor (fRng1 (fCons (fC (.int 4)) (fNil))) (gN 5) [5] (sSeq (sSet 6 (fBin gMod (fBin gAdd (fBin gAdd (fBin gAdd (fBin gMul (fVar 6) (fC (.int 69621))) (fBin gDiv (fVar 6) (fC (.int 65536)))) (fBin gMul (fC (.int 13)) (fVar 5))) (fC (.int 5))) (fC (.int 2147483629))))
    (sApp 2 (fBin gMod (fBin gDiv (fVar 6) (fC (.int 8))) (fC (.int 1000003))))))))
def b2d : FS := sIf (fTest (fBin gLt (fB gLen (fCons (fVar 2) (fNil))) (fVar 1))) (sSeq (sSet 7 (fC (.int 0)))
    (sSeq (sIf (fTest (fBin gGt (fB gLen (fCons (fVar 2) (fNil))) (fC (.int 0)))) (sSet 7 (fBin gIx (fVar 2) (fBin gMod (fVar 5) (fB gLen (fCons (fVar 2) (fNil)))))) (sNil))
    (sApp 2 (fBin gMod (fBin gAdd (fBin gAdd (fBin gMul (fVar 7) (fC (.int 16807))) (fBin gMul (fC (.int 31)) (fB gLen (fCons (fVar 2) (fNil))))) (fC (.int 17))) (fC (.int 1000003)))))) (sNil)
noncomputable def b_draws (K : PySem.W.Frag) : FS :=
 sSeq (sSet 2 (fLstE 0))
    (sSeq (sFor (fSeqI (fSlK K (fVar 0) (fNoP) (fPart (fC (.int 63))))) (gN 3) [3] b1d)
    (sSeq (sFor (fRng1 (fCons (fVar 1) (fNil))) (gN 5) [5] b2d)
    (sRet (fSl (fVar 2) (fNoP) (fPart (fVar 1))))))
/-- the state of the draws -/
def DI (d m : D) (L : List Int) (ρ : Ev) : Prop := ∃ x3 x4 x5 x6 x7, ρ = [some (d, 0), some (m, 0), some (.lst (L.map .int), 1), x3, x4, x5, x6, x7]
theorem step1a {d m : D} {L : List Int} {n : Int} {x3 x5 x6 x7 : Slot} (hL : OkN L) (hl : L.length < 10000) (h0 : 0 ≤ n) : ∃ L' n', OkN L' ∧ L'.length ≤ L.length + 1 ∧ 0 ≤ n' ∧
    (sIf (fTest (fBin gGt (fVar 4) (fC (.int 0)))) (sSeq (sApp 2 (fBin gMod (fVar 4) (fC (.int 1000003)))) (sSet 4 (fBin gDiv (fVar 4) (fC (.int 1000003))))) (sNil)) [some (d, 0), some (m, 0), some (.lst (L.map .int), 1), x3, some (.int n, 0), x5, x6, x7]
      = .nx [some (d, 0), some (m, 0), some (.lst (L'.map .int), 1), x3, some (.int n', 0), x5, x6, x7] := by
  by_cases hn : 0 < n
  · refine ⟨L ++ [n.fmod 1000003], n.fdiv 1000003, hL.snoc ?_ ?_, by simp, ?_, ?_⟩
    · rw [Int.fmod_eq_emod_of_nonneg _ (by decide)]; omega
    · rw [Int.fmod_eq_emod_of_nonneg _ (by decide)]; omega
    · rw [Int.fdiv_eq_ediv_of_nonneg _ (by decide)]; omega
    · have hz : (L.map D.int).length < sizeLine := by rw [List.length_map]; exact Nat.lt_trans hl (by decide)
      have hd : CDivL n 1000003 := ⟨by decide, .inl (by decide)⟩
      simp [ap_seq, ap_set, ap_ret, ap_retN, ap_retV, rk_some, ap_expr, ap_if, ap_sNil, ap_brk, ap_cnt, ap_for, ap_app, own_some, own_1, own_2, own_3, app_1, app_2, th_nx, th_rt, th_bk, th_ct, st_ok, bd_ok, ap_stE, ap_setT, tk_some, st_nil, st_cons, ap_par, par_eq, ap_rev, rev_1, rev_1', ap_var, vk_some, al_int, al_bl, al_non, al_str, al_0, al_l1, al_l2, al_l2', al_l3', al_t1, al_t2, al_t2', al_t3', ap_c, ap_bin, ap_un, ap_test, tb_bl, ap_notT, ap_andT, ap_orT, ap_andV, ap_orV, ap_notV, ap_ite, ap_chain, ap_isN, ap_nil, ap_cons, ap_B, ap_lst, ap_tup, ap_lstE, ap_sl, ap_slK, ap_noP, ap_part, ti_int, ap_isi, ap_lr1, ap_lr2, ap_revL, ap_index, ap_seqI, ap_rng1, ap_rng2, ap_revI, ap_call, ap_comp, gn_ap, gt_ap, gts_nil, gts_cons, wp_nil, wp_cons, fz_nil, fz_cons, fz_1, fz_some, o_I, o_B, g_addI, g_addL, g_subI, g_mulI, g_divI, g_modI, g_powI, g_negI, g_ltI, g_leI, g_gtI, g_geI, g_cmpI, g_eqI, g_neI, g_ixL, g_ixT, ik_int, ik_str, ik_lst, ix_0, ix_1, ix_2, ix_3, g_len_l, g_len_t, g_absI, g_intI, g_intB, g_max2, g_min2, g_sum, g_slL, g_rev, sq_l, sq_t, dk_rt, dk_nx, List.set_cons_zero, List.set_cons_succ, List.getElem?_cons_zero, List.getElem?_cons_succ, List.append_nil, List.nil_append, if_true, if_false, Bool.false_eq_true, decide_true, decide_false, Bool.not_true, Bool.not_false, List.not_mem_nil, List.mem_cons, or_false, dl0_1, dt0_1, dl0_2, dt0_2, dl0_3, dt0_3, dl0_4, dt0_4, dl0_5, dt0_5, dl0_6, dt0_6, dl0_7, dt0_7, dl0_8, dt0_8, dl0_9, dl0_10, dl0_11, dl0_12, dl0_13, dl0_14, dl0_15, dl0_16, dl0_17, dl0_18, dl0_19, dl0_20, dl0_0, dt0_0, dt_i1, dt_l1i, dl_l1, dl_l1l1, es_0, es_c, hn, hz, hd, -List.length_map]
  · refine ⟨L, n, hL, by omega, h0, ?_⟩
    simp [ap_seq, ap_set, ap_ret, ap_retN, ap_retV, rk_some, ap_expr, ap_if, ap_sNil, ap_brk, ap_cnt, ap_for, ap_app, own_some, own_1, own_2, own_3, app_1, app_2, th_nx, th_rt, th_bk, th_ct, st_ok, bd_ok, ap_stE, ap_setT, tk_some, st_nil, st_cons, ap_par, par_eq, ap_rev, rev_1, rev_1', ap_var, vk_some, al_int, al_bl, al_non, al_str, al_0, al_l1, al_l2, al_l2', al_l3', al_t1, al_t2, al_t2', al_t3', ap_c, ap_bin, ap_un, ap_test, tb_bl, ap_notT, ap_andT, ap_orT, ap_andV, ap_orV, ap_notV, ap_ite, ap_chain, ap_isN, ap_nil, ap_cons, ap_B, ap_lst, ap_tup, ap_lstE, ap_sl, ap_slK, ap_noP, ap_part, ti_int, ap_isi, ap_lr1, ap_lr2, ap_revL, ap_index, ap_seqI, ap_rng1, ap_rng2, ap_revI, ap_call, ap_comp, gn_ap, gt_ap, gts_nil, gts_cons, wp_nil, wp_cons, fz_nil, fz_cons, fz_1, fz_some, o_I, o_B, g_addI, g_addL, g_subI, g_mulI, g_divI, g_modI, g_powI, g_negI, g_ltI, g_leI, g_gtI, g_geI, g_cmpI, g_eqI, g_neI, g_ixL, g_ixT, ik_int, ik_str, ik_lst, ix_0, ix_1, ix_2, ix_3, g_len_l, g_len_t, g_absI, g_intI, g_intB, g_max2, g_min2, g_sum, g_slL, g_rev, sq_l, sq_t, dk_rt, dk_nx, List.set_cons_zero, List.set_cons_succ, List.getElem?_cons_zero, List.getElem?_cons_succ, List.append_nil, List.nil_append, if_true, if_false, Bool.false_eq_true, decide_true, decide_false, Bool.not_true, Bool.not_false, List.not_mem_nil, List.mem_cons, or_false, dl0_1, dt0_1, dl0_2, dt0_2, dl0_3, dt0_3, dl0_4, dt0_4, dl0_5, dt0_5, dl0_6, dt0_6, dl0_7, dt0_7, dl0_8, dt0_8, dl0_9, dl0_10, dl0_11, dl0_12, dl0_13, dl0_14, dl0_15, dl0_16, dl0_17, dl0_18, dl0_19, dl0_20, dl0_0, dt0_0, dt_i1, dt_l1i, dl_l1, dl_l1l1, es_0, es_c, hn]
theorem rgD_len (lo : Int) (n : Nat) : (rgD lo n).length = n := by simp [rgD]
theorem rgD_get {lo : Int} {n i : Nat} {d : D} (h : (rgD lo n)[i]? = some d) : i < n ∧ d = .int (lo + (i : Int)) := by
  unfold rgD at h
  rw [List.getElem?_map] at h
  cases q : (List.range n)[i]? with
  | none => rw [q] at h; cases h
  | some j =>
    rw [q] at h
    obtain ⟨h1, h2⟩ := List.getElem?_eq_some_iff.mp q
    have hn : i < n := by simpa using h1
    have hj : i = j := by simpa using h2
    subst hj
    cases h
    exact ⟨hn, rfl⟩
/-- the lists grow by c in each turn, and what else holds in two slots stays -/
theorem loop4 {body : FS} {d m : D} {L : List Int} {x4 x6 : Slot} {c cnt : Nat} (P : Slot → Slot → Prop) (hL : OkN L) (hl : L.length + cnt * c < 10000) (h0 : P x4 x6)
    (step : ∀ (L : List Int) (x4 x3 x6 x7 : Slot) (i : Nat), OkN L → L.length < 10000 → P x4 x6 → i < cnt → ∃ L' x4' x6', OkN L' ∧ L'.length ≤ L.length + c ∧ P x4' x6' ∧
      body [some (d, 0), some (m, 0), some (.lst (L.map .int), 1), x3, x4, some (.int (i : Int), 0), x6, x7] = .nx [some (d, 0), some (m, 0), some (.lst (L'.map .int), 1), x3, x4', some (.int (i : Int), 0), x6', x7]) (x3 x5 x7 : Slot) (hc : cnt ≤ 1000) :
    ∃ L' x4' x5' x6', OkN L' ∧ L'.length ≤ L.length + cnt * c ∧ P x4' x6' ∧ sFor (fRng1 (fCons (fC (.int (cnt : Int))) (fNil))) (gN 5) [5] body [some (d, 0), some (m, 0), some (.lst (L.map .int), 1), x3, x4, x5, x6, x7]
      = .nx [some (d, 0), some (m, 0), some (.lst (L'.map .int), 1), x3, x4', x5', x6', x7] := by
  obtain ⟨ρ', e, L', x4', x5', x6', h1, h2, h3, rfl⟩ := forL_inv (tg := gN 5) (vs := [5]) (body := body) (ds := rgD 0 cnt) (j := 0)
    (fun j ρ => ∃ L' x4' x5' x6', OkN L' ∧ L'.length ≤ L.length + j * c ∧ P x4' x6' ∧ ρ = [some (d, 0), some (m, 0), some (.lst (L'.map .int), 1), x3, x4', x5', x6', x7]) (ρ := [some (d, 0), some (m, 0), some (.lst (L.map .int), 1), x3, x4, x5, x6, x7])
    ⟨L, x4, x5, x6, hL, by omega, h0, rfl⟩ (fun i e ρ he hi => by
      obtain ⟨hi1, rfl⟩ := rgD_get he
      obtain ⟨L1, y4, y5, y6, h1, h2, h3, rfl⟩ := hi
      rw [Nat.zero_add] at h2
      have hle : i * c + c ≤ cnt * c := by rw [← Nat.succ_mul]; exact Nat.mul_le_mul_right c hi1
      obtain ⟨L2, z4, z6, g1, g2, g3, g4⟩ := step L1 y4 x3 y6 x7 i h1 (by omega) h3 hi1
      refine ⟨_, _, rfl, .inl ?_, L2, z4, some (.int (i : Int), 0), z6, g1, ?_, g3, rfl⟩
      · simpa [ap_seq, ap_set, ap_ret, ap_retN, ap_retV, rk_some, ap_expr, ap_if, ap_sNil, ap_brk, ap_cnt, ap_for, ap_app, own_some, own_1, own_2, own_3, app_1, app_2, th_nx, th_rt, th_bk, th_ct, st_ok, bd_ok, ap_stE, ap_setT, tk_some, st_nil, st_cons, ap_par, par_eq, ap_rev, rev_1, rev_1', ap_var, vk_some, al_int, al_bl, al_non, al_str, al_0, al_l1, al_l2, al_l2', al_l3', al_t1, al_t2, al_t2', al_t3', ap_c, ap_bin, ap_un, ap_test, tb_bl, ap_notT, ap_andT, ap_orT, ap_andV, ap_orV, ap_notV, ap_ite, ap_chain, ap_isN, ap_nil, ap_cons, ap_B, ap_lst, ap_tup, ap_lstE, ap_sl, ap_slK, ap_noP, ap_part, ti_int, ap_isi, ap_lr1, ap_lr2, ap_revL, ap_index, ap_seqI, ap_rng1, ap_rng2, ap_revI, ap_call, ap_comp, gn_ap, gt_ap, gts_nil, gts_cons, wp_nil, wp_cons, fz_nil, fz_cons, fz_1, fz_some, o_I, o_B, g_addI, g_addL, g_subI, g_mulI, g_divI, g_modI, g_powI, g_negI, g_ltI, g_leI, g_gtI, g_geI, g_cmpI, g_eqI, g_neI, g_ixL, g_ixT, ik_int, ik_str, ik_lst, ix_0, ix_1, ix_2, ix_3, g_len_l, g_len_t, g_absI, g_intI, g_intB, g_max2, g_min2, g_sum, g_slL, g_rev, sq_l, sq_t, dk_rt, dk_nx, List.set_cons_zero, List.set_cons_succ, List.getElem?_cons_zero, List.getElem?_cons_succ, List.append_nil, List.nil_append, if_true, if_false, Bool.false_eq_true, decide_true, decide_false, Bool.not_true, Bool.not_false, List.not_mem_nil, List.mem_cons, or_false, dl0_1, dt0_1, dl0_2, dt0_2, dl0_3, dt0_3, dl0_4, dt0_4, dl0_5, dt0_5, dl0_6, dt0_6, dl0_7, dt0_7, dl0_8, dt0_8, dl0_9, dl0_10, dl0_11, dl0_12, dl0_13, dl0_14, dl0_15, dl0_16, dl0_17, dl0_18, dl0_19, dl0_20, dl0_0, dt0_0, dt_i1, dt_l1i, dl_l1, dl_l1l1, es_0, es_c] using g4
      · rw [Nat.zero_add, Nat.succ_mul]; omega)
  rw [rgD_len, Nat.zero_add] at h2
  refine ⟨L', x4', x5', x6', h1, h2, h3, ?_⟩
  have hr : InR (cnt : Int) := InR.of (by omega) (by omega)
  simp only [ap_seq, ap_set, ap_ret, ap_retN, ap_retV, rk_some, ap_expr, ap_if, ap_sNil, ap_brk, ap_cnt, ap_for, ap_app, own_some, own_1, own_2, own_3, app_1, app_2, th_nx, th_rt, th_bk, th_ct, st_ok, bd_ok, ap_stE, ap_setT, tk_some, st_nil, st_cons, ap_par, par_eq, ap_rev, rev_1, rev_1', ap_var, vk_some, al_int, al_bl, al_non, al_str, al_0, al_l1, al_l2, al_l2', al_l3', al_t1, al_t2, al_t2', al_t3', ap_c, ap_bin, ap_un, ap_test, tb_bl, ap_notT, ap_andT, ap_orT, ap_andV, ap_orV, ap_notV, ap_ite, ap_chain, ap_isN, ap_nil, ap_cons, ap_B, ap_lst, ap_tup, ap_lstE, ap_sl, ap_slK, ap_noP, ap_part, ti_int, ap_isi, ap_lr1, ap_lr2, ap_revL, ap_index, ap_seqI, ap_rng1, ap_rng2, ap_revI, ap_call, ap_comp, gn_ap, gt_ap, gts_nil, gts_cons, wp_nil, wp_cons, fz_nil, fz_cons, fz_1, fz_some, o_I, o_B, g_addI, g_addL, g_subI, g_mulI, g_divI, g_modI, g_powI, g_negI, g_ltI, g_leI, g_gtI, g_geI, g_cmpI, g_eqI, g_neI, g_ixL, g_ixT, ik_int, ik_str, ik_lst, ix_0, ix_1, ix_2, ix_3, g_len_l, g_len_t, g_absI, g_intI, g_intB, g_max2, g_min2, g_sum, g_slL, g_rev, sq_l, sq_t, dk_rt, dk_nx, List.set_cons_zero, List.set_cons_succ, List.getElem?_cons_zero, List.getElem?_cons_succ, List.append_nil, List.nil_append, if_true, if_false, Bool.false_eq_true, decide_true, decide_false, Bool.not_true, Bool.not_false, List.not_mem_nil, List.mem_cons, or_false, dl0_1, dt0_1, dl0_2, dt0_2, dl0_3, dt0_3, dl0_4, dt0_4, dl0_5, dt0_5, dl0_6, dt0_6, dl0_7, dt0_7, dl0_8, dt0_8, dl0_9, dl0_10, dl0_11, dl0_12, dl0_13, dl0_14, dl0_15, dl0_16, dl0_17, dl0_18, dl0_19, dl0_20, dl0_0, dt0_0, dt_i1, dt_l1i, dl_l1, dl_l1l1, es_0, es_c, r1_ok hr, Int.toNat_natCast]
  exact e
theorem CMulL_of {i j : Int} (h : i.natAbs.log2 + j.natAbs.log2 < 1000) : CMulL i j := by unfold CMulL; omega
theorem log2_lt {n k : Nat} (h : n < 2 ^ k) (hk : 0 < k) : n.log2 < k := by
  by_cases hn : n = 0
  · subst hn; exact hk
  · exact (Nat.log2_lt hn).mpr h
theorem step1b {d m : D} {L : List Int} {y : Int} {x3 x4 x7 : Slot} {i : Nat} (hL : OkN L) (hl : L.length < 10000) (h0 : 0 ≤ y) (h1 : y < 2147483647) (hi : i < 4) : ∃ L' y', OkN L' ∧ L'.length ≤ L.length + 1 ∧ 0 ≤ y' ∧ y' < 2147483647 ∧
    (sSeq (sSet 6 (fBin gMod (fBin gAdd (fBin gAdd (fBin gAdd (fBin gMul (fVar 6) (fC (.int 69621))) (fBin gDiv (fVar 6) (fC (.int 65536)))) (fBin gMul (fC (.int 13)) (fVar 5))) (fC (.int 5))) (fC (.int 2147483629))))
    (sApp 2 (fBin gMod (fBin gDiv (fVar 6) (fC (.int 8))) (fC (.int 1000003))))) [some (d, 0), some (m, 0), some (.lst (L.map .int), 1), x3, x4, some (.int (i : Int), 0), some (.int y, 0), x7]
      = .nx [some (d, 0), some (m, 0), some (.lst (L'.map .int), 1), x3, x4, some (.int (i : Int), 0), some (.int y', 0), x7] := by
  have hz : (L.map D.int).length < sizeLine := by rw [List.length_map]; exact Nat.lt_trans hl (by decide)
  have hd : CDivL y 65536 := ⟨by decide, .inl (by decide)⟩
  have hm : CMulL y 69621 := CMulL_of (by
    have := log2_lt (n := y.natAbs) (k := 32) (by omega) (by decide)
    have : (69621 : Int).natAbs.log2 = 16 := by decide
    omega)
  have hm2 : CMulL 13 (i : Int) := CMulL_of (by
    have := log2_lt (n := (i : Int).natAbs) (k := 2) (by omega) (by decide)
    have : (13 : Int).natAbs.log2 = 3 := by decide
    omega)
  generalize hw : (y * 69621 + y.fdiv 65536 + 13 * (i : Int) + 5).fmod 2147483629 = w
  have b1 : 0 ≤ w ∧ w < 2147483629 := by
    rw [← hw, Int.fmod_eq_emod_of_nonneg _ (by decide)]; omega
  have hd2 : CDivL w 8 := ⟨by decide, .inl (by decide)⟩
  refine ⟨L ++ [(w.fdiv 8).fmod 1000003], w, hL.snoc ?_ ?_, by simp, b1.1, by omega, ?_⟩
  · rw [Int.fmod_eq_emod_of_nonneg _ (by decide)]; omega
  · rw [Int.fmod_eq_emod_of_nonneg _ (by decide)]; omega
  · simp [ap_seq, ap_set, ap_ret, ap_retN, ap_retV, rk_some, ap_expr, ap_if, ap_sNil, ap_brk, ap_cnt, ap_for, ap_app, own_some, own_1, own_2, own_3, app_1, app_2, th_nx, th_rt, th_bk, th_ct, st_ok, bd_ok, ap_stE, ap_setT, tk_some, st_nil, st_cons, ap_par, par_eq, ap_rev, rev_1, rev_1', ap_var, vk_some, al_int, al_bl, al_non, al_str, al_0, al_l1, al_l2, al_l2', al_l3', al_t1, al_t2, al_t2', al_t3', ap_c, ap_bin, ap_un, ap_test, tb_bl, ap_notT, ap_andT, ap_orT, ap_andV, ap_orV, ap_notV, ap_ite, ap_chain, ap_isN, ap_nil, ap_cons, ap_B, ap_lst, ap_tup, ap_lstE, ap_sl, ap_slK, ap_noP, ap_part, ti_int, ap_isi, ap_lr1, ap_lr2, ap_revL, ap_index, ap_seqI, ap_rng1, ap_rng2, ap_revI, ap_call, ap_comp, gn_ap, gt_ap, gts_nil, gts_cons, wp_nil, wp_cons, fz_nil, fz_cons, fz_1, fz_some, o_I, o_B, g_addI, g_addL, g_subI, g_mulI, g_divI, g_modI, g_powI, g_negI, g_ltI, g_leI, g_gtI, g_geI, g_cmpI, g_eqI, g_neI, g_ixL, g_ixT, ik_int, ik_str, ik_lst, ix_0, ix_1, ix_2, ix_3, g_len_l, g_len_t, g_absI, g_intI, g_intB, g_max2, g_min2, g_sum, g_slL, g_rev, sq_l, sq_t, dk_rt, dk_nx, List.set_cons_zero, List.set_cons_succ, List.getElem?_cons_zero, List.getElem?_cons_succ, List.append_nil, List.nil_append, if_true, if_false, Bool.false_eq_true, decide_true, decide_false, Bool.not_true, Bool.not_false, List.not_mem_nil, List.mem_cons, or_false, dl0_1, dt0_1, dl0_2, dt0_2, dl0_3, dt0_3, dl0_4, dt0_4, dl0_5, dt0_5, dl0_6, dt0_6, dl0_7, dt0_7, dl0_8, dt0_8, dl0_9, dl0_10, dl0_11, dl0_12, dl0_13, dl0_14, dl0_15, dl0_16, dl0_17, dl0_18, dl0_19, dl0_20, dl0_0, dt0_0, dt_i1, dt_l1i, dl_l1, dl_l1l1, es_0, es_c, hz, hd, hd2, hm, hm2, hw, -List.length_map]
theorem step1 {d m : D} {L : List Int} {c : Int} {x4 x5 x6 x7 : Slot} (hL : OkN L) (hl : L.length < 4000) : ∃ L' x4' x5' x6', OkN L' ∧ L'.length ≤ L.length + 60 ∧
    b1d [some (d, 0), some (m, 0), some (.lst (L.map .int), 1), some (.int c, 0), x4, x5, x6, x7] = .nx [some (d, 0), some (m, 0), some (.lst (L'.map .int), 1), some (.int c, 0), x4', x5', x6', x7] := by
  generalize hn : (if c < 0 then -c else c) = n
  have n0 : 0 ≤ n := by rw [← hn]; split <;> omega
  have hp : CPow 10 18 := by decide
  by_cases hb : (10 : Int) ^ 18 ≤ n
  · obtain ⟨L', x4', x5', x6', h1, h2, h3, h4⟩ := loop4 (d := d) (m := m) (L := L) (x4 := some (.int n, 0)) (x6 := x6) (c := 1) (cnt := 60) (fun s _ => ∃ n : Int, 0 ≤ n ∧ s = some (.int n, 0)) hL (by omega) ⟨n, n0, rfl⟩
      (fun L x4 x3 x6 x7 i hL hl h hi => by
        obtain ⟨n, hn, rfl⟩ := h
        obtain ⟨L', n', g1, g2, g3, g4⟩ := step1a (d := d) (m := m) (x3 := x3) (x5 := some (.int (i : Int), 0)) (x6 := x6) (x7 := x7) hL hl hn
        exact ⟨L', _, x6, g1, g2, ⟨n', g3, rfl⟩, g4⟩) (some (.int c, 0)) x5 x7 (by decide)
    refine ⟨L', x4', x5', x6', h1, by omega, ?_⟩
    have hb' : decide ((10 : Int) ^ 18 ≤ n) = true := decide_eq_true hb
    rw [show (18 : Nat) = (18 : Int).toNat from rfl] at hb'
    simp only [ap_seq, ap_set, ap_ret, ap_retN, ap_retV, rk_some, ap_expr, ap_if, ap_sNil, ap_brk, ap_cnt, ap_for, ap_app, own_some, own_1, own_2, own_3, app_1, app_2, th_nx, th_rt, th_bk, th_ct, st_ok, bd_ok, ap_stE, ap_setT, tk_some, st_nil, st_cons, ap_par, par_eq, ap_rev, rev_1, rev_1', ap_var, vk_some, al_int, al_bl, al_non, al_str, al_0, al_l1, al_l2, al_l2', al_l3', al_t1, al_t2, al_t2', al_t3', ap_c, ap_bin, ap_un, ap_test, tb_bl, ap_notT, ap_andT, ap_orT, ap_andV, ap_orV, ap_notV, ap_ite, ap_chain, ap_isN, ap_nil, ap_cons, ap_B, ap_lst, ap_tup, ap_lstE, ap_sl, ap_slK, ap_noP, ap_part, ti_int, ap_isi, ap_lr1, ap_lr2, ap_revL, ap_index, ap_seqI, ap_rng1, ap_rng2, ap_revI, ap_call, ap_comp, gn_ap, gt_ap, gts_nil, gts_cons, wp_nil, wp_cons, fz_nil, fz_cons, fz_1, fz_some, o_I, o_B, g_addI, g_addL, g_subI, g_mulI, g_divI, g_modI, g_powI, g_negI, g_ltI, g_leI, g_gtI, g_geI, g_cmpI, g_eqI, g_neI, g_ixL, g_ixT, ik_int, ik_str, ik_lst, ix_0, ix_1, ix_2, ix_3, g_len_l, g_len_t, g_absI, g_intI, g_intB, g_max2, g_min2, g_sum, g_slL, g_rev, sq_l, sq_t, dk_rt, dk_nx, List.set_cons_zero, List.set_cons_succ, List.getElem?_cons_zero, List.getElem?_cons_succ, List.append_nil, List.nil_append, if_true, if_false, Bool.false_eq_true, decide_true, decide_false, Bool.not_true, Bool.not_false, List.not_mem_nil, List.mem_cons, or_false, dl0_1, dt0_1, dl0_2, dt0_2, dl0_3, dt0_3, dl0_4, dt0_4, dl0_5, dt0_5, dl0_6, dt0_6, dl0_7, dt0_7, dl0_8, dt0_8, dl0_9, dl0_10, dl0_11, dl0_12, dl0_13, dl0_14, dl0_15, dl0_16, dl0_17, dl0_18, dl0_19, dl0_20, dl0_0, dt0_0, dt_i1, dt_l1i, dl_l1, dl_l1l1, es_0, es_c, b1d, hn, hp, hb']
    simp only [ap_seq, ap_set, ap_ret, ap_retN, ap_retV, rk_some, ap_expr, ap_if, ap_sNil, ap_brk, ap_cnt, ap_for, ap_app, own_some, own_1, own_2, own_3, app_1, app_2, th_nx, th_rt, th_bk, th_ct, st_ok, bd_ok, ap_stE, ap_setT, tk_some, st_nil, st_cons, ap_par, par_eq, ap_rev, rev_1, rev_1', ap_var, vk_some, al_int, al_bl, al_non, al_str, al_0, al_l1, al_l2, al_l2', al_l3', al_t1, al_t2, al_t2', al_t3', ap_c, ap_bin, ap_un, ap_test, tb_bl, ap_notT, ap_andT, ap_orT, ap_andV, ap_orV, ap_notV, ap_ite, ap_chain, ap_isN, ap_nil, ap_cons, ap_B, ap_lst, ap_tup, ap_lstE, ap_sl, ap_slK, ap_noP, ap_part, ti_int, ap_isi, ap_lr1, ap_lr2, ap_revL, ap_index, ap_seqI, ap_rng1, ap_rng2, ap_revI, ap_call, ap_comp, gn_ap, gt_ap, gts_nil, gts_cons, wp_nil, wp_cons, fz_nil, fz_cons, fz_1, fz_some, o_I, o_B, g_addI, g_addL, g_subI, g_mulI, g_divI, g_modI, g_powI, g_negI, g_ltI, g_leI, g_gtI, g_geI, g_cmpI, g_eqI, g_neI, g_ixL, g_ixT, ik_int, ik_str, ik_lst, ix_0, ix_1, ix_2, ix_3, g_len_l, g_len_t, g_absI, g_intI, g_intB, g_max2, g_min2, g_sum, g_slL, g_rev, sq_l, sq_t, dk_rt, dk_nx, List.set_cons_zero, List.set_cons_succ, List.getElem?_cons_zero, List.getElem?_cons_succ, List.append_nil, List.nil_append, if_true, if_false, Bool.false_eq_true, decide_true, decide_false, Bool.not_true, Bool.not_false, List.not_mem_nil, List.mem_cons, or_false, dl0_1, dt0_1, dl0_2, dt0_2, dl0_3, dt0_3, dl0_4, dt0_4, dl0_5, dt0_5, dl0_6, dt0_6, dl0_7, dt0_7, dl0_8, dt0_8, dl0_9, dl0_10, dl0_11, dl0_12, dl0_13, dl0_14, dl0_15, dl0_16, dl0_17, dl0_18, dl0_19, dl0_20, dl0_0, dt0_0, dt_i1, dt_l1i, dl_l1, dl_l1l1, es_0, es_c] at h4
    exact h4
  · have hm : CMulL n 48271 := CMulL_of (by
      have : (10 : Int) ^ 18 = 1000000000000000000 := by decide
      have := log2_lt (n := n.natAbs) (k := 64) (by
        have : (2 : Nat) ^ 64 = 18446744073709551616 := by decide
        omega) (by decide)
      have : (48271 : Int).natAbs.log2 = 15 := by decide
      omega)
    have hm2 : CMulL 7 ((L.map D.int).length : Int) := CMulL_of (by
      have := log2_lt (n := ((L.map D.int).length : Int).natAbs) (k := 13) (by rw [List.length_map]; omega) (by decide)
      have : (7 : Int).natAbs.log2 = 2 := by decide
      omega)
    generalize hw : (n * 48271 + 7 * ((L.map D.int).length : Int) + 11).fmod 2147483647 = w
    have b1 : 0 ≤ w ∧ w < 2147483647 := by
      rw [← hw, Int.fmod_eq_emod_of_nonneg _ (by decide)]; omega
    obtain ⟨L', x4', x5', x6', h1, h2, h3, h4⟩ := loop4 (d := d) (m := m) (L := L) (x4 := some (.int n, 0)) (x6 := some (.int w, 0)) (c := 1) (cnt := 4) (fun _ s => ∃ n : Int, 0 ≤ n ∧ n < 2147483647 ∧ s = some (.int n, 0)) hL (by omega) ⟨w, b1.1, b1.2, rfl⟩
      (fun L x4 x3 x6 x7 i hL hl h hi => by
        obtain ⟨n, hn, hn', rfl⟩ := h
        obtain ⟨L', n', g1, g2, g3, g4, g5⟩ := step1b (d := d) (m := m) (x3 := x3) (x4 := x4) (x7 := x7) hL hl hn hn' hi
        exact ⟨L', _, _, g1, g2, ⟨n', g3, g4, rfl⟩, g5⟩) (some (.int c, 0)) x5 x7 (by decide)
    refine ⟨L', x4', x5', x6', h1, by omega, ?_⟩
    have hb' : decide ((10 : Int) ^ 18 ≤ n) = false := decide_eq_false hb
    rw [show (18 : Nat) = (18 : Int).toNat from rfl] at hb'
    have z : (2147483647 : Int) ≠ 0 := by decide
    simp only [ap_seq, ap_set, ap_ret, ap_retN, ap_retV, rk_some, ap_expr, ap_if, ap_sNil, ap_brk, ap_cnt, ap_for, ap_app, own_some, own_1, own_2, own_3, app_1, app_2, th_nx, th_rt, th_bk, th_ct, st_ok, bd_ok, ap_stE, ap_setT, tk_some, st_nil, st_cons, ap_par, par_eq, ap_rev, rev_1, rev_1', ap_var, vk_some, al_int, al_bl, al_non, al_str, al_0, al_l1, al_l2, al_l2', al_l3', al_t1, al_t2, al_t2', al_t3', ap_c, ap_bin, ap_un, ap_test, tb_bl, ap_notT, ap_andT, ap_orT, ap_andV, ap_orV, ap_notV, ap_ite, ap_chain, ap_isN, ap_nil, ap_cons, ap_B, ap_lst, ap_tup, ap_lstE, ap_sl, ap_slK, ap_noP, ap_part, ti_int, ap_isi, ap_lr1, ap_lr2, ap_revL, ap_index, ap_seqI, ap_rng1, ap_rng2, ap_revI, ap_call, ap_comp, gn_ap, gt_ap, gts_nil, gts_cons, wp_nil, wp_cons, fz_nil, fz_cons, fz_1, fz_some, o_I, o_B, g_addI, g_addL, g_subI, g_mulI, g_divI, g_modI, g_powI, g_negI, g_ltI, g_leI, g_gtI, g_geI, g_cmpI, g_eqI, g_neI, g_ixL, g_ixT, ik_int, ik_str, ik_lst, ix_0, ix_1, ix_2, ix_3, g_len_l, g_len_t, g_absI, g_intI, g_intB, g_max2, g_min2, g_sum, g_slL, g_rev, sq_l, sq_t, dk_rt, dk_nx, List.set_cons_zero, List.set_cons_succ, List.getElem?_cons_zero, List.getElem?_cons_succ, List.append_nil, List.nil_append, if_true, if_false, Bool.false_eq_true, decide_true, decide_false, Bool.not_true, Bool.not_false, List.not_mem_nil, List.mem_cons, or_false, dl0_1, dt0_1, dl0_2, dt0_2, dl0_3, dt0_3, dl0_4, dt0_4, dl0_5, dt0_5, dl0_6, dt0_6, dl0_7, dt0_7, dl0_8, dt0_8, dl0_9, dl0_10, dl0_11, dl0_12, dl0_13, dl0_14, dl0_15, dl0_16, dl0_17, dl0_18, dl0_19, dl0_20, dl0_0, dt0_0, dt_i1, dt_l1i, dl_l1, dl_l1l1, es_0, es_c, b1d, hn, hp, hb', hm, hm2, hw, z]
    simp only [ap_seq, ap_set, ap_ret, ap_retN, ap_retV, rk_some, ap_expr, ap_if, ap_sNil, ap_brk, ap_cnt, ap_for, ap_app, own_some, own_1, own_2, own_3, app_1, app_2, th_nx, th_rt, th_bk, th_ct, st_ok, bd_ok, ap_stE, ap_setT, tk_some, st_nil, st_cons, ap_par, par_eq, ap_rev, rev_1, rev_1', ap_var, vk_some, al_int, al_bl, al_non, al_str, al_0, al_l1, al_l2, al_l2', al_l3', al_t1, al_t2, al_t2', al_t3', ap_c, ap_bin, ap_un, ap_test, tb_bl, ap_notT, ap_andT, ap_orT, ap_andV, ap_orV, ap_notV, ap_ite, ap_chain, ap_isN, ap_nil, ap_cons, ap_B, ap_lst, ap_tup, ap_lstE, ap_sl, ap_slK, ap_noP, ap_part, ti_int, ap_isi, ap_lr1, ap_lr2, ap_revL, ap_index, ap_seqI, ap_rng1, ap_rng2, ap_revI, ap_call, ap_comp, gn_ap, gt_ap, gts_nil, gts_cons, wp_nil, wp_cons, fz_nil, fz_cons, fz_1, fz_some, o_I, o_B, g_addI, g_addL, g_subI, g_mulI, g_divI, g_modI, g_powI, g_negI, g_ltI, g_leI, g_gtI, g_geI, g_cmpI, g_eqI, g_neI, g_ixL, g_ixT, ik_int, ik_str, ik_lst, ix_0, ix_1, ix_2, ix_3, g_len_l, g_len_t, g_absI, g_intI, g_intB, g_max2, g_min2, g_sum, g_slL, g_rev, sq_l, sq_t, dk_rt, dk_nx, List.set_cons_zero, List.set_cons_succ, List.getElem?_cons_zero, List.getElem?_cons_succ, List.append_nil, List.nil_append, if_true, if_false, Bool.false_eq_true, decide_true, decide_false, Bool.not_true, Bool.not_false, List.not_mem_nil, List.mem_cons, or_false, dl0_1, dt0_1, dl0_2, dt0_2, dl0_3, dt0_3, dl0_4, dt0_4, dl0_5, dt0_5, dl0_6, dt0_6, dl0_7, dt0_7, dl0_8, dt0_8, dl0_9, dl0_10, dl0_11, dl0_12, dl0_13, dl0_14, dl0_15, dl0_16, dl0_17, dl0_18, dl0_19, dl0_20, dl0_0, dt0_0, dt_i1, dt_l1i, dl_l1, dl_l1l1, es_0, es_c] at h4
    exact h4
theorem atI_int {L : List Int} {z : Int} (h0 : 0 ≤ z) (h1 : z < L.length) : atI (L.map D.int) z = some (.int (L.getD z.toNat 0)) := by
  obtain ⟨j, rfl⟩ := Int.eq_ofNat_of_zero_le h0
  have hj : j < L.length := by omega
  refine atI_nat ?_
  rw [List.getElem?_map, List.getElem?_eq_getElem hj, Int.toNat_natCast]
  simp [List.getD, List.getElem?_eq_getElem hj]
theorem OkN.getD {L : List Int} (h : OkN L) (j : Nat) : 0 ≤ L.getD j 0 ∧ L.getD j 0 < 1000003 := by
  by_cases hj : j < L.length
  · simp only [List.getD, List.getElem?_eq_getElem hj, Option.getD_some]
    exact h _ (List.getElem_mem hj)
  · simp only [List.getD, List.getElem?_eq_none (Nat.le_of_not_lt hj), Option.getD_none]
    decide
/-- the second loop -/
theorem step2 {d : D} {m : Nat} {L : List Int} {x3 x4 x6 x7 : Slot} {i : Nat} (hL : OkN L) (hl : L.length < 10000) (hi : i < m) (hm : m ≤ 1000) (hLi : i ≤ L.length) : ∃ L' x7', OkN L' ∧ L'.length ≤ L.length + 1 ∧ i + 1 ≤ L'.length ∧
    b2d [some (d, 0), some (.int (m : Int), 0), some (.lst (L.map .int), 1), x3, x4, some (.int (i : Int), 0), x6, x7] = .nx [some (d, 0), some (.int (m : Int), 0), some (.lst (L'.map .int), 1), x3, x4, some (.int (i : Int), 0), x6, x7'] := by
  by_cases hb : L.length < m
  · have hb' : decide (((L.map D.int).length : Int) < (m : Int)) = true := decide_eq_true (by rw [List.length_map]; omega)
    have hz : (L.map D.int).length < sizeLine := by rw [List.length_map]; exact Nat.lt_trans hl (by decide)
    have h31 : CMulL 31 ((L.map D.int).length : Int) := CMulL_of (by
      have := log2_lt (n := ((L.map D.int).length : Int).natAbs) (k := 14) (by rw [List.length_map]; omega) (by decide)
      have : (31 : Int).natAbs.log2 = 4 := by decide
      omega)
    have zz : (1000003 : Int) ≠ 0 := by decide
    have fin : ∀ y : Int, 0 ≤ y → y < 1000003 → CMulL y 16807 ∧ 0 ≤ (y * 16807 + 31 * ((L.map D.int).length : Int) + 17).fmod 1000003 ∧ (y * 16807 + 31 * ((L.map D.int).length : Int) + 17).fmod 1000003 < 1000003 := fun y h0 h1 => by
      refine ⟨CMulL_of (by
        have := log2_lt (n := y.natAbs) (k := 20) (by omega) (by decide)
        have : (16807 : Int).natAbs.log2 = 14 := by decide
        omega), ?_, ?_⟩
      · rw [Int.fmod_eq_emod_of_nonneg _ (by decide)]; omega
      · rw [Int.fmod_eq_emod_of_nonneg _ (by decide)]; omega
    by_cases h0 : 0 < L.length
    · have h0' : decide ((0 : Int) < ((L.map D.int).length : Int)) = true := decide_eq_true (by rw [List.length_map]; omega)
      have hne : ((L.map D.int).length : Int) ≠ 0 := by rw [List.length_map]; omega
      have hix : atI (L.map D.int) ((i : Int).fmod ((L.map D.int).length : Int)) = some (.int (L.getD ((i : Int).fmod ((L.map D.int).length : Int)).toNat 0)) := by
        rw [List.length_map, Int.fmod_eq_emod_of_nonneg _ (by omega)]
        exact atI_int (Int.emod_nonneg _ (by omega)) (Int.emod_lt_of_pos _ (by omega))
      obtain ⟨y0, y1⟩ := hL.getD ((i : Int).fmod ((L.map D.int).length : Int)).toNat
      generalize hy : L.getD ((i : Int).fmod ((L.map D.int).length : Int)).toNat 0 = y at hix y0 y1
      obtain ⟨f1, f2, f3⟩ := fin y y0 y1
      refine ⟨L ++ [(y * 16807 + 31 * ((L.map D.int).length : Int) + 17).fmod 1000003], some (.int y, 0), hL.snoc f2 f3, by simp, by simp; omega, ?_⟩
      simp only [ap_seq, ap_set, ap_ret, ap_retN, ap_retV, rk_some, ap_expr, ap_if, ap_sNil, ap_brk, ap_cnt, ap_for, ap_app, own_some, own_1, own_2, own_3, app_1, app_2, th_nx, th_rt, th_bk, th_ct, st_ok, bd_ok, ap_stE, ap_setT, tk_some, st_nil, st_cons, ap_par, par_eq, ap_rev, rev_1, rev_1', ap_var, vk_some, al_int, al_bl, al_non, al_str, al_0, al_l1, al_l2, al_l2', al_l3', al_t1, al_t2, al_t2', al_t3', ap_c, ap_bin, ap_un, ap_test, tb_bl, ap_notT, ap_andT, ap_orT, ap_andV, ap_orV, ap_notV, ap_ite, ap_chain, ap_isN, ap_nil, ap_cons, ap_B, ap_lst, ap_tup, ap_lstE, ap_sl, ap_slK, ap_noP, ap_part, ti_int, ap_isi, ap_lr1, ap_lr2, ap_revL, ap_index, ap_seqI, ap_rng1, ap_rng2, ap_revI, ap_call, ap_comp, gn_ap, gt_ap, gts_nil, gts_cons, wp_nil, wp_cons, fz_nil, fz_cons, fz_1, fz_some, o_I, o_B, g_addI, g_addL, g_subI, g_mulI, g_divI, g_modI, g_powI, g_negI, g_ltI, g_leI, g_gtI, g_geI, g_cmpI, g_eqI, g_neI, g_ixL, g_ixT, ik_int, ik_str, ik_lst, ix_0, ix_1, ix_2, ix_3, g_len_l, g_len_t, g_absI, g_intI, g_intB, g_max2, g_min2, g_sum, g_slL, g_rev, sq_l, sq_t, dk_rt, dk_nx, List.set_cons_zero, List.set_cons_succ, List.getElem?_cons_zero, List.getElem?_cons_succ, List.append_nil, List.nil_append, if_true, if_false, Bool.false_eq_true, decide_true, decide_false, Bool.not_true, Bool.not_false, List.not_mem_nil, List.mem_cons, or_false, dl0_1, dt0_1, dl0_2, dt0_2, dl0_3, dt0_3, dl0_4, dt0_4, dl0_5, dt0_5, dl0_6, dt0_6, dl0_7, dt0_7, dl0_8, dt0_8, dl0_9, dl0_10, dl0_11, dl0_12, dl0_13, dl0_14, dl0_15, dl0_16, dl0_17, dl0_18, dl0_19, dl0_20, dl0_0, dt0_0, dt_i1, dt_l1i, dl_l1, dl_l1l1, es_0, es_c, b2d, hb', h0', hne, hix, h31, hz, zz, f1, ne_eq, not_false_eq_true, List.map_append, List.map_cons, List.map_nil]
    · have h0' : decide ((0 : Int) < ((L.map D.int).length : Int)) = false := decide_eq_false (by rw [List.length_map]; omega)
      obtain ⟨f1, f2, f3⟩ := fin 0 (by decide) (by decide)
      refine ⟨L ++ [(0 * 16807 + 31 * ((L.map D.int).length : Int) + 17).fmod 1000003], some (.int 0, 0), hL.snoc f2 f3, by simp, by simp; omega, ?_⟩
      simp only [ap_seq, ap_set, ap_ret, ap_retN, ap_retV, rk_some, ap_expr, ap_if, ap_sNil, ap_brk, ap_cnt, ap_for, ap_app, own_some, own_1, own_2, own_3, app_1, app_2, th_nx, th_rt, th_bk, th_ct, st_ok, bd_ok, ap_stE, ap_setT, tk_some, st_nil, st_cons, ap_par, par_eq, ap_rev, rev_1, rev_1', ap_var, vk_some, al_int, al_bl, al_non, al_str, al_0, al_l1, al_l2, al_l2', al_l3', al_t1, al_t2, al_t2', al_t3', ap_c, ap_bin, ap_un, ap_test, tb_bl, ap_notT, ap_andT, ap_orT, ap_andV, ap_orV, ap_notV, ap_ite, ap_chain, ap_isN, ap_nil, ap_cons, ap_B, ap_lst, ap_tup, ap_lstE, ap_sl, ap_slK, ap_noP, ap_part, ti_int, ap_isi, ap_lr1, ap_lr2, ap_revL, ap_index, ap_seqI, ap_rng1, ap_rng2, ap_revI, ap_call, ap_comp, gn_ap, gt_ap, gts_nil, gts_cons, wp_nil, wp_cons, fz_nil, fz_cons, fz_1, fz_some, o_I, o_B, g_addI, g_addL, g_subI, g_mulI, g_divI, g_modI, g_powI, g_negI, g_ltI, g_leI, g_gtI, g_geI, g_cmpI, g_eqI, g_neI, g_ixL, g_ixT, ik_int, ik_str, ik_lst, ix_0, ix_1, ix_2, ix_3, g_len_l, g_len_t, g_absI, g_intI, g_intB, g_max2, g_min2, g_sum, g_slL, g_rev, sq_l, sq_t, dk_rt, dk_nx, List.set_cons_zero, List.set_cons_succ, List.getElem?_cons_zero, List.getElem?_cons_succ, List.append_nil, List.nil_append, if_true, if_false, Bool.false_eq_true, decide_true, decide_false, Bool.not_true, Bool.not_false, List.not_mem_nil, List.mem_cons, or_false, dl0_1, dt0_1, dl0_2, dt0_2, dl0_3, dt0_3, dl0_4, dt0_4, dl0_5, dt0_5, dl0_6, dt0_6, dl0_7, dt0_7, dl0_8, dt0_8, dl0_9, dl0_10, dl0_11, dl0_12, dl0_13, dl0_14, dl0_15, dl0_16, dl0_17, dl0_18, dl0_19, dl0_20, dl0_0, dt0_0, dt_i1, dt_l1i, dl_l1, dl_l1l1, es_0, es_c, b2d, hb', h0', h31, hz, zz, f1, ne_eq, not_false_eq_true, List.map_append, List.map_cons, List.map_nil]
  · have hb' : decide (((L.map D.int).length : Int) < (m : Int)) = false := decide_eq_false (by rw [List.length_map]; omega)
    refine ⟨L, x7, hL, by omega, by omega, ?_⟩
    simp only [ap_seq, ap_set, ap_ret, ap_retN, ap_retV, rk_some, ap_expr, ap_if, ap_sNil, ap_brk, ap_cnt, ap_for, ap_app, own_some, own_1, own_2, own_3, app_1, app_2, th_nx, th_rt, th_bk, th_ct, st_ok, bd_ok, ap_stE, ap_setT, tk_some, st_nil, st_cons, ap_par, par_eq, ap_rev, rev_1, rev_1', ap_var, vk_some, al_int, al_bl, al_non, al_str, al_0, al_l1, al_l2, al_l2', al_l3', al_t1, al_t2, al_t2', al_t3', ap_c, ap_bin, ap_un, ap_test, tb_bl, ap_notT, ap_andT, ap_orT, ap_andV, ap_orV, ap_notV, ap_ite, ap_chain, ap_isN, ap_nil, ap_cons, ap_B, ap_lst, ap_tup, ap_lstE, ap_sl, ap_slK, ap_noP, ap_part, ti_int, ap_isi, ap_lr1, ap_lr2, ap_revL, ap_index, ap_seqI, ap_rng1, ap_rng2, ap_revI, ap_call, ap_comp, gn_ap, gt_ap, gts_nil, gts_cons, wp_nil, wp_cons, fz_nil, fz_cons, fz_1, fz_some, o_I, o_B, g_addI, g_addL, g_subI, g_mulI, g_divI, g_modI, g_powI, g_negI, g_ltI, g_leI, g_gtI, g_geI, g_cmpI, g_eqI, g_neI, g_ixL, g_ixT, ik_int, ik_str, ik_lst, ix_0, ix_1, ix_2, ix_3, g_len_l, g_len_t, g_absI, g_intI, g_intB, g_max2, g_min2, g_sum, g_slL, g_rev, sq_l, sq_t, dk_rt, dk_nx, List.set_cons_zero, List.set_cons_succ, List.getElem?_cons_zero, List.getElem?_cons_succ, List.append_nil, List.nil_append, if_true, if_false, Bool.false_eq_true, decide_true, decide_false, Bool.not_true, Bool.not_false, List.not_mem_nil, List.mem_cons, or_false, dl0_1, dt0_1, dl0_2, dt0_2, dl0_3, dt0_3, dl0_4, dt0_4, dl0_5, dt0_5, dl0_6, dt0_6, dl0_7, dt0_7, dl0_8, dt0_8, dl0_9, dl0_10, dl0_11, dl0_12, dl0_13, dl0_14, dl0_15, dl0_16, dl0_17, dl0_18, dl0_19, dl0_20, dl0_0, dt0_0, dt_i1, dt_l1i, dl_l1, dl_l1l1, es_0, es_c, b2d, hb']
theorem cut_take (ds : List D) (m : Nat) : cutD ds none (some (m : Int)) = ds.take m := by
  unfold cutD
  rw [HT.sIx_none, HT.sIx_nat, List.drop_zero, Nat.sub_zero]
  by_cases h : m ≤ ds.length
  · rw [Nat.min_eq_left h]
  · rw [Nat.min_eq_right (by omega), List.take_of_length_le (Nat.le_refl _), List.take_of_length_le (by omega)]
theorem cut_drop (ds : List D) (m : Nat) : cutD ds (some (m : Int)) none = ds.drop m := by
  unfold cutD
  rw [HT.sIx_none, HT.sIx_nat]
  by_cases h : m ≤ ds.length
  · rw [Nat.min_eq_left h, List.take_of_length_le (by rw [List.length_drop]; omega)]
  · rw [Nat.min_eq_right (by omega), List.drop_eq_nil_of_le (by omega : ds.length ≤ m), List.drop_length, List.take_nil]
theorem dr_at {L : List Int} {j : Nat} (h : j < L.length) : atI (L.map D.int) (j : Int) = some (.int (L.getD j 0)) := by
  rw [atI_int (by omega) (by omega), Int.toNat_natCast]
/-- a place by a remainder -/
theorem modNat {a b : Int} (hb : 0 < b) : ∃ n : Nat, a.fmod b = (n : Int) ∧ (n : Int) < b := by
  rw [Int.fmod_eq_emod_of_nonneg _ (by omega)]
  obtain ⟨n, e⟩ := Int.eq_ofNat_of_zero_le (Int.emod_nonneg a (by omega : b ≠ 0))
  exact ⟨n, e, by have := Int.emod_lt_of_pos a hb; omega⟩
theorem atI_mem {ds : List D} {j : Nat} (h : j < ds.length) : ∃ d, atI ds (j : Int) = some d ∧ d ∈ ds := ⟨ds[j], atI_nat (List.getElem?_eq_getElem h), List.getElem_mem h⟩
theorem scr_slice {K : PySem.W.Frag} {ns : List Int} {d : D} (h : ScrD K ns d) : gSlK K ⟨d, 0, [], []⟩ none (some 63) = .ok ⟨.lst ((ns.take 63).map .int), 1, [], []⟩ := by
  have e : cutD (ns.map D.int) none (some 63) = (ns.take 63).map .int := by
    rw [show (63 : Int) = ((63 : Nat) : Int) from rfl, cut_take, List.map_take]
  rcases h with rfl | rfl
  · show gSl ⟨.lst (ns.map .int), 0, [], []⟩ none (some 63) = _
    rw [g_slL, e]
  · unfold gSlK
    simp only [if_true, e]
/-- what the draws are: as many numbers as asked, each below 1000003 -/
theorem draws_ok {K : PySem.W.Frag} {ns : List Int} {d : D} {m : Nat} (h : ScrD K ns d) (hm : m ≤ 1000) : ∃ L : List Int, OkN L ∧ L.length = m ∧ dsem 8 2 (b_draws K) [d, .int (m : Int)] = .ok (.lst (L.map .int), 1) := by
  -- the first loop
  obtain ⟨ρ1, e1, L1, x3, x4, x5, x6, hL1, hl1, rfl⟩ := forL_inv (tg := gN 3) (vs := [3]) (body := b1d) (ds := (ns.take 63).map .int) (j := 0)
    (fun j ρ => ∃ L x3 x4 x5 x6, OkN L ∧ L.length ≤ j * 60 ∧ ρ = [some (d, 0), some (.int (m : Int), 0), some (.lst (L.map .int), 1), x3, x4, x5, x6, none]) (ρ := [some (d, 0), some (.int (m : Int), 0), some (.lst (([] : List Int).map .int), 1), none, none, none, none, none])
    ⟨[], none, none, none, none, (fun x hx => by cases hx), by simp, rfl⟩ (fun i e ρ he hi => by
      obtain ⟨L, x3, x4, x5, x6, hL, hl, rfl⟩ := hi
      have hi63 : i < 63 := by
        have := (List.getElem?_eq_some_iff.mp he).1
        rw [List.length_map, List.length_take] at this
        omega
      rw [List.getElem?_map] at he
      cases q : (ns.take 63)[i]? with
      | none => rw [q] at he; cases he
      | some c =>
        rw [q] at he
        cases he
        obtain ⟨L', x4', x5', x6', g1, g2, g3⟩ := step1 (d := d) (m := .int (m : Int)) (c := c) (x4 := x4) (x5 := x5) (x6 := x6) (x7 := none) hL (by omega)
        exact ⟨_, _, rfl, .inl g3, L', some (.int c, 0), x4', x5', x6', g1, by omega, rfl⟩)
  have hk : (ns.take 63).length ≤ 63 := by rw [List.length_take]; omega
  rw [List.length_map] at hl1
  -- the second
  obtain ⟨ρ2, e2, L2, y5, y7, hL2, hl2, hl3, rfl⟩ := forL_inv (tg := gN 5) (vs := [5]) (body := b2d) (ds := rgD 0 m) (j := 0)
    (fun j ρ => ∃ L x5 x7, OkN L ∧ L.length ≤ 3780 + j ∧ j ≤ L.length ∧ ρ = [some (d, 0), some (.int (m : Int), 0), some (.lst (L.map .int), 1), x3, x4, x5, x6, x7]) (ρ := [some (d, 0), some (.int (m : Int), 0), some (.lst (L1.map .int), 1), x3, x4, x5, x6, none])
    ⟨L1, x5, none, hL1, by omega, Nat.zero_le _, rfl⟩ (fun i e ρ he hi => by
      obtain ⟨hi1, rfl⟩ := rgD_get he
      obtain ⟨L, x5, x7, hL, hl, hli, rfl⟩ := hi
      obtain ⟨L', x7', g1, g2, g3, g4⟩ := step2 (d := d) (m := m) (x3 := x3) (x4 := x4) (x6 := x6) (x7 := x7) (i := i) hL (by omega) hi1 hm (by omega)
      refine ⟨_, _, rfl, .inl ?_, L', some (.int (i : Int), 0), x7', g1, by omega, by omega, rfl⟩
      simpa only [ap_seq, ap_set, ap_ret, ap_retN, ap_retV, rk_some, ap_expr, ap_if, ap_sNil, ap_brk, ap_cnt, ap_for, ap_app, own_some, own_1, own_2, own_3, app_1, app_2, th_nx, th_rt, th_bk, th_ct, st_ok, bd_ok, ap_stE, ap_setT, tk_some, st_nil, st_cons, ap_par, par_eq, ap_rev, rev_1, rev_1', ap_var, vk_some, al_int, al_bl, al_non, al_str, al_0, al_l1, al_l2, al_l2', al_l3', al_t1, al_t2, al_t2', al_t3', ap_c, ap_bin, ap_un, ap_test, tb_bl, ap_notT, ap_andT, ap_orT, ap_andV, ap_orV, ap_notV, ap_ite, ap_chain, ap_isN, ap_nil, ap_cons, ap_B, ap_lst, ap_tup, ap_lstE, ap_sl, ap_slK, ap_noP, ap_part, ti_int, ap_isi, ap_lr1, ap_lr2, ap_revL, ap_index, ap_seqI, ap_rng1, ap_rng2, ap_revI, ap_call, ap_comp, gn_ap, gt_ap, gts_nil, gts_cons, wp_nil, wp_cons, fz_nil, fz_cons, fz_1, fz_some, o_I, o_B, g_addI, g_addL, g_subI, g_mulI, g_divI, g_modI, g_powI, g_negI, g_ltI, g_leI, g_gtI, g_geI, g_cmpI, g_eqI, g_neI, g_ixL, g_ixT, ik_int, ik_str, ik_lst, ix_0, ix_1, ix_2, ix_3, g_len_l, g_len_t, g_absI, g_intI, g_intB, g_max2, g_min2, g_sum, g_slL, g_rev, sq_l, sq_t, dk_rt, dk_nx, List.set_cons_zero, List.set_cons_succ, List.getElem?_cons_zero, List.getElem?_cons_succ, List.append_nil, List.nil_append, if_true, if_false, Bool.false_eq_true, decide_true, decide_false, Bool.not_true, Bool.not_false, List.not_mem_nil, List.mem_cons, or_false, dl0_1, dt0_1, dl0_2, dt0_2, dl0_3, dt0_3, dl0_4, dt0_4, dl0_5, dt0_5, dl0_6, dt0_6, dl0_7, dt0_7, dl0_8, dt0_8, dl0_9, dl0_10, dl0_11, dl0_12, dl0_13, dl0_14, dl0_15, dl0_16, dl0_17, dl0_18, dl0_19, dl0_20, dl0_0, dt0_0, dt_i1, dt_l1i, dl_l1, dl_l1l1, es_0, es_c, Int.zero_add] using g4)
  rw [rgD_len, Nat.zero_add] at hl3
  refine ⟨L2.take m, fun x hx => hL2 x (List.mem_of_mem_take hx), by rw [List.length_take]; omega, ?_⟩
  have hr : InR (m : Int) := InR.of (by omega) (by omega)
  rw [ds_eq (n := 2) rfl]
  unfold b_draws
  simp only [ap_seq, ap_set, ap_ret, ap_retN, ap_retV, rk_some, ap_expr, ap_if, ap_sNil, ap_brk, ap_cnt, ap_for, ap_app, own_some, own_1, own_2, own_3, app_1, app_2, th_nx, th_rt, th_bk, th_ct, st_ok, bd_ok, ap_stE, ap_setT, tk_some, st_nil, st_cons, ap_par, par_eq, ap_rev, rev_1, rev_1', ap_var, vk_some, al_int, al_bl, al_non, al_str, al_0, al_l1, al_l2, al_l2', al_l3', al_t1, al_t2, al_t2', al_t3', ap_c, ap_bin, ap_un, ap_test, tb_bl, ap_notT, ap_andT, ap_orT, ap_andV, ap_orV, ap_notV, ap_ite, ap_chain, ap_isN, ap_nil, ap_cons, ap_B, ap_lst, ap_tup, ap_lstE, ap_sl, ap_slK, ap_noP, ap_part, ti_int, ap_isi, ap_lr1, ap_lr2, ap_revL, ap_index, ap_seqI, ap_rng1, ap_rng2, ap_revI, ap_call, ap_comp, gn_ap, gt_ap, gts_nil, gts_cons, wp_nil, wp_cons, fz_nil, fz_cons, fz_1, fz_some, o_I, o_B, g_addI, g_addL, g_subI, g_mulI, g_divI, g_modI, g_powI, g_negI, g_ltI, g_leI, g_gtI, g_geI, g_cmpI, g_eqI, g_neI, g_ixL, g_ixT, ik_int, ik_str, ik_lst, ix_0, ix_1, ix_2, ix_3, g_len_l, g_len_t, g_absI, g_intI, g_intB, g_max2, g_min2, g_sum, g_slL, g_rev, sq_l, sq_t, dk_rt, dk_nx, List.set_cons_zero, List.set_cons_succ, List.getElem?_cons_zero, List.getElem?_cons_succ, List.append_nil, List.nil_append, if_true, if_false, Bool.false_eq_true, decide_true, decide_false, Bool.not_true, Bool.not_false, List.not_mem_nil, List.mem_cons, or_false, dl0_1, dt0_1, dl0_2, dt0_2, dl0_3, dt0_3, dl0_4, dt0_4, dl0_5, dt0_5, dl0_6, dt0_6, dl0_7, dt0_7, dl0_8, dt0_8, dl0_9, dl0_10, dl0_11, dl0_12, dl0_13, dl0_14, dl0_15, dl0_16, dl0_17, dl0_18, dl0_19, dl0_20, dl0_0, dt0_0, dt_i1, dt_l1i, dl_l1, dl_l1l1, es_0, es_c, List.map_cons, List.map_nil, List.cons_append, List.replicate, Nat.reduceSub, scr_slice h, Nat.zero_add]
  rw [show ([] : List D) = ([] : List Int).map .int from rfl, e1]
  simp only [ap_seq, ap_set, ap_ret, ap_retN, ap_retV, rk_some, ap_expr, ap_if, ap_sNil, ap_brk, ap_cnt, ap_for, ap_app, own_some, own_1, own_2, own_3, app_1, app_2, th_nx, th_rt, th_bk, th_ct, st_ok, bd_ok, ap_stE, ap_setT, tk_some, st_nil, st_cons, ap_par, par_eq, ap_rev, rev_1, rev_1', ap_var, vk_some, al_int, al_bl, al_non, al_str, al_0, al_l1, al_l2, al_l2', al_l3', al_t1, al_t2, al_t2', al_t3', ap_c, ap_bin, ap_un, ap_test, tb_bl, ap_notT, ap_andT, ap_orT, ap_andV, ap_orV, ap_notV, ap_ite, ap_chain, ap_isN, ap_nil, ap_cons, ap_B, ap_lst, ap_tup, ap_lstE, ap_sl, ap_slK, ap_noP, ap_part, ti_int, ap_isi, ap_lr1, ap_lr2, ap_revL, ap_index, ap_seqI, ap_rng1, ap_rng2, ap_revI, ap_call, ap_comp, gn_ap, gt_ap, gts_nil, gts_cons, wp_nil, wp_cons, fz_nil, fz_cons, fz_1, fz_some, o_I, o_B, g_addI, g_addL, g_subI, g_mulI, g_divI, g_modI, g_powI, g_negI, g_ltI, g_leI, g_gtI, g_geI, g_cmpI, g_eqI, g_neI, g_ixL, g_ixT, ik_int, ik_str, ik_lst, ix_0, ix_1, ix_2, ix_3, g_len_l, g_len_t, g_absI, g_intI, g_intB, g_max2, g_min2, g_sum, g_slL, g_rev, sq_l, sq_t, dk_rt, dk_nx, List.set_cons_zero, List.set_cons_succ, List.getElem?_cons_zero, List.getElem?_cons_succ, List.append_nil, List.nil_append, if_true, if_false, Bool.false_eq_true, decide_true, decide_false, Bool.not_true, Bool.not_false, List.not_mem_nil, List.mem_cons, or_false, dl0_1, dt0_1, dl0_2, dt0_2, dl0_3, dt0_3, dl0_4, dt0_4, dl0_5, dt0_5, dl0_6, dt0_6, dl0_7, dt0_7, dl0_8, dt0_8, dl0_9, dl0_10, dl0_11, dl0_12, dl0_13, dl0_14, dl0_15, dl0_16, dl0_17, dl0_18, dl0_19, dl0_20, dl0_0, dt0_0, dt_i1, dt_l1i, dl_l1, dl_l1l1, es_0, es_c, r1_ok hr, Int.toNat_natCast]
  rw [e2]
  simp only [ap_seq, ap_set, ap_ret, ap_retN, ap_retV, rk_some, ap_expr, ap_if, ap_sNil, ap_brk, ap_cnt, ap_for, ap_app, own_some, own_1, own_2, own_3, app_1, app_2, th_nx, th_rt, th_bk, th_ct, st_ok, bd_ok, ap_stE, ap_setT, tk_some, st_nil, st_cons, ap_par, par_eq, ap_rev, rev_1, rev_1', ap_var, vk_some, al_int, al_bl, al_non, al_str, al_0, al_l1, al_l2, al_l2', al_l3', al_t1, al_t2, al_t2', al_t3', ap_c, ap_bin, ap_un, ap_test, tb_bl, ap_notT, ap_andT, ap_orT, ap_andV, ap_orV, ap_notV, ap_ite, ap_chain, ap_isN, ap_nil, ap_cons, ap_B, ap_lst, ap_tup, ap_lstE, ap_sl, ap_slK, ap_noP, ap_part, ti_int, ap_isi, ap_lr1, ap_lr2, ap_revL, ap_index, ap_seqI, ap_rng1, ap_rng2, ap_revI, ap_call, ap_comp, gn_ap, gt_ap, gts_nil, gts_cons, wp_nil, wp_cons, fz_nil, fz_cons, fz_1, fz_some, o_I, o_B, g_addI, g_addL, g_subI, g_mulI, g_divI, g_modI, g_powI, g_negI, g_ltI, g_leI, g_gtI, g_geI, g_cmpI, g_eqI, g_neI, g_ixL, g_ixT, ik_int, ik_str, ik_lst, ix_0, ix_1, ix_2, ix_3, g_len_l, g_len_t, g_absI, g_intI, g_intB, g_max2, g_min2, g_sum, g_slL, g_rev, sq_l, sq_t, dk_rt, dk_nx, List.set_cons_zero, List.set_cons_succ, List.getElem?_cons_zero, List.getElem?_cons_succ, List.append_nil, List.nil_append, if_true, if_false, Bool.false_eq_true, decide_true, decide_false, Bool.not_true, Bool.not_false, List.not_mem_nil, List.mem_cons, or_false, dl0_1, dt0_1, dl0_2, dt0_2, dl0_3, dt0_3, dl0_4, dt0_4, dl0_5, dt0_5, dl0_6, dt0_6, dl0_7, dt0_7, dl0_8, dt0_8, dl0_9, dl0_10, dl0_11, dl0_12, dl0_13, dl0_14, dl0_15, dl0_16, dl0_17, dl0_18, dl0_19, dl0_20, dl0_0, dt0_0, dt_i1, dt_l1i, dl_l1, dl_l1l1, es_0, es_c, cut_take, List.map_take]
end PyL

namespace PyL
open PySem PySem.Spec L2
set_option autoImplicit false

/-! ### equality of data -/
mutual
theorem deq_refl : ∀ (n : Nat) (d : D), pln n d = true → deq d d = true
  | _, .non, _ => rfl
  | _, .bl b, _ => by simp [deq]
  | _, .int i, _ => by simp [deq]
  | _, .str x, _ => by simp [deq]
  | 0, .lst _, h => by simp [pln] at h
  | 0, .tup _, h => by simp [pln] at h
  | n + 1, .lst ds, h => by
    have h : plnL n ds = true := by simpa [pln] using h
    simpa [deq] using deqL_refl n ds h
  | n + 1, .tup ds, h => by
    have h : plnL n ds = true := by simpa [pln] using h
    simpa [deq] using deqL_refl n ds h
  | _, .dK _, h => by simp [pln] at h
  | _, .dT _, h => by simp [pln] at h
  | _, .scr _ _, h => by simp [pln] at h
theorem deqL_refl : ∀ (n : Nat) (ds : List D), plnL n ds = true → deqL ds ds = true
  | _, [], _ => rfl
  | n, d :: ds, h => by
    simp only [plnL, Bool.and_eq_true] at h
    simp [deqL, deq_refl n d h.1, deqL_refl n ds h.2]
end
theorem plnL_of {n : Nat} {ds : List D} (h : ∀ d ∈ ds, pln n d = true) : plnL n ds = true := by
  induction ds with
  | nil => rfl
  | cons d ds ih => simp only [plnL, Bool.and_eq_true]; exact ⟨h d List.mem_cons_self, ih fun d hd => h d (List.mem_cons_of_mem _ hd)⟩
theorem pln_lst {n : Nat} {ds : List D} (h : ∀ d ∈ ds, pln n d = true) : pln (n + 1) (.lst ds) = true := by simpa [pln] using plnL_of h
theorem pln_tup {n : Nat} {ds : List D} (h : ∀ d ∈ ds, pln n d = true) : pln (n + 1) (.tup ds) = true := by simpa [pln] using plnL_of h
/-! ### encodings -/
abbrev eI (ns : List Int) : D := .lst (ns.map .int)
abbrev eM (rows : List (List Int)) : D := .lst (rows.map eI)
theorem pln_int {n : Nat} {i : Int} : pln n (.int i) = true := by cases n <;> rfl
theorem pln_eI {n : Nat} {ns : List Int} : pln (n + 1) (eI ns) = true := pln_lst fun d hd => by
  obtain ⟨i, _, rfl⟩ := List.mem_map.mp hd
  exact pln_int
theorem pln_eM {n : Nat} {rows : List (List Int)} : pln (n + 2) (eM rows) = true := pln_lst fun d hd => by
  obtain ⟨i, _, rfl⟩ := List.mem_map.mp hd
  exact pln_eI
theorem af_eI {n : Nat} {ns : List Int} : af (n + 1) (eI ns) = true := af_lst fun d hd => by
  obtain ⟨i, _, rfl⟩ := List.mem_map.mp hd
  exact af_int
theorem af_eM {rows : List (List Int)} : af 2 (eM rows) = true := af_lst fun d hd => by
  obtain ⟨i, _, rfl⟩ := List.mem_map.mp hd
  exact af_eI
/-- a link: where it begins, where it ends, its weight -/
abbrev Lk := Nat × Nat × Int
abbrev eK (l : Lk) : D := .tup [.int (l.1 : Int), .int (l.2.1 : Int), .int l.2.2]
abbrev eL (ls : List Lk) : D := .lst (ls.map eK)
theorem af_eK {l : Lk} : af 0 (eK l) = true := rfl
theorem af_eL {ls : List Lk} : af 1 (eL ls) = true := af_lst fun d hd => by
  obtain ⟨i, _, rfl⟩ := List.mem_map.mp hd
  rfl
theorem pln_eK {n : Nat} {l : Lk} : pln (n + 1) (eK l) = true := pln_tup fun d hd => by
  simp only [List.mem_cons, List.not_mem_nil, or_false] at hd
  rcases hd with rfl | rfl | rfl <;> exact pln_int
theorem pln_eL {n : Nat} {ls : List Lk} : pln (n + 2) (eL ls) = true := pln_lst fun d hd => by
  obtain ⟨i, _, rfl⟩ := List.mem_map.mp hd
  exact pln_eK

/-! ### vectors over the places -/
def vec (n : Nat) (f : Nat → Int) : List Int := (List.range n).map f
theorem vec_len {n : Nat} {f : Nat → Int} : (vec n f).length = n := by simp [vec]
theorem vec_get {n : Nat} {f : Nat → Int} {i : Nat} (h : i < n) : (vec n f)[i]? = some (f i) := by
  simp [vec, h]
theorem vec_at {n : Nat} {f : Nat → Int} {i : Nat} (h : i < n) : atI ((vec n f).map D.int) (i : Int) = some (.int (f i)) := by
  refine atI_nat ?_
  rw [List.getElem?_map, vec_get h]; rfl
theorem vec_congr {n : Nat} {f g : Nat → Int} (h : ∀ i < n, f i = g i) : vec n f = vec n g := by
  unfold vec
  exact List.map_congr_left fun i hi => h i (List.mem_range.mp hi)
def upd1 (f : Nat → Int) (j : Nat) (x : Int) : Nat → Int := fun i => if i = j then x else f i
theorem vec_set {n : Nat} {f : Nat → Int} {j : Nat} {x : Int} : (vec n f).set j x = vec n (upd1 f j x) := by
  apply List.ext_getElem?
  intro i
  by_cases hi : i < n
  · rw [vec_get hi]
    by_cases hj : j = i
    · subst hj
      rw [List.getElem?_set_self (by rw [vec_len]; exact hi)]
      simp [upd1]
    · rw [List.getElem?_set_ne hj, vec_get hi]
      simp [upd1, Ne.symm hj]
  · rw [List.getElem?_eq_none (by rw [List.length_set, vec_len]; omega), List.getElem?_eq_none (by rw [vec_len]; omega)]
theorem vec_zero {n : Nat} : vec n (fun _ => 0) = List.replicate n 0 := by
  unfold vec
  rw [List.map_const', List.length_range]
def sumN (n : Nat) (f : Nat → Int) : Int := (vec n f).sum
theorem sumN_succ {n : Nat} {f : Nat → Int} : sumN (n + 1) f = sumN n f + f n := by
  unfold sumN vec
  rw [List.range_succ, List.map_append, List.sum_append]
  simp
theorem sumN_zero {f : Nat → Int} : sumN 0 f = 0 := rfl
theorem sumN_congr {n : Nat} {f g : Nat → Int} (h : ∀ i < n, f i = g i) : sumN n f = sumN n g := by unfold sumN; rw [vec_congr h]
theorem sumN_add {n : Nat} {f g : Nat → Int} : sumN n (fun i => f i + g i) = sumN n f + sumN n g := by
  induction n with
  | zero => rfl
  | succ n ih => rw [sumN_succ, sumN_succ, sumN_succ, ih]; omega
theorem sumN_mul {n : Nat} {f : Nat → Int} {c : Int} : sumN n (fun i => f i * c) = sumN n f * c := by
  induction n with
  | zero => simp [sumN_zero]
  | succ n ih => rw [sumN_succ, sumN_succ, ih, Int.add_mul]
theorem sumN_mulL {n : Nat} {f : Nat → Int} {c : Int} : sumN n (fun i => c * f i) = c * sumN n f := by
  induction n with
  | zero => simp [sumN_zero]
  | succ n ih => rw [sumN_succ, sumN_succ, ih, Int.mul_add]
theorem sumN_0 {n : Nat} {f : Nat → Int} (h : ∀ i < n, f i = 0) : sumN n f = 0 := by
  induction n with
  | zero => rfl
  | succ n ih => rw [sumN_succ, ih (fun i hi => h i (by omega)), h n (by omega)]; rfl
theorem sumN_one {n j : Nat} {f : Nat → Int} (hj : j < n) (h : ∀ i < n, i ≠ j → f i = 0) : sumN n f = f j := by
  induction n with
  | zero => omega
  | succ n ih =>
    rw [sumN_succ]
    by_cases hn : n = j
    · subst hn
      rw [sumN_0 fun i hi => h i (by omega) (by omega)]; omega
    · rw [ih (by omega) (fun i hi => h i (by omega)), h n (by omega) hn]; omega
theorem sumN_swap {n m : Nat} {f : Nat → Nat → Int} : sumN n (fun i => sumN m (f i)) = sumN m (fun j => sumN n (fun i => f i j)) := by
  induction n with
  | zero => rw [sumN_zero, sumN_0]; intro i _; rfl
  | succ n ih =>
    rw [sumN_succ, ih, ← sumN_add]
    exact sumN_congr fun j _ => sumN_succ.symm

/-! ### sizes of numbers -/
def Bd (k : Nat) (x : Int) : Prop := x.natAbs < 2 ^ k
theorem Bd.mono {k m : Nat} {x : Int} (h : Bd k x) (hk : k ≤ m) : Bd m x := Nat.lt_of_lt_of_le h (Nat.pow_le_pow_right (by decide) hk)
theorem Bd.mul {k m : Nat} {x y : Int} (h : Bd k x) (h' : Bd m y) : Bd (k + m) (x * y) := by
  unfold Bd at *
  rw [Int.natAbs_mul, Nat.pow_add]
  exact Nat.mul_lt_mul'' h h'
theorem Bd.add {k : Nat} {x y : Int} (h : Bd k x) (h' : Bd k y) : Bd (k + 1) (x + y) := by
  unfold Bd at *
  rw [Nat.pow_succ]
  omega
theorem Bd.zero {k : Nat} : Bd k 0 := Nat.two_pow_pos k
theorem Bd.of {k : Nat} {x : Int} (n : Nat) (h : x.natAbs < n) (hn : n ≤ 2 ^ k) : Bd k x := Nat.lt_of_lt_of_le h hn
theorem Bd.sub {k : Nat} {x y : Int} (h : Bd k x) (h' : Bd k y) : Bd (k + 1) (x - y) := by
  unfold Bd at *
  rw [Nat.pow_succ]
  omega
theorem Bd.log2 {k : Nat} {x : Int} (h : Bd k x) (hk : 0 < k) : x.natAbs.log2 < k := log2_lt h hk
theorem Bd.mulOk {k m : Nat} {x y : Int} (h : Bd k x) (h' : Bd m y) (hk : k + m ≤ 1000000) : CMulL x y := by
  unfold CMulL
  have h1 : x.natAbs.log2 ≤ k := by
    by_cases hx : x.natAbs = 0
    · rw [hx]; exact Nat.zero_le _
    · exact Nat.le_of_lt ((Nat.log2_lt hx).mpr h)
  have h2 : y.natAbs.log2 ≤ m := by
    by_cases hx : y.natAbs = 0
    · rw [hx]; exact Nat.zero_le _
    · exact Nat.le_of_lt ((Nat.log2_lt hx).mpr h')
  omega
/-- sums of m terms, m below 2^j -/
theorem Bd.sumL {k : Nat} {xs : List Int} (h : ∀ x ∈ xs, Bd k x) : xs.sum.natAbs ≤ xs.length * 2 ^ k := by
  induction xs with
  | nil => simp
  | cons x xs ih =>
    have h1 : x.natAbs < 2 ^ k := h x List.mem_cons_self
    have h2 := ih fun y hy => h y (List.mem_cons_of_mem _ hy)
    rw [List.sum_cons, List.length_cons, Nat.add_mul, Nat.one_mul]
    omega
theorem Bd.sum {k j : Nat} {xs : List Int} (h : ∀ x ∈ xs, Bd k x) (hj : xs.length < 2 ^ j) : Bd (k + j) xs.sum := by
  unfold Bd
  refine Nat.lt_of_le_of_lt (Bd.sumL h) ?_
  rw [Nat.pow_add, Nat.mul_comm]
  exact Nat.mul_lt_mul_of_pos_left hj (Nat.two_pow_pos k)
theorem Bd.sumN {k j n : Nat} {f : Nat → Int} (h : ∀ i < n, Bd k (f i)) (hj : n < 2 ^ j) : Bd (k + j) (sumN n f) := Bd.sum (fun x hx => by
  obtain ⟨i, hi, rfl⟩ := List.mem_map.mp hx
  exact h i (List.mem_range.mp hi)) (by rw [vec_len]; exact hj)

/-! ### loops and comprehensions -/
theorem rgD_zero (n : Nat) : rgD 0 n = (List.range n).map fun i : Nat => .int (i : Int) := by
  unfold rgD
  exact List.map_congr_left fun i _ => by rw [Int.zero_add]
theorem forL_fold {α β : Type} {enc : α → D} {tg : FG} {vs : List Nat} {body : FS} (S : β → Ev → Prop) (step : β → α → β) : ∀ {xs : List α} {b : β} {ρ : Ev}, S b ρ →
    (∀ x ∈ xs, ∀ b ρ, S b ρ → ∃ ρ1 ρ2, tg (enc x) (wipeE ρ vs) = some ρ1 ∧ (body ρ1 = .nx ρ2 ∨ body ρ1 = .ct ρ2) ∧ S (step b x) ρ2) → ∃ ρ', forL tg vs body ρ (xs.map enc) = .nx ρ' ∧ S (xs.foldl step b) ρ'
  | [], b, ρ, h, _ => ⟨ρ, rfl, h⟩
  | x :: xs, b, ρ, h, st => by
    obtain ⟨ρ1, ρ2, e1, e2, h2⟩ := st x List.mem_cons_self b ρ h
    obtain ⟨ρ', e, h'⟩ := forL_fold S step (xs := xs) h2 fun y hy => st y (List.mem_cons_of_mem _ hy)
    refine ⟨ρ', ?_, h'⟩
    rw [List.map_cons]
    unfold forL
    rcases e2 with e2 | e2
    · simp only [e1, e2]; exact e
    · simp only [e1, e2]; exact e
/-- .. by the place in the list -/
theorem forL_at {α : Type} {enc : α → D} {tg : FG} {vs : List Nat} {body : FS} {xs : List α} (S : Nat → Ev → Prop) {ρ : Ev} (h : S 0 ρ)
    (st : ∀ i x, xs[i]? = some x → ∀ ρ, S i ρ → ∃ ρ1 ρ2, tg (enc x) (wipeE ρ vs) = some ρ1 ∧ (body ρ1 = .nx ρ2 ∨ body ρ1 = .ct ρ2) ∧ S (i + 1) ρ2) : ∃ ρ', forL tg vs body ρ (xs.map enc) = .nx ρ' ∧ S xs.length ρ' := by
  obtain ⟨ρ', e, h'⟩ := forL_inv (tg := tg) (vs := vs) (body := body) S (ds := xs.map enc) (j := 0) h fun i d ρ hd hi => by
    rw [Nat.zero_add] at hi ⊢
    rw [List.getElem?_map] at hd
    cases q : xs[i]? with
    | none => rw [q] at hd; cases hd
    | some x => rw [q] at hd; cases hd; exact st i x q ρ hi
  rw [List.length_map, Nat.zero_add] at h'
  exact ⟨ρ', e, h'⟩
theorem take_snoc {α : Type} {xs : List α} {i : Nat} {x : α} (h : xs[i]? = some x) : xs.take (i + 1) = xs.take i ++ [x] := by
  rw [List.take_add_one, h]; rfl
theorem small {n : Nat} (h : n ≤ 1000000) : n < sizeLine := Nat.lt_of_le_of_lt h (by decide)
theorem small' {n : Nat} (h : n ≤ 1000000) : n ≤ sizeLine := Nat.le_of_lt (small h)
/-- .. over range(n) -/
theorem forL_rng {v : Nat} {vs : List Nat} {body : FS} {n : Nat} (S : Nat → Ev → Prop) {ρ : Ev} (h : S 0 ρ)
    (st : ∀ i, i < n → ∀ ρ, S i ρ → ∃ ρ2, (body ((wipeE ρ vs).set v (some (.int (i : Int), 0))) = .nx ρ2 ∨ body ((wipeE ρ vs).set v (some (.int (i : Int), 0))) = .ct ρ2) ∧ S (i + 1) ρ2) : ∃ ρ', forL (gN v) vs body ρ (rgD 0 n) = .nx ρ' ∧ S n ρ' := by
  obtain ⟨ρ', e, h'⟩ := forL_inv (tg := gN v) (vs := vs) (body := body) S (ds := rgD 0 n) (j := 0) h fun i d ρ hd hi => by
    obtain ⟨h1, rfl⟩ := rgD_get hd
    rw [Nat.zero_add] at hi
    obtain ⟨ρ2, e2, h2⟩ := st i h1 ρ hi
    rw [Int.zero_add, Nat.zero_add]
    exact ⟨_, ρ2, rfl, e2, h2⟩
  rw [rgD_len, Nat.zero_add] at h'
  exact ⟨ρ', e, h'⟩
theorem compL_enc {α : Type} {enc : α → D} {tg : FG} {tt : FT} {te : FE} {ρ : Ev} (p : α → Bool) (g : α → R) : ∀ {xs : List α}, (∀ x ∈ xs, ∃ ρ2, tg (enc x) ρ = some ρ2 ∧ tt ρ2 = .ok (p x) ∧ (p x = true → te ρ2 = .ok (g x))) → compL tg tt te ρ (xs.map enc) = .ok ((xs.filter p).map g)
  | [], _ => rfl
  | x :: xs, h => by
    obtain ⟨ρ2, e1, e2, e3⟩ := h x List.mem_cons_self
    have ih := compL_enc p g (xs := xs) fun y hy => h y (List.mem_cons_of_mem _ hy)
    rw [List.map_cons]
    unfold compL
    simp only [e1, e2, noX, Res.bind]
    cases hp : p x with
    | false => simp only [Bool.false_eq_true, if_false, List.filter_cons, hp]; exact ih
    | true => simp only [if_true, e3 hp, ih, List.filter_cons, hp, List.map_cons]
theorem disp_ints {c : List Nat} {zs : List Int} (h : zs.length ≤ 1000000) : dispC 0 c (zs.map fun z => ⟨.int z, 0, [], []⟩) = .ok ⟨eI zs, 1, [], []⟩ := by
  have hl : (zs.map fun z => (⟨.int z, 0, [], []⟩ : R)).length ≤ sizeLine := by rw [List.length_map]; exact Nat.le_trans h (by decide)
  have hd : hDep 0 (zs.map fun z => (⟨.int z, 0, [], []⟩ : R)) = 0 := by unfold hDep; split <;> rfl
  have hm : (zs.map fun z => (⟨.int z, 0, [], []⟩ : R)).map (·.d) = zs.map .int := by rw [List.map_map]; rfl
  unfold dispC
  rw [if_pos hl]
  simp only [hd, hm]
  exact if_pos (af_ints (ns := zs))
theorem disp_rows {c : List Nat} {rows : List (List Int)} (h : rows.length ≤ 1000000) : dispC 1 c (rows.map fun z => ⟨eI z, 1, [], []⟩) = .ok ⟨eM rows, 2, [], []⟩ := by
  have hl : (rows.map fun z => (⟨eI z, 1, [], []⟩ : R)).length ≤ sizeLine := by rw [List.length_map]; exact Nat.le_trans h (by decide)
  have hd : hDep 1 (rows.map fun z => (⟨eI z, 1, [], []⟩ : R)) = 1 := by
    unfold hDep
    rw [if_pos]
    simp
  have hm : (rows.map fun z => (⟨eI z, 1, [], []⟩ : R)).map (·.d) = rows.map eI := by rw [List.map_map]; rfl
  unfold dispC
  rw [if_pos hl]
  simp only [hd, hm]
  exact if_pos (af_eM (rows := rows))
theorem disp_af {α : Type} {c : List Nat} {enc : α → D} {xs : List α} (h : xs.length ≤ 1000000) (ha : ∀ x ∈ xs, af 0 (enc x) = true) : dispC 0 c (xs.map fun z => ⟨enc z, 0, [], []⟩) = .ok ⟨.lst (xs.map enc), 1, [], []⟩ := by
  have hl : (xs.map fun z => (⟨enc z, 0, [], []⟩ : R)).length ≤ sizeLine := by rw [List.length_map]; exact Nat.le_trans h (by decide)
  have hd : hDep 0 (xs.map fun z => (⟨enc z, 0, [], []⟩ : R)) = 0 := by unfold hDep; split <;> rfl
  have hm : (xs.map fun z => (⟨enc z, 0, [], []⟩ : R)).map (·.d) = xs.map enc := by rw [List.map_map]; rfl
  unfold dispC
  rw [if_pos hl]
  simp only [hd, hm]
  rw [if_pos (af_lst (k := 0) fun d hd => by obtain ⟨x, hx, rfl⟩ := List.mem_map.mp hd; exact ha x hx)]
/-- [int for x in ..] -/
theorem comp_ints {α : Type} {enc : α → D} {it : FI} {tg : FG} {tt : FT} {te : FE} {vs : List Nat} {ρ : Ev} {e c : List Nat} {xs : List α} (p : α → Bool) (f : α → Int) (hi : it ρ = .ok ⟨xs.map enc, e, c⟩) (hn : xs.length ≤ 1000000)
    (h : ∀ x ∈ xs, ∃ ρ2, tg (enc x) (wipeE (frzL c ρ) vs) = some ρ2 ∧ tt ρ2 = .ok (p x) ∧ (p x = true → te ρ2 = .ok ⟨.int (f x), 0, [], []⟩)) : fComp 0 it tg tt te vs ρ = .ok ⟨eI ((xs.filter p).map f), 1, [], []⟩ := by
  rw [ap_comp, hi]
  simp only [bd_ok]
  rw [compL_enc p (fun x => ⟨.int (f x), 0, [], []⟩) h]
  simp only [bd_ok]
  rw [show (xs.filter p).map (fun x => (⟨.int (f x), 0, [], []⟩ : R)) = ((xs.filter p).map f).map fun z => ⟨.int z, 0, [], []⟩ by rw [List.map_map]; rfl]
  exact disp_ints (by rw [List.length_map]; exact Nat.le_trans (List.length_filter_le _ _) hn)
theorem filter_tt {α : Type} {xs : List α} : xs.filter (fun _ => true) = xs := List.filter_eq_self.mpr fun _ _ => rfl
/-- [thing for x in ..], no lists within -/
theorem comp_af {α β : Type} {enc : α → D} {enc2 : β → D} {it : FI} {tg : FG} {tt : FT} {te : FE} {vs : List Nat} {ρ : Ev} {e c : List Nat} {xs : List α} (p : α → Bool) (f : α → β) (ha : ∀ y, af 0 (enc2 y) = true) (hi : it ρ = .ok ⟨xs.map enc, e, c⟩) (hn : xs.length ≤ 1000000)
    (h : ∀ x ∈ xs, ∃ ρ2, tg (enc x) (wipeE (frzL c ρ) vs) = some ρ2 ∧ tt ρ2 = .ok (p x) ∧ (p x = true → te ρ2 = .ok ⟨enc2 (f x), 0, [], []⟩)) : fComp 0 it tg tt te vs ρ = .ok ⟨.lst (((xs.filter p).map f).map enc2), 1, [], []⟩ := by
  rw [ap_comp, hi]
  simp only [bd_ok]
  rw [compL_enc p (fun x => ⟨enc2 (f x), 0, [], []⟩) h]
  simp only [bd_ok]
  rw [show (xs.filter p).map (fun x => (⟨enc2 (f x), 0, [], []⟩ : R)) = ((xs.filter p).map f).map fun z => ⟨enc2 z, 0, [], []⟩ by rw [List.map_map]; rfl]
  exact disp_af (by rw [List.length_map]; exact Nat.le_trans (List.length_filter_le _ _) hn) fun x _ => ha x
/-- [thing for i in range(n)] -/
theorem comp_afN {β : Type} {enc2 : β → D} {it : FI} {te : FE} {v : Nat} {ρ : Ev} {n : Nat} (f : Nat → β) (ha : ∀ y, af 0 (enc2 y) = true) (hi : it ρ = .ok ⟨rgD 0 n, [], []⟩) (hn : n ≤ 1000000)
    (h : ∀ i < n, te ((wipeE ρ [v]).set v (some (.int (i : Int), 0))) = .ok ⟨enc2 (f i), 0, [], []⟩) : fComp 0 it (gN v) fYes te [v] ρ = .ok ⟨.lst (((List.range n).map f).map enc2), 1, [], []⟩ := by
  rw [rgD_zero] at hi
  have := comp_af (te := te) (tt := fYes) (tg := gN v) (vs := [v]) (fun _ => true) f ha hi (by rw [List.length_range]; exact hn) fun i hi => ⟨_, rfl, rfl, fun _ => h i (List.mem_range.mp hi)⟩
  rw [this, filter_tt]
/-- [int for i in range(n)] -/
theorem comp_vec {it : FI} {te : FE} {v : Nat} {ρ : Ev} {n : Nat} (f : Nat → Int) (hi : it ρ = .ok ⟨rgD 0 n, [], []⟩) (hn : n ≤ 1000000)
    (h : ∀ i < n, te ((wipeE ρ [v]).set v (some (.int (i : Int), 0))) = .ok ⟨.int (f i), 0, [], []⟩) : fComp 0 it (gN v) fYes te [v] ρ = .ok ⟨eI (vec n f), 1, [], []⟩ := by
  rw [rgD_zero] at hi
  have := comp_ints (te := te) (tt := fYes) (tg := gN v) (vs := [v]) (fun _ => true) f hi (by rw [List.length_range]; exact hn) fun i hi => ⟨_, rfl, rfl, fun _ => h i (List.mem_range.mp hi)⟩
  rw [this, filter_tt]
  rfl
/-- [row for i in range(n)] -/
theorem comp_mat {it : FI} {te : FE} {v : Nat} {ρ : Ev} {n : Nat} (f : Nat → List Int) (hi : it ρ = .ok ⟨rgD 0 n, [], []⟩) (hn : n ≤ 1000000)
    (h : ∀ i < n, te ((wipeE ρ [v]).set v (some (.int (i : Int), 0))) = .ok ⟨eI (f i), 1, [], []⟩) : fComp 1 it (gN v) fYes te [v] ρ = .ok ⟨eM ((List.range n).map f), 2, [], []⟩ := by
  rw [rgD_zero] at hi
  rw [ap_comp, hi]
  simp only [bd_ok]
  rw [compL_enc (fun _ => true) (fun x => ⟨eI (f x), 1, [], []⟩) fun i hi => ⟨_, rfl, rfl, fun _ => h i (List.mem_range.mp hi)⟩]
  simp only [bd_ok]
  rw [filter_tt, show (List.range n).map (fun x => (⟨eI (f x), 1, [], []⟩ : R)) = ((List.range n).map f).map fun z => ⟨eI z, 1, [], []⟩ by rw [List.map_map]; rfl]
  exact disp_rows (by rw [List.length_map, List.length_range]; exact hn)
def mat (n : Nat) (g : Nat → Nat → Int) : List (List Int) := (List.range n).map fun i => vec n (g i)
theorem mat_len {n : Nat} {g : Nat → Nat → Int} : (mat n g).length = n := by simp [mat]
theorem mat_at {n : Nat} {g : Nat → Nat → Int} {i : Nat} (h : i < n) : atI ((mat n g).map eI) (i : Int) = some (eI (vec n (g i))) := by
  refine atI_nat ?_
  rw [List.getElem?_map]
  simp [mat, h]
theorem mat_congr {n : Nat} {f g : Nat → Nat → Int} (h : ∀ i < n, ∀ j < n, f i j = g i j) : mat n f = mat n g := by
  unfold mat
  exact List.map_congr_left fun i hi => vec_congr fun j hj => h i (List.mem_range.mp hi) j hj
/-! more of the operators -/
theorem gNe_same {d : D} {k1 k2 : Nat} {e1 c1 e2 c2 : List Nat} (h : pln 60 d = true) : gNe ⟨d, k1, e1, c1⟩ ⟨d, k2, e2, c2⟩ = .ok ⟨.bl false, 0, [], []⟩ := by rw [g_neD h h, deq_refl 60 d h]; rfl
theorem gEq_same {d : D} {k1 k2 : Nat} {e1 c1 e2 c2 : List Nat} (h : pln 60 d = true) : gEq ⟨d, k1, e1, c1⟩ ⟨d, k2, e2, c2⟩ = .ok ⟨.bl true, 0, [], []⟩ := by rw [g_eqD h h, deq_refl 60 d h]
theorem g_list {xs : List D} {k1 : Nat} {e1 c1 : List Nat} : gList [⟨.lst xs, k1, e1, c1⟩] = .ok ⟨.lst xs, 1, c1, c1⟩ := nr rfl
theorem g_listT {xs : List D} {k1 : Nat} {e1 c1 : List Nat} : gList [⟨.tup xs, k1, e1, c1⟩] = .ok ⟨.lst xs, 1, c1, c1⟩ := nr rfl
theorem isi_list {xs : List D} {k1 : Nat} {e1 c1 : List Nat} : gIsi "list" ⟨.lst xs, k1, e1, c1⟩ = .ok ⟨.bl true, 0, [], []⟩ := nr rfl
theorem isi_tuple {xs : List D} {k1 : Nat} {e1 c1 : List Nat} : gIsi "tuple" ⟨.tup xs, k1, e1, c1⟩ = .ok ⟨.bl true, 0, [], []⟩ := nr rfl
theorem isi_bool {b : Bool} {k1 : Nat} {e1 c1 : List Nat} : gIsi "bool" ⟨.bl b, k1, e1, c1⟩ = .ok ⟨.bl true, 0, [], []⟩ := nr rfl
theorem isi_int {x : Int} {k1 : Nat} {e1 c1 : List Nat} : gIsi "int" ⟨.int x, k1, e1, c1⟩ = .ok ⟨.bl true, 0, [], []⟩ := nr rfl
theorem isi_boolI {x : Int} {k1 : Nat} {e1 c1 : List Nat} : gIsi "bool" ⟨.int x, k1, e1, c1⟩ = .ok ⟨.bl false, 0, [], []⟩ := nr rfl
theorem gIn_ok {neg : Bool} {a : D} {xs : List D} {k1 k2 : Nat} {e1 c1 e2 c2 : List Nat} (h1 : pln 60 a = true) (h2 : plnL 60 xs = true) : gIn neg ⟨a, k1, e1, c1⟩ ⟨.lst xs, k2, e2, c2⟩ = .ok ⟨.bl (if neg then !memD xs a else memD xs a), 0, [], []⟩ := by
  show (if pln 60 a && plnL 60 xs then okB (if neg then !memD xs a else memD xs a) else .bad) = _
  rw [h1, h2]; rfl
theorem maxL_le {b : Int} : ∀ {ns : List Int}, (∀ x ∈ ns, x ≤ b) → 0 ≤ b → maxL ns ≤ b
  | [], _, h => h
  | [x], h, _ => h x (by simp)
  | x :: y :: r, h, hb => by
    have := maxL_le (ns := y :: r) (fun z hz => h z (List.mem_cons_of_mem _ hz)) hb
    have := h x (by simp)
    show max x (maxL (y :: r)) ≤ b
    omega
theorem maxL_ge {b : Int} : ∀ {ns : List Int}, (∃ x ∈ ns, b ≤ x) → b ≤ maxL ns
  | [], ⟨_, h, _⟩ => by cases h
  | [x], ⟨y, h, hb⟩ => by rw [List.mem_singleton.mp h] at hb; exact hb
  | x :: y :: r, ⟨z, h, hb⟩ => by
    show b ≤ max x (maxL (y :: r))
    rcases List.mem_cons.mp h with h | h
    · subst h; omega
    · have := maxL_ge (ns := y :: r) ⟨z, h, hb⟩; omega
theorem g_max {ns : List Int} {k1 : Nat} {e1 c1 : List Nat} (h : 0 < ns.length) : gMax [⟨.lst (ns.map .int), k1, e1, c1⟩] = .ok ⟨.int (maxL ns), 0, [], []⟩ := by
  unfold gMax onInts on1
  simp only [ints_map]
  rw [if_pos h]; rfl
theorem g_min {ns : List Int} {k1 : Nat} {e1 c1 : List Nat} (h : 0 < ns.length) : gMin [⟨.lst (ns.map .int), k1, e1, c1⟩] = .ok ⟨.int (minL ns), 0, [], []⟩ := by
  unfold gMin onInts on1
  simp only [ints_map]
  rw [if_pos h]; rfl
/-- rows[z][z2] = r -/
theorem store2_eq {i : Nat} {fi fj f : FE} {ρ : Ev} {ds es : List D} {k : Nat} {r : R} {z z2 : Int} {k1 k2 j l : Nat} {e1 c1 e2 c2 : List Nat} (h0 : ρ[i]? = some (some (.lst ds, k + 2))) (h1 : f ρ = .ok r) (hs : scal r.d = true) (h2 : fi ρ = .ok ⟨.int z, k1, e1, c1⟩) (h3 : ixN ds.length z = some j) (h4 : ds[j]? = some (.lst es))
    (h5 : fj ρ = .ok ⟨.int z2, k2, e2, c2⟩) (h6 : ixN es.length z2 = some l) : sStore2 i fi fj f ρ = .nx (ρ.set i (some (.lst (ds.set j (.lst (es.set l r.d))), k + 2))) := by
  unfold sStore2 own2
  rw [h0]
  simp only
  rw [stE_def h1, stE_def h2]
  unfold rowOk
  rw [h0]
  simp only [h3, h4]
  rw [stE_def h5]
  unfold store2Out
  rw [h0]
  simp only [h3, h4, h6, hs, if_true]
/-- x[z][z2][z3] = r -/
theorem store3_eq {i : Nat} {fi fj fl f : FE} {ρ : Ev} {ds es gs : List D} {k : Nat} {r : R} {z z2 z3 : Int} {k1 k2 k3 j l m : Nat} {e1 c1 e2 c2 e3 c3 : List Nat} (h0 : ρ[i]? = some (some (.lst ds, k + 3))) (h1 : f ρ = .ok r) (hs : scal r.d = true) (h2 : fi ρ = .ok ⟨.int z, k1, e1, c1⟩) (h3 : ixN ds.length z = some j) (h4 : ds[j]? = some (.lst es))
    (h5 : fj ρ = .ok ⟨.int z2, k2, e2, c2⟩) (h6 : ixN es.length z2 = some l) (h7 : es[l]? = some (.lst gs)) (h8 : fl ρ = .ok ⟨.int z3, k3, e3, c3⟩) (h9 : ixN gs.length z3 = some m) : sStore3 i fi fj fl f ρ = .nx (ρ.set i (some (.lst (ds.set j (.lst (es.set l (.lst (gs.set m r.d))))), k + 3))) := by
  unfold sStore3 own3
  rw [h0]
  simp only
  rw [stE_def h1, stE_def h2]
  unfold row3a
  rw [h0]
  simp only [h3, h4]
  rw [stE_def h5]
  unfold row3b
  rw [h0]
  simp only [h3, h4, h6, h7]
  rw [stE_def h8]
  unfold store3Out
  rw [h0]
  simp only [h3, h4, h6, h7, h9, hs, if_true]
theorem g_gcd {x y : Int} {k1 k2 : Nat} {e1 c1 e2 c2 : List Nat} : gGcd [⟨.int x, k1, e1, c1⟩, ⟨.int y, k2, e2, c2⟩] = .ok ⟨.int ((Nat.gcd x.natAbs y.natAbs : Nat) : Int), 0, [], []⟩ := nr rfl
theorem g_lcm {x y : Int} {k1 k2 : Nat} {e1 c1 e2 c2 : List Nat} (h : CLcm x y) : gLcm [⟨.int x, k1, e1, c1⟩, ⟨.int y, k2, e2, c2⟩] = .ok ⟨.int ((Nat.lcm x.natAbs y.natAbs : Nat) : Int), 0, [], []⟩ := by
  unfold gLcm on2
  exact if_pos h
theorem ap_mvT {t : Nat} {is : List Nat} {ρ : Ev} : sMvT t is ρ = mvK is t ρ ρ[t]? := nr rfl
theorem mv_some {t k : Nat} {is : List Nat} {ρ ρ' : Ev} {ds : List D} (h : setTs is ds (k - 1) (wipeE ρ [t]) = some ρ') : mvK is t ρ (some (some (.tup ds, k))) = .nx ρ' := by
  unfold mvK
  simp only [h]
theorem ap_while {n : Nat} {t : FT} {b : FS} {ρ : Ev} : sWhile n t b ρ = whileL t b n ρ := nr rfl
theorem rng3_ok {i j c : Int} {k1 k2 k3 m : Nat} {e1 c1 e2 c2 e3 c3 : List Nat} (h : RgC i j c m) : on3I rng3 [⟨.int i, k1, e1, c1⟩, ⟨.int j, k2, e2, c2⟩, ⟨.int c, k3, e3, c3⟩] = .ok ⟨rcD i c m, [], []⟩ := by
  have hm : (Builtin.Range.rangeSize i j c).toNat = m := by rw [h.2.2.2]; exact Int.toNat_natCast m
  unfold on3I rng3
  show (if RgC i j c (Builtin.Range.rangeSize i j c).toNat then (.ok ⟨rcD i c (Builtin.Range.rangeSize i j c).toNat, [], []⟩ : Res IR) else .bad) = _
  rw [hm]
  exact if_pos h
theorem ap_rng3 {A : FA} {ρ : Ev} : fRng3 A ρ = (A ρ).bind (on3I rng3) := nr rfl
theorem isiS (s : Str) {k1 : Nat} {e1 c1 : List Nat} : gIsi "str" ⟨.str s, k1, e1, c1⟩ = .ok ⟨.bl true, 0, [], []⟩ := nr rfl
/-- [row for x in ..] -/
theorem comp_rows {α : Type} {enc : α → D} {it : FI} {tg : FG} {tt : FT} {te : FE} {vs : List Nat} {ρ : Ev} {e c : List Nat} {xs : List α} (p : α → Bool) (f : α → List Int) (hi : it ρ = .ok ⟨xs.map enc, e, c⟩) (hn : xs.length ≤ 1000000)
    (h : ∀ x ∈ xs, ∃ ρ2, tg (enc x) (wipeE (frzL c ρ) vs) = some ρ2 ∧ tt ρ2 = .ok (p x) ∧ (p x = true → te ρ2 = .ok ⟨eI (f x), 1, [], []⟩)) : fComp 1 it tg tt te vs ρ = .ok ⟨eM ((xs.filter p).map f), 2, [], []⟩ := by
  rw [ap_comp, hi]
  simp only [bd_ok]
  rw [compL_enc p (fun x => ⟨eI (f x), 1, [], []⟩) h]
  simp only [bd_ok]
  rw [show (xs.filter p).map (fun x => (⟨eI (f x), 1, [], []⟩ : R)) = ((xs.filter p).map f).map fun z => ⟨eI z, 1, [], []⟩ by rw [List.map_map]; rfl]
  exact disp_rows (by rw [List.length_map]; exact Nat.le_trans (List.length_filter_le _ _) hn)
theorem n_isN_l {neg : Bool} {xs : List D} {k1 : Nat} {e1 c1 : List Nat} : gIsN neg ⟨.lst xs, k1, e1, c1⟩ = .ok ⟨.bl neg, 0, [], []⟩ := nr rfl
theorem n_isN_t {neg : Bool} {xs : List D} {k1 : Nat} {e1 c1 : List Nat} : gIsN neg ⟨.tup xs, k1, e1, c1⟩ = .ok ⟨.bl neg, 0, [], []⟩ := nr rfl
theorem n_isN_i {neg : Bool} {x : Int} {k1 : Nat} {e1 c1 : List Nat} : gIsN neg ⟨.int x, k1, e1, c1⟩ = .ok ⟨.bl neg, 0, [], []⟩ := nr rfl
theorem n_isN_n {neg : Bool} {k1 : Nat} {e1 c1 : List Nat} : gIsN neg ⟨.non, k1, e1, c1⟩ = .ok ⟨.bl (!neg), 0, [], []⟩ := nr rfl
theorem dl_l2l2 {xs ys : List D} {e c e' c' : List Nat} : dispL [⟨.lst xs, 2, e, c⟩, ⟨.lst ys, 2, e', c'⟩] = .ok ⟨.lst [.lst xs, .lst ys], 3, e ++ (e' ++ []), e ++ (e' ++ [])⟩ := by
  refine Eq.trans (dl_g ?_) ?_
  · exact szn 2 (by decide)
  · rfl
theorem fmodNat {a b : Nat} : ((a : Int)).fmod (b : Int) = ((a % b : Nat) : Int) := by
  rw [Int.fmod_eq_emod_of_nonneg _ (by omega)]; rfl
theorem bdec (p : Prop) [Decidable p] : decide p = true ∨ decide p = false := by cases decide p <;> simp
theorem ixN_nat {n j : Nat} (h : j < n) : ixN n (j : Int) = some j := by
  unfold ixN
  rw [if_pos (by omega), if_pos (by omega)]; simp
end PyL

namespace PyL
open PySem PySem.Spec L2
set_option autoImplicit false

/-! ### typed values and their data -/
class Enc (α : Type) where
  enc : α → D
open Enc (enc)
/-- scalars -/
class EncS (α : Type) [Enc α] : Prop where
  sc : ∀ a : α, scal (enc a) = true
/-- how deep lists lie within -/
class EncF (α : Type) [Enc α] where
  dp : Nat
  ok : ∀ a : α, af dp (enc a) = true
/-- plain data -/
class EncP (α : Type) [Enc α] where
  pd : Nat
  ok : ∀ a : α, pln pd (enc a) = true
/-- equality is that of the data -/
class EncQ (α : Type) [Enc α] [DecidableEq α] : Prop where
  ok : ∀ a b : α, deq (enc a) (enc b) = decide (a = b)
structure T2 (α β : Type) where
  a : α
  b : β
deriving DecidableEq
structure T3 (α β γ : Type) where
  a : α
  b : β
  c : γ
deriving DecidableEq
structure T4 (α β γ δ : Type) where
  a : α
  b : β
  c : γ
  d : δ
deriving DecidableEq
instance : Enc Int := ⟨.int⟩
instance : Enc Bool := ⟨.bl⟩
instance : Enc Unit := ⟨fun _ => .non⟩
instance : Enc Str := ⟨.str⟩
instance : Enc D := ⟨id⟩
section
variable {α β γ δ : Type} [Enc α] [Enc β] [Enc γ] [Enc δ]
instance : Enc (List α) := ⟨fun xs => .lst (xs.map enc)⟩
instance : Enc (T2 α β) := ⟨fun t => .tup [enc t.a, enc t.b]⟩
instance : Enc (T3 α β γ) := ⟨fun t => .tup [enc t.a, enc t.b, enc t.c]⟩
instance : Enc (T4 α β γ δ) := ⟨fun t => .tup [enc t.a, enc t.b, enc t.c, enc t.d]⟩
instance : Enc (Option α) := ⟨fun o => match o with
  | none => .non
  | some a => enc a⟩
end
instance : EncS Int := ⟨fun _ => rfl⟩
instance : EncS Bool := ⟨fun _ => rfl⟩
instance : EncS Unit := ⟨fun _ => rfl⟩
instance : EncS Str := ⟨fun _ => rfl⟩
theorem af_exc {n : Nat} {a : Addr} {dd : Option Addr} {c : Str} {ns : List Str} {ds : List D} : af n (.exc a dd c ns ds) = false := by cases n <;> rfl
theorem pln_exc {n : Nat} {a : Addr} {dd : Option Addr} {c : Str} {ns : List Str} {ds : List D} : pln n (.exc a dd c ns ds) = false := by cases n <;> rfl
mutual
theorem af_up : ∀ (d : D) {n m : Nat}, af n d = true → n ≤ m → af m d = true
  | .lst ds, 0, _, h, _ => by simp [af] at h
  | .lst ds, n + 1, 0, _, h => by omega
  | .lst ds, n + 1, m + 1, h, hn => by simp only [af] at h ⊢; exact afL_up ds h (by omega)
  | .tup ds, 0, 0, h, _ => h
  | .tup ds, 0, m + 1, h, _ => by simp only [af] at h ⊢; exact afL_up ds h (by omega)
  | .tup ds, n + 1, 0, _, h => by omega
  | .tup ds, n + 1, m + 1, h, hn => by simp only [af] at h ⊢; exact afL_up ds h (by omega)
  | .dK _, 0, _, h, _ => by simp [af] at h
  | .dK _, n + 1, 0, _, h => by omega
  | .dK _, n + 1, m + 1, _, _ => rfl
  | .dT _, 0, _, h, _ => by simp [af] at h
  | .dT _, n + 1, 0, _, h => by omega
  | .dT _, n + 1, m + 1, _, _ => rfl
  | .non, _, m, _, _ => by cases m <;> rfl
  | .bl _, _, m, _, _ => by cases m <;> rfl
  | .int _, _, m, _, _ => by cases m <;> rfl
  | .str _, _, m, _, _ => by cases m <;> rfl
  | .scr _ _, _, m, _, _ => by cases m <;> rfl
  | .exc _ _ _ _ _, _, _, h, _ => Bool.noConfusion (af_exc.symm.trans h)
theorem afL_up : ∀ (ds : List D) {n m : Nat}, afL n ds = true → n ≤ m → afL m ds = true
  | [], _, _, _, _ => rfl
  | d :: ds, n, m, h, hn => by
    simp only [afL, Bool.and_eq_true] at h ⊢
    exact ⟨af_up d h.1 hn, afL_up ds h.2 hn⟩
end
mutual
theorem pln_up : ∀ (d : D) {n m : Nat}, pln n d = true → n ≤ m → pln m d = true
  | .lst ds, 0, _, h, _ => by simp [pln] at h
  | .lst ds, n + 1, 0, _, h => by omega
  | .lst ds, n + 1, m + 1, h, hn => by simp only [pln] at h ⊢; exact plnL_up ds h (by omega)
  | .tup ds, 0, _, h, _ => by simp [pln] at h
  | .tup ds, n + 1, 0, _, h => by omega
  | .tup ds, n + 1, m + 1, h, hn => by simp only [pln] at h ⊢; exact plnL_up ds h (by omega)
  | .dK _, _, _, h, _ => by simp [pln] at h
  | .dT _, _, _, h, _ => by simp [pln] at h
  | .non, _, m, _, _ => by cases m <;> rfl
  | .bl _, _, m, _, _ => by cases m <;> rfl
  | .int _, _, m, _, _ => by cases m <;> rfl
  | .str _, _, m, _, _ => by cases m <;> rfl
  | .scr _ _, _, _, h, _ => by simp [pln] at h
  | .exc _ _ _ _ _, _, _, h, _ => Bool.noConfusion (pln_exc.symm.trans h)
theorem plnL_up : ∀ (ds : List D) {n m : Nat}, plnL n ds = true → n ≤ m → plnL m ds = true
  | [], _, _, _, _ => rfl
  | d :: ds, n, m, h, hn => by
    simp only [plnL, Bool.and_eq_true] at h ⊢
    exact ⟨pln_up d h.1 hn, plnL_up ds h.2 hn⟩
end
instance : EncF Int := ⟨0, fun _ => rfl⟩
instance : EncF Bool := ⟨0, fun _ => rfl⟩
instance : EncF Unit := ⟨0, fun _ => rfl⟩
instance : EncF Str := ⟨0, fun _ => rfl⟩
instance : EncP Int := ⟨0, fun _ => rfl⟩
instance : EncP Bool := ⟨0, fun _ => rfl⟩
instance : EncP Unit := ⟨0, fun _ => rfl⟩
instance : EncP Str := ⟨0, fun _ => rfl⟩
section
variable {α β γ δ : Type} [Enc α] [Enc β] [Enc γ] [Enc δ]
instance [EncF α] : EncF (List α) := ⟨EncF.dp α + 1, fun xs => af_lst fun d hd => by
  obtain ⟨x, _, rfl⟩ := List.mem_map.mp hd
  exact EncF.ok x⟩
theorem af_tupn {n : Nat} {ds : List D} (h : ∀ d ∈ ds, af n d = true) : af (n + 1) (.tup ds) = true ∧ (n = 0 → af 0 (.tup ds) = true) := by
  have : afL n ds = true := by
    induction ds with
    | nil => rfl
    | cons d ds ih => simp only [afL, Bool.and_eq_true]; exact ⟨h d List.mem_cons_self, ih fun d hd => h d (List.mem_cons_of_mem _ hd)⟩
  exact ⟨this, fun z => by subst z; exact this⟩
theorem af_tupK {n : Nat} {ds : List D} (h : ∀ d ∈ ds, af n d = true) : af (if n = 0 then 0 else n + 1) (.tup ds) = true := by
  by_cases z : n = 0
  · rw [if_pos z]; exact (af_tupn h).2 z
  · rw [if_neg z]; exact (af_tupn h).1
instance [EncF α] [EncF β] : EncF (T2 α β) := ⟨if max (EncF.dp α) (EncF.dp β) = 0 then 0 else max (EncF.dp α) (EncF.dp β) + 1, fun t => af_tupK fun d hd => by
  simp only [List.mem_cons, List.not_mem_nil, or_false] at hd
  rcases hd with rfl | rfl
  · exact af_up _ (EncF.ok t.a) (by omega)
  · exact af_up _ (EncF.ok t.b) (by omega)⟩
instance [EncF α] [EncF β] [EncF γ] : EncF (T3 α β γ) := ⟨if max (EncF.dp α) (max (EncF.dp β) (EncF.dp γ)) = 0 then 0 else max (EncF.dp α) (max (EncF.dp β) (EncF.dp γ)) + 1, fun t => af_tupK fun d hd => by
  simp only [List.mem_cons, List.not_mem_nil, or_false] at hd
  rcases hd with rfl | rfl | rfl
  · exact af_up _ (EncF.ok t.a) (by omega)
  · exact af_up _ (EncF.ok t.b) (by omega)
  · exact af_up _ (EncF.ok t.c) (by omega)⟩
instance [EncF α] [EncF β] [EncF γ] [EncF δ] : EncF (T4 α β γ δ) := ⟨if max (max (EncF.dp α) (EncF.dp β)) (max (EncF.dp γ) (EncF.dp δ)) = 0 then 0 else max (max (EncF.dp α) (EncF.dp β)) (max (EncF.dp γ) (EncF.dp δ)) + 1, fun t => af_tupK fun d hd => by
  simp only [List.mem_cons, List.not_mem_nil, or_false] at hd
  rcases hd with rfl | rfl | rfl | rfl
  · exact af_up _ (EncF.ok t.a) (by omega)
  · exact af_up _ (EncF.ok t.b) (by omega)
  · exact af_up _ (EncF.ok t.c) (by omega)
  · exact af_up _ (EncF.ok t.d) (by omega)⟩
instance [EncF α] : EncF (Option α) := ⟨EncF.dp α, fun o => match o with
  | none => af_non
  | some a => EncF.ok a⟩
instance [EncP α] : EncP (List α) := ⟨EncP.pd α + 1, fun xs => pln_lst fun d hd => by
  obtain ⟨x, _, rfl⟩ := List.mem_map.mp hd
  exact EncP.ok x⟩
instance [EncP α] [EncP β] : EncP (T2 α β) := ⟨max (EncP.pd α) (EncP.pd β) + 1, fun t => pln_tup fun d hd => by
  simp only [List.mem_cons, List.not_mem_nil, or_false] at hd
  rcases hd with rfl | rfl
  · exact pln_up _ (EncP.ok t.a) (by omega)
  · exact pln_up _ (EncP.ok t.b) (by omega)⟩
instance [EncP α] [EncP β] [EncP γ] : EncP (T3 α β γ) := ⟨max (EncP.pd α) (max (EncP.pd β) (EncP.pd γ)) + 1, fun t => pln_tup fun d hd => by
  simp only [List.mem_cons, List.not_mem_nil, or_false] at hd
  rcases hd with rfl | rfl | rfl
  · exact pln_up _ (EncP.ok t.a) (by omega)
  · exact pln_up _ (EncP.ok t.b) (by omega)
  · exact pln_up _ (EncP.ok t.c) (by omega)⟩
instance [EncP α] [EncP β] [EncP γ] [EncP δ] : EncP (T4 α β γ δ) := ⟨max (max (EncP.pd α) (EncP.pd β)) (max (EncP.pd γ) (EncP.pd δ)) + 1, fun t => pln_tup fun d hd => by
  simp only [List.mem_cons, List.not_mem_nil, or_false] at hd
  rcases hd with rfl | rfl | rfl | rfl
  · exact pln_up _ (EncP.ok t.a) (by omega)
  · exact pln_up _ (EncP.ok t.b) (by omega)
  · exact pln_up _ (EncP.ok t.c) (by omega)
  · exact pln_up _ (EncP.ok t.d) (by omega)⟩
instance [EncP α] : EncP (Option α) := ⟨EncP.pd α, fun o => match o with
  | none => by show pln _ D.non = true; cases EncP.pd α <;> rfl
  | some a => EncP.ok a⟩
variable [DecidableEq α] [DecidableEq β] [DecidableEq γ] [DecidableEq δ]
theorem deqL_enc [EncQ α] : ∀ xs ys : List α, deqL (xs.map enc) (ys.map enc) = decide (xs = ys)
  | [], [] => rfl
  | [], _ :: _ => rfl
  | _ :: _, [] => rfl
  | x :: xs, y :: ys => by
    show (deq (enc x) (enc y) && deqL (xs.map enc) (ys.map enc)) = _
    rw [EncQ.ok, deqL_enc xs ys]
    by_cases h1 : x = y <;> by_cases h2 : xs = ys <;> simp [h1, h2]
end
instance : EncQ Int := ⟨fun a b => deq_ii⟩
instance : EncQ Bool := ⟨fun a b => by cases a <;> cases b <;> rfl⟩
instance : EncQ Unit := ⟨fun a b => rfl⟩
section
variable {α β γ δ : Type} [Enc α] [Enc β] [Enc γ] [Enc δ] [DecidableEq α] [DecidableEq β] [DecidableEq γ] [DecidableEq δ]
instance [EncQ α] : EncQ (List α) := ⟨fun a b => deqL_enc a b⟩
instance [EncQ α] [EncQ β] : EncQ (T2 α β) := ⟨fun ⟨a, b⟩ ⟨a', b'⟩ => by
  show (deq (enc a) (enc a') && (deq (enc b) (enc b') && true)) = _
  rw [EncQ.ok, EncQ.ok]
  by_cases h1 : a = a' <;> by_cases h2 : b = b' <;> simp [h1, h2]⟩
instance [EncQ α] [EncQ β] [EncQ γ] : EncQ (T3 α β γ) := ⟨fun ⟨a, b, c⟩ ⟨a', b', c'⟩ => by
  show (deq (enc a) (enc a') && (deq (enc b) (enc b') && (deq (enc c) (enc c') && true))) = _
  rw [EncQ.ok, EncQ.ok, EncQ.ok]
  by_cases h1 : a = a' <;> by_cases h2 : b = b' <;> by_cases h3 : c = c' <;> simp [h1, h2, h3]⟩
instance [EncQ α] [EncQ β] [EncQ γ] [EncQ δ] : EncQ (T4 α β γ δ) := ⟨fun ⟨a, b, c, d⟩ ⟨a', b', c', d'⟩ => by
  show (deq (enc a) (enc a') && (deq (enc b) (enc b') && (deq (enc c) (enc c') && (deq (enc d) (enc d') && true)))) = _
  rw [EncQ.ok, EncQ.ok, EncQ.ok, EncQ.ok]
  by_cases h1 : a = a' <;> by_cases h2 : b = b' <;> by_cases h3 : c = c' <;> by_cases h4 : d = d' <;> simp [h1, h2, h3, h4]⟩
end

/-! ### what is known of the slots -/
abbrev SS := Option (D × Option Nat)
abbrev Spec := List SS
def Fit (s : Option Slot) (x : D × Option Nat) : Prop := ∃ k, s = some (some (x.1, k)) ∧ ∀ m, x.2 = some m → k = m
def Env (ρ : Ev) (S : Spec) : Prop := ρ.length = S.length ∧ ∀ (i : Nat) x, S[i]? = some (some x) → Fit ρ[i]? x
inductive Sub : Spec → Spec → Prop
  | nil : Sub [] []
  | e {s : SS} {S T : Spec} (h : Sub S T) : Sub (s :: S) (s :: T)
  | a {s : SS} {S T : Spec} (h : Sub S T) : Sub (s :: S) (none :: T)
  | w {d : D} {k : Option Nat} {S T : Spec} (h : Sub S T) : Sub (some (d, k) :: S) (some (d, none) :: T)
theorem Sub.get : ∀ {S T : Spec}, Sub S T → S.length = T.length ∧ ∀ (i : Nat) x, T[i]? = some (some x) → ∃ y, S[i]? = some (some y) ∧ y.1 = x.1 ∧ ∀ m, x.2 = some m → y.2 = some m
  | _, _, .nil => ⟨rfl, fun i x h => by simp at h⟩
  | _, _, .e h => by
    obtain ⟨l, g⟩ := h.get
    refine ⟨by simp [l], fun i x hx => ?_⟩
    cases i with
    | zero => exact ⟨x, by simpa using hx, rfl, fun _ q => q⟩
    | succ i => simpa using g i x (by simpa using hx)
  | _, _, .a h => by
    obtain ⟨l, g⟩ := h.get
    refine ⟨by simp [l], fun i x hx => ?_⟩
    cases i with
    | zero => simp at hx
    | succ i => simpa using g i x (by simpa using hx)
  | _, _, .w (d := d) (k := k) h => by
    obtain ⟨l, g⟩ := h.get
    refine ⟨by simp [l], fun i x hx => ?_⟩
    cases i with
    | zero =>
      have : (d, none) = x := by simpa using hx
      subst this
      exact ⟨(d, k), rfl, rfl, fun _ q => by cases q⟩
    | succ i => simpa using g i x (by simpa using hx)
theorem Sub.env {S T : Spec} {ρ : Ev} (h : Sub S T) (E : Env ρ S) : Env ρ T := by
  obtain ⟨l, g⟩ := h.get
  refine ⟨E.1.trans l, fun i x hx => ?_⟩
  obtain ⟨y, hy, e1, e2⟩ := g i x hx
  obtain ⟨k, hk, e3⟩ := E.2 i y hy
  exact ⟨k, by rw [hk, e1], fun m hm => e3 m (e2 m hm)⟩
def frzG (E : List Nat) : Nat → Spec → Spec
  | _, [] => []
  | n, none :: S => none :: frzG E (n + 1) S
  | n, some (d, k) :: S => (if E.elem n then some (d, none) else some (d, k)) :: frzG E (n + 1) S
abbrev frzS (E : List Nat) (S : Spec) : Spec := frzG E 0 S
theorem frzG_len {E : List Nat} : ∀ {n : Nat} {S : Spec}, (frzG E n S).length = S.length
  | _, [] => rfl
  | n, none :: S => by unfold frzG; simp [frzG_len (S := S)]
  | n, some (d, k) :: S => by unfold frzG; simp [frzG_len (S := S)]
theorem frzG_get {E : List Nat} : ∀ {n : Nat} {S : Spec} {i : Nat} {x : D × Option Nat}, (frzG E n S)[i]? = some (some x) → ∃ k, S[i]? = some (some (x.1, k)) ∧ ((n + i) ∉ E → x.2 = k) ∧ ((n + i) ∈ E → x.2 = none)
  | _, [], i, x, h => by simp [frzG] at h
  | n, none :: S, i, x, h => by
    unfold frzG at h
    cases i with
    | zero => simp at h
    | succ i =>
      obtain ⟨k, a, b, c⟩ := frzG_get (n := n + 1) (S := S) (i := i) (x := x) (by simpa using h)
      exact ⟨k, by simpa using a, by rw [show n + (i + 1) = n + 1 + i by omega]; exact b, by rw [show n + (i + 1) = n + 1 + i by omega]; exact c⟩
  | n, some (d, k) :: S, i, x, h => by
    unfold frzG at h
    cases i with
    | zero =>
      simp only [List.getElem?_cons_zero, Option.some.injEq] at h
      refine ⟨k, ?_, fun z => ?_, fun z => ?_⟩
      · split at h <;> · cases h; rfl
      · rw [if_neg (by simpa using z)] at h; cases h; rfl
      · rw [if_pos (by simpa using z)] at h; cases h; rfl
    | succ i =>
      obtain ⟨k, a, b, c⟩ := frzG_get (n := n + 1) (S := S) (i := i) (x := x) (by simpa using h)
      exact ⟨k, by simpa using a, by rw [show n + (i + 1) = n + 1 + i by omega]; exact b, by rw [show n + (i + 1) = n + 1 + i by omega]; exact c⟩
theorem frzL_get {ρ : Ev} : ∀ {e : List Nat} {i : Nat} {d : D} {k : Nat}, ρ[i]? = some (some (d, k)) → (i ∉ e → (frzL e ρ)[i]? = some (some (d, k))) ∧ ∃ k', (frzL e ρ)[i]? = some (some (d, k')) := by
  intro e
  induction e generalizing ρ with
  | nil => intro i d k h; exact ⟨fun _ => h, k, h⟩
  | cons j e ih =>
    intro i d k h
    unfold frzL
    have key : ∃ k1, (frz1 j ρ)[i]? = some (some (d, k1)) ∧ (i ≠ j → k1 = k) := by
      unfold frz1
      by_cases hij : i = j
      · subst hij
        rw [h]
        exact ⟨0, by simp only; rw [List.getElem?_set_self (List.getElem?_eq_some_iff.mp h).1], fun z => absurd rfl z⟩
      · refine ⟨k, ?_, fun _ => rfl⟩
        split
        · rw [List.getElem?_set_ne (Ne.symm hij)]; exact h
        · exact h
    obtain ⟨k1, h1, h2⟩ := key
    obtain ⟨a, b⟩ := ih h1
    refine ⟨fun z => ?_, b⟩
    have z' : i ≠ j ∧ i ∉ e := by simpa using z
    rw [← h2 z'.1]
    exact a z'.2
theorem Env.frz {ρ : Ev} {S : Spec} {e E : List Nat} (h : Env ρ S) (he : ∀ i ∈ e, i ∈ E) : Env (frzL e ρ) (frzS E S) := by
  refine ⟨by rw [frzL_len, frzG_len]; exact h.1, fun i x hx => ?_⟩
  obtain ⟨k, a, b, c⟩ := frzG_get hx
  rw [Nat.zero_add] at b c
  obtain ⟨k', hk, ek⟩ := h.2 i _ a
  obtain ⟨q1, k'', q2⟩ := frzL_get (e := e) hk
  by_cases hi : i ∈ E
  · exact ⟨k'', q2, fun m hm => by rw [c hi] at hm; cases hm⟩
  · exact ⟨k', q1 (fun z => hi (he i z)), fun m hm => ek m (by rw [← b hi]; exact hm)⟩
theorem Env.set {ρ : Ev} {S : Spec} (h : Env ρ S) (i : Nat) {d : D} {k : Nat} {kk : Option Nat} (hk : ∀ m, kk = some m → k = m) : Env (ρ.set i (some (d, k))) (S.set i (some (d, kk))) := by
  refine ⟨by rw [List.length_set, List.length_set]; exact h.1, fun j x hx => ?_⟩
  by_cases hij : i = j
  · subst hij
    have hl : i < S.length := by
      have := (List.getElem?_eq_some_iff.mp hx).1
      rwa [List.length_set] at this
    rw [List.getElem?_set_self hl] at hx
    cases hx
    exact ⟨k, by rw [List.getElem?_set_self (by rw [h.1]; exact hl)], hk⟩
  · rw [List.getElem?_set_ne hij] at hx ⊢
    exact h.2 j x hx
theorem Env.none {ρ : Ev} {S : Spec} (h : Env ρ S) (i : Nat) : Env (ρ.set i none) (S.set i none) := by
  refine ⟨by rw [List.length_set, List.length_set]; exact h.1, fun j x hx => ?_⟩
  by_cases hij : i = j
  · subst hij
    have hl : i < S.length := by
      have := (List.getElem?_eq_some_iff.mp hx).1
      rwa [List.length_set] at this
    rw [List.getElem?_set_self hl] at hx
    cases hx
  · rw [List.getElem?_set_ne hij] at hx ⊢
    exact h.2 j x hx
def wipeS (S : Spec) : List Nat → Spec
  | [] => S
  | v :: vs => (wipeS S vs).set v none
theorem Env.wipe {ρ : Ev} {S : Spec} (h : Env ρ S) : ∀ vs : List Nat, Env (wipeE ρ vs) (wipeS S vs)
  | [] => h
  | v :: vs => (h.wipe vs).none v

/-! ### values -/
def Gv (r : R) (d : D) (kk : Option Nat) (E C : List Nat) : Prop := r.d = d ∧ (∀ m, kk = some m → r.k = m) ∧ (∀ i ∈ r.e, i ∈ E) ∧ ∀ i ∈ r.c, i ∈ C
def RE {α : Type} [Enc α] (S : Spec) (f : FE) (v : α) (kk : Option Nat) (E C : List Nat) : Prop := ∀ ρ, Env ρ S → ∃ r, f ρ = .ok r ∧ Gv r (enc v) kk E C
def RT (S : Spec) (t : FT) (b : Bool) : Prop := ∀ ρ, Env ρ S → t ρ = .ok b
theorem bnd {α β : Type} {o : Option α} {f : α → Option β} {r : β} (h : o.bind f = some r) : ∃ v, o = some v ∧ f v = some r := by
  cases o with
  | none => cases h
  | some v => exact ⟨v, rfl, h⟩
theorem tif {α : Type} {b : Bool} {x y : Option α} {r : α} (h : (if b = true then x else y) = some r) : (b = true ∧ x = some r) ∨ (b = false ∧ y = some r) := by
  cases b
  · exact .inr ⟨rfl, h⟩
  · exact .inl ⟨rfl, h⟩
section
variable {S : Spec} {f g fa fb fc : FE} {i : Nat} {α β γ δ : Type} [Enc α] [Enc β] [Enc γ] [Enc δ] {ka kb kc kk : Option Nat} {Ea Ca Eb Cb E C : List Nat}
theorem re_to {x y : α} (h : RE S f x kk E C) (e : some x = some y) : RE S f y kk E C := by cases e; exact h
theorem re_weak {x : α} {E' C' : List Nat} (h : RE S f x kk E C) (he : ∀ i ∈ E, i ∈ E') (hc : ∀ i ∈ C, i ∈ C') : RE S f x kk E' C' := fun ρ q => by
  obtain ⟨r, e, a, b, c, d⟩ := h ρ q
  exact ⟨r, e, a, b, fun i z => he i (c i z), fun i z => hc i (d i z)⟩
theorem re_anyk {x : α} (h : RE S f x kk E C) : RE S f x none E C := fun ρ q => by
  obtain ⟨r, e, a, b, c, d⟩ := h ρ q
  exact ⟨r, e, a, fun m z => (by cases z), c, d⟩
theorem re_varS {x : α} [EncS α] (h : S[i]? = some (some (enc x, kk))) : RE S (fVar i) x (some 0) [] [] := fun ρ q => by
  obtain ⟨k, e, _⟩ := q.2 i _ h
  refine ⟨al1 i (enc x) k, by rw [ap_var, e]; rfl, rfl, fun m z => by cases z; rfl, fun j hj => ?_, fun j hj => ?_⟩
  · simp [al1, EncS.sc x] at hj
  · simp [al1, EncS.sc x] at hj
theorem re_var0 {x : α} (h : S[i]? = some (some (enc x, some 0))) : RE S (fVar i) x (some 0) [] [] := fun ρ q => by
  obtain ⟨k, e, hk⟩ := q.2 i _ h
  have hk : k = 0 := hk 0 rfl
  subst hk
  exact ⟨al1 i (enc x) 0, by rw [ap_var, e]; rfl, rfl, fun m z => by cases z; rfl, fun j hj => by simp [al1] at hj, fun j hj => by simp [al1] at hj⟩
theorem re_var1 {x : α} (h : S[i]? = some (some (enc x, some 1))) : RE S (fVar i) x (some 0) [i] [] := fun ρ q => by
  obtain ⟨k, e, hk⟩ := q.2 i _ h
  have hk : k = 1 := hk 1 rfl
  subst hk
  refine ⟨al1 i (enc x) 1, by rw [ap_var, e]; rfl, rfl, fun m z => by cases z; rfl, fun j hj => ?_, fun j hj => by simp [al1] at hj⟩
  unfold al1 at hj
  simp only at hj
  split at hj
  · cases hj
  · exact hj
theorem re_varN {x : α} (h : S[i]? = some (some (enc x, kk))) : RE S (fVar i) x (some 0) [i] [i] := fun ρ q => by
  obtain ⟨k, e, hk⟩ := q.2 i _ h
  refine ⟨al1 i (enc x) k, by rw [ap_var, e]; rfl, rfl, fun m z => by cases z; rfl, fun j hj => ?_, fun j hj => ?_⟩
  · unfold al1 at hj
    simp only at hj
    split at hj
    · cases hj
    · exact hj
  · unfold al1 at hj
    simp only at hj
    split at hj
    · cases hj
    · exact hj
theorem re_c {d : D} {x : α} (h : enc x = d) : RE S (fC d) x (some 0) [] [] := fun ρ _ => ⟨_, rfl, h.symm, fun m z => by cases z; rfl, fun j hj => (by cases hj), fun j hj => (by cases hj)⟩
theorem gv0 {d : D} : Gv ⟨d, 0, [], []⟩ d (some 0) [] [] := ⟨rfl, fun m z => by cases z; rfl, fun j hj => (by cases hj), fun j hj => (by cases hj)⟩
theorem re_bin {q : G2} {a : α} {b : β} {v : γ} (ha : RE S fa a ka Ea Ca) (hb : RE S fb b kb Eb Cb) (h : ∀ ra rb, Gv ra (enc a) ka Ea Ca → Gv rb (enc b) kb Eb Cb → ∃ r, q ra rb = .ok r ∧ Gv r (enc v) kk E C) : RE S (fBin q fa fb) v kk E C := fun ρ z => by
  obtain ⟨ra, e1, g1⟩ := ha ρ z
  obtain ⟨rb, e2, g2⟩ := hb ρ z
  obtain ⟨r, e, g⟩ := h ra rb g1 g2
  exact ⟨r, by rw [ap_bin, e1, bd_ok, e2, bd_ok, e], g⟩
theorem re_un {q : R → Res R} {a : α} {v : γ} (ha : RE S fa a ka Ea Ca) (h : ∀ ra, Gv ra (enc a) ka Ea Ca → ∃ r, q ra = .ok r ∧ Gv r (enc v) kk E C) : RE S (fun ρ => (fa ρ).bind q) v kk E C := fun ρ z => by
  obtain ⟨ra, e1, g1⟩ := ha ρ z
  obtain ⟨r, e, g⟩ := h ra g1
  exact ⟨r, by show (fa ρ).bind q = _; rw [e1, bd_ok, e], g⟩
theorem rd1 {r : R} {d : D} {kk : Option Nat} {E C : List Nat} (h : Gv r d kk E C) : ∃ k e c, r = ⟨d, k, e, c⟩ ∧ (∀ m, kk = some m → k = m) ∧ (∀ i ∈ e, i ∈ E) ∧ (∀ i ∈ c, i ∈ C) := by
  obtain ⟨d', k, e, c⟩ := r
  obtain ⟨rfl, a, b, c'⟩ := h
  exact ⟨k, e, c, rfl, a, b, c'⟩
end
section
variable {S : Spec} {f g fa fb fc : FE} {i : Nat} {ka kb kc kk : Option Nat} {Ea Ca Eb Cb E C : List Nat}
/-- operators on two whole numbers -/
theorem re_II {γ : Type} [Enc γ] {q : G2} {a b : Int} {v : γ} (h : ∀ k1 e1 c1 k2 e2 c2, q ⟨.int a, k1, e1, c1⟩ ⟨.int b, k2, e2, c2⟩ = .ok ⟨enc v, 0, [], []⟩) (ha : RE S fa a ka Ea Ca) (hb : RE S fb b kb Eb Cb) : RE S (fBin q fa fb) v (some 0) [] [] :=
  re_bin ha hb fun ra rb g1 g2 => by
    obtain ⟨k1, e1, c1, rfl, _⟩ := rd1 g1
    obtain ⟨k2, e2, c2, rfl, _⟩ := rd1 g2
    exact ⟨_, h k1 e1 c1 k2 e2 c2, gv0⟩
variable {a b : Int}
theorem re_add (ha : RE S fa a ka Ea Ca) (hb : RE S fb b kb Eb Cb) : RE S (fBin gAdd fa fb) (a + b) (some 0) [] [] := re_II (fun _ _ _ _ _ _ => rfl) ha hb
theorem re_sub (ha : RE S fa a ka Ea Ca) (hb : RE S fb b kb Eb Cb) : RE S (fBin gSub fa fb) (a - b) (some 0) [] [] := re_II (fun _ _ _ _ _ _ => rfl) ha hb
def zMul (a b : Int) : Option Int := if CMulL a b then some (a * b) else none
theorem re_mul {v : Int} (ha : RE S fa a ka Ea Ca) (hb : RE S fb b kb Eb Cb) (h : zMul a b = some v) : RE S (fBin gMul fa fb) v (some 0) [] [] := by
  unfold zMul at h
  split at h
  · rename_i hc
    cases h
    exact re_II (fun _ _ _ _ _ _ => by rw [g_mulI, if_pos hc]; rfl) ha hb
  · cases h
def zDiv (a b : Int) : Option Int := if CDivL a b then some (a.fdiv b) else none
theorem re_div {v : Int} (ha : RE S fa a ka Ea Ca) (hb : RE S fb b kb Eb Cb) (h : zDiv a b = some v) : RE S (fBin gDiv fa fb) v (some 0) [] [] := by
  unfold zDiv at h
  split at h
  · rename_i hc
    cases h
    exact re_II (fun _ _ _ _ _ _ => by rw [g_divI, if_pos hc]; rfl) ha hb
  · cases h
def zMod (a b : Int) : Option Int := if b = 0 then none else some (a.fmod b)
theorem re_mod {v : Int} (ha : RE S fa a ka Ea Ca) (hb : RE S fb b kb Eb Cb) (h : zMod a b = some v) : RE S (fBin gMod fa fb) v (some 0) [] [] := by
  unfold zMod at h
  split at h
  · cases h
  · rename_i hc
    cases h
    exact re_II (fun _ _ _ _ _ _ => by rw [g_modI, if_pos hc]; rfl) ha hb
def zPow (a b : Int) : Option Int := if CPow a b then some (a ^ b.toNat) else none
theorem re_pow {v : Int} (ha : RE S fa a ka Ea Ca) (hb : RE S fb b kb Eb Cb) (h : zPow a b = some v) : RE S (fBin gPow fa fb) v (some 0) [] [] := by
  unfold zPow at h
  split at h
  · rename_i hc
    cases h
    exact re_II (fun _ _ _ _ _ _ => by rw [g_powI, if_pos hc]; rfl) ha hb
  · cases h
theorem re_lt (ha : RE S fa a ka Ea Ca) (hb : RE S fb b kb Eb Cb) : RE S (fBin gLt fa fb) (decide (a < b)) (some 0) [] [] := re_II (fun _ _ _ _ _ _ => rfl) ha hb
theorem re_le (ha : RE S fa a ka Ea Ca) (hb : RE S fb b kb Eb Cb) : RE S (fBin gLe fa fb) (decide (a ≤ b)) (some 0) [] [] := re_II (fun _ _ _ _ _ _ => rfl) ha hb
theorem re_gt (ha : RE S fa a ka Ea Ca) (hb : RE S fb b kb Eb Cb) : RE S (fBin gGt fa fb) (decide (b < a)) (some 0) [] [] := re_II (fun _ _ _ _ _ _ => rfl) ha hb
theorem re_ge (ha : RE S fa a ka Ea Ca) (hb : RE S fb b kb Eb Cb) : RE S (fBin gGe fa fb) (decide (b ≤ a)) (some 0) [] [] := re_II (fun _ _ _ _ _ _ => rfl) ha hb
theorem re_neg (ha : RE S fa a ka Ea Ca) : RE S (fUn gNeg fa) (-a) (some 0) [] [] := re_un ha fun ra g1 => by
  obtain ⟨k1, e1, c1, rfl, _⟩ := rd1 g1
  exact ⟨_, rfl, gv0⟩
variable {α β γ δ : Type} [Enc α] [Enc β] [Enc γ] [Enc δ]
theorem re_eq [DecidableEq α] [EncQ α] [EncP α] {a b : α} (hp : EncP.pd α ≤ 60) (ha : RE S fa a ka Ea Ca) (hb : RE S fb b kb Eb Cb) : RE S (fBin gEq fa fb) (decide (a = b)) (some 0) [] [] :=
  re_bin ha hb fun ra rb g1 g2 => by
    obtain ⟨k1, e1, c1, rfl, _⟩ := rd1 g1
    obtain ⟨k2, e2, c2, rfl, _⟩ := rd1 g2
    exact ⟨_, by rw [g_eqD (pln_up _ (EncP.ok a) hp) (pln_up _ (EncP.ok b) hp), EncQ.ok]; rfl, gv0⟩
theorem re_ne [DecidableEq α] [EncQ α] [EncP α] {a b : α} (hp : EncP.pd α ≤ 60) (ha : RE S fa a ka Ea Ca) (hb : RE S fb b kb Eb Cb) : RE S (fBin gNe fa fb) (!decide (a = b)) (some 0) [] [] :=
  re_bin ha hb fun ra rb g1 g2 => by
    obtain ⟨k1, e1, c1, rfl, _⟩ := rd1 g1
    obtain ⟨k2, e2, c2, rfl, _⟩ := rd1 g2
    exact ⟨_, by rw [g_neD (pln_up _ (EncP.ok a) hp) (pln_up _ (EncP.ok b) hp), EncQ.ok]; rfl, gv0⟩
/-- x in xs -/
theorem memD_enc [DecidableEq α] [EncQ α] {x : α} : ∀ {xs : List α}, memD (xs.map enc) (enc x) = decide (x ∈ xs)
  | [] => rfl
  | y :: ys => by
    have ih := memD_enc (x := x) (xs := ys)
    show (deq (enc y) (enc x) || memD (ys.map enc) (enc x)) = _
    rw [ih, EncQ.ok]
    by_cases h : y = x
    · simp [h]
    · simp [h, Ne.symm h]
theorem re_in [DecidableEq α] [EncQ α] [EncP α] {x : α} {xs : List α} (hp : EncP.pd α ≤ 60) (ha : RE S fa x ka Ea Ca) (hb : RE S fb xs kb Eb Cb) : RE S (fBin (gIn false) fa fb) (decide (x ∈ xs)) (some 0) [] [] :=
  re_bin ha hb fun ra rb g1 g2 => by
    obtain ⟨k1, e1, c1, rfl, _⟩ := rd1 g1
    obtain ⟨k2, e2, c2, rfl, _⟩ := rd1 g2
    have := gIn_ok (neg := false) (a := enc x) (xs := xs.map enc) (k1 := k1) (k2 := k2) (e1 := e1) (e2 := e2) (c1 := c1) (c2 := c2) (pln_up _ (EncP.ok x) hp) (plnL_of fun d hd => by obtain ⟨y, _, rfl⟩ := List.mem_map.mp hd; exact pln_up _ (EncP.ok y) hp)
    exact ⟨_, this, by rw [memD_enc]; exact gv0⟩
theorem re_nin [DecidableEq α] [EncQ α] [EncP α] {x : α} {xs : List α} (hp : EncP.pd α ≤ 60) (ha : RE S fa x ka Ea Ca) (hb : RE S fb xs kb Eb Cb) : RE S (fBin (gIn true) fa fb) (!decide (x ∈ xs)) (some 0) [] [] :=
  re_bin ha hb fun ra rb g1 g2 => by
    obtain ⟨k1, e1, c1, rfl, _⟩ := rd1 g1
    obtain ⟨k2, e2, c2, rfl, _⟩ := rd1 g2
    have := gIn_ok (neg := true) (a := enc x) (xs := xs.map enc) (k1 := k1) (k2 := k2) (e1 := e1) (e2 := e2) (c1 := c1) (c2 := c2) (pln_up _ (EncP.ok x) hp) (plnL_of fun d hd => by obtain ⟨y, _, rfl⟩ := List.mem_map.mp hd; exact pln_up _ (EncP.ok y) hp)
    exact ⟨_, this, by rw [memD_enc]; exact gv0⟩
theorem atI_map {xs : List α} {i : Int} : atI (xs.map enc) i = (atI xs i).map enc := by
  unfold atI
  rw [List.length_map]
  cases ixN xs.length i with
  | none => rfl
  | some j => simp
/-- x[i], the items scalars or tuples of them -/
theorem re_ixF [EncF α] {xs : List α} {i : Int} {v : α} (h0 : EncF.dp α = 0) (ha : RE S fa xs ka Ea Ca) (hb : RE S fb i kb Eb Cb) (h : atI xs i = some v) : RE S (fBin gIx fa fb) v (some 0) [] [] :=
  re_bin ha hb fun ra rb g1 g2 => by
    obtain ⟨k1, e1, c1, rfl, _⟩ := rd1 g1
    obtain ⟨k2, e2, c2, rfl, _⟩ := rd1 g2
    refine ⟨_, ?_, gv0⟩
    show gIx ⟨.lst (xs.map enc), k1, e1, c1⟩ ⟨.int i, k2, e2, c2⟩ = _
    rw [g_ixL, atI_map, h]
    show Res.ok (itemR _ (enc v)) = _
    unfold itemR
    rw [if_pos (by have := EncF.ok v; rwa [h0] at this)]; rfl
theorem re_ixE {xs : List α} {i : Int} {v : α} (ha : RE S fa xs ka Ea Ca) (hb : RE S fb i kb Eb Cb) (h : atI xs i = some v) : RE S (fBin gIx fa fb) v (some 0) Ca Ca :=
  re_bin ha hb fun ra rb g1 g2 => by
    obtain ⟨k1, e1, c1, rfl, _, _, hc⟩ := rd1 g1
    obtain ⟨k2, e2, c2, rfl, _⟩ := rd1 g2
    have e : gIx ⟨.lst (xs.map enc), k1, e1, c1⟩ ⟨.int i, k2, e2, c2⟩ = .ok (itemR ⟨.non, 0, [], c1⟩ (enc v)) := by
      rw [g_ixL, atI_map, h]; rfl
    refine ⟨_, e, ?_⟩
    unfold itemR
    split
    · exact ⟨rfl, fun m z => by cases z; rfl, fun j hj => (by cases hj), fun j hj => (by cases hj)⟩
    · exact ⟨rfl, fun m z => by cases z; rfl, hc, hc⟩
/-- t[j] of a tuple -/
theorem re_tixF [EncF β] {t : α} {ds : List D} {i : Int} {v : β} (ht : enc t = .tup ds) (h0 : EncF.dp β = 0) (h : atI ds i = some (enc v)) (ha : RE S fa t ka Ea Ca) : RE S (fBin gIx fa (fC (.int i))) v (some 0) [] [] :=
  re_bin ha (re_c (x := i) rfl) fun ra rb g1 g2 => by
    obtain ⟨k1, e1, c1, rfl, _⟩ := rd1 g1
    obtain ⟨k2, e2, c2, rfl, _⟩ := rd1 g2
    refine ⟨_, ?_, gv0⟩
    rw [ht]
    show gIx ⟨.tup ds, k1, e1, c1⟩ ⟨.int i, k2, e2, c2⟩ = _
    rw [g_ixT, h]
    show Res.ok (itemR _ (enc v)) = _
    unfold itemR
    rw [if_pos (by have := EncF.ok v; rwa [h0] at this)]; rfl
theorem re_tixE {t : α} {ds : List D} {i : Int} {v : β} (ht : enc t = .tup ds) (h : atI ds i = some (enc v)) (ha : RE S fa t ka Ea Ca) : RE S (fBin gIx fa (fC (.int i))) v (some 0) Ca Ca :=
  re_bin ha (re_c (x := i) rfl) fun ra rb g1 g2 => by
    obtain ⟨k1, e1, c1, rfl, _, _, hc⟩ := rd1 g1
    obtain ⟨k2, e2, c2, rfl, _⟩ := rd1 g2
    rw [ht]
    have e : gIx ⟨.tup ds, k1, e1, c1⟩ ⟨.int i, k2, e2, c2⟩ = .ok (itemR ⟨.non, 0, [], c1⟩ (enc v)) := by
      rw [g_ixT, h]; rfl
    refine ⟨_, e, ?_⟩
    unfold itemR
    split
    · exact ⟨rfl, fun m z => by cases z; rfl, fun j hj => (by cases hj), fun j hj => (by cases hj)⟩
    · exact ⟨rfl, fun m z => by cases z; rfl, hc, hc⟩
def zLst {α : Type} (xs : List α) : Option (List α) := if xs.length ≤ sizeLine then some xs else none
theorem re_cat {xs ys zs : List α} (ha : RE S fa xs ka Ea Ca) (hb : RE S fb ys kb Eb Cb) (h : zLst (xs ++ ys) = some zs) : RE S (fBin gAdd fa fb) zs (some 1) (Ca ++ Cb) (Ca ++ Cb) :=
  re_bin ha hb fun ra rb g1 g2 => by
    obtain ⟨k1, e1, c1, rfl, _, _, h1⟩ := rd1 g1
    obtain ⟨k2, e2, c2, rfl, _, _, h2⟩ := rd1 g2
    unfold zLst at h
    split at h
    · rename_i hz
      cases h
      have hz : (xs.map enc).length + (ys.map enc).length ≤ sizeLine := by rw [List.length_map, List.length_map]; rwa [List.length_append] at hz
      have e : gAdd ⟨enc xs, k1, e1, c1⟩ ⟨enc ys, k2, e2, c2⟩ = .ok ⟨.lst (xs.map enc ++ ys.map enc), 1, c1 ++ c2, c1 ++ c2⟩ := by
        show gAdd ⟨.lst _, _, _, _⟩ ⟨.lst _, _, _, _⟩ = _
        rw [g_addL, if_pos hz]
      have hsub : ∀ i ∈ c1 ++ c2, i ∈ Ca ++ Cb := fun i hi => by
        rcases List.mem_append.mp hi with hi | hi
        · exact List.mem_append_left _ (h1 i hi)
        · exact List.mem_append_right _ (h2 i hi)
      exact ⟨_, e, by show D.lst _ = D.lst _; rw [List.map_append], fun m z => by cases z; rfl, hsub, hsub⟩
    · cases h
def zRep {α : Type} (xs : List α) (k : Int) : Option (List α) := if -(2 ^ 63) ≤ k ∧ k < 2 ^ 63 ∧ xs.length * k.toNat ≤ sizeLine then some (List.replicate k.toNat xs).flatten else none
theorem re_rep {xs ys : List α} {k : Int} (ha : RE S fa xs ka Ea Ca) (hb : RE S fb k kb Eb Cb) (h : zRep xs k = some ys) : RE S (fBin gMul fa fb) ys (some 1) Ca Ca :=
  re_bin ha hb fun ra rb g1 g2 => by
    obtain ⟨k1, e1, c1, rfl, _, _, h1⟩ := rd1 g1
    obtain ⟨k2, e2, c2, rfl, _, _, h2⟩ := rd1 g2
    unfold zRep at h
    split at h
    · rename_i hz
      cases h
      refine ⟨_, show gMul ⟨.lst (xs.map enc), k1, e1, c1⟩ ⟨.int k, k2, e2, c2⟩ = .ok ⟨.lst (repL (xs.map enc) k), 1, c1, c1⟩ by
        unfold gMul
        exact if_pos (by rw [List.length_map]; exact hz), ?_, fun m z => by cases z; rfl, h1, h1⟩
      show D.lst _ = D.lst _
      unfold repL
      rw [List.map_flatten, List.map_replicate]
    · cases h
end
end PyL

namespace PyL
open PySem PySem.Spec L2
open Enc (enc)
set_option autoImplicit false
section
variable {S : Spec} {f g fa fb fc : FE} {i : Nat} {ka kb kc kk : Option Nat} {Ea Ca Eb Cb Ec Cc E C : List Nat} {α β γ δ : Type} [Enc α] [Enc β] [Enc γ] [Enc δ]
/-! ### one and two arguments -/
theorem re_b1 {q : List R → Res R} {a : α} {v : γ} (ha : RE S fa a ka Ea Ca) (h : ∀ ra, Gv ra (enc a) ka Ea Ca → ∃ r, q [ra] = .ok r ∧ Gv r (enc v) kk E C) : RE S (fB q (fCons fa fNil)) v kk E C := fun ρ z => by
  obtain ⟨ra, e1, g1⟩ := ha ρ z
  obtain ⟨r, e, g⟩ := h ra g1
  exact ⟨r, by rw [ap_B, ap_cons, e1, bd_ok, ap_nil, bd_ok, bd_ok, e], g⟩
theorem re_b2 {q : List R → Res R} {a : α} {b : β} {v : γ} (ha : RE S fa a ka Ea Ca) (hb : RE S fb b kb Eb Cb) (h : ∀ ra rb, Gv ra (enc a) ka Ea Ca → Gv rb (enc b) kb Eb Cb → ∃ r, q [ra, rb] = .ok r ∧ Gv r (enc v) kk E C) : RE S (fB q (fCons fa (fCons fb fNil))) v kk E C := fun ρ z => by
  obtain ⟨ra, e1, g1⟩ := ha ρ z
  obtain ⟨rb, e2, g2⟩ := hb ρ z
  obtain ⟨r, e, g⟩ := h ra rb g1 g2
  exact ⟨r, by rw [ap_B, ap_cons, e1, bd_ok, ap_cons, e2, bd_ok, ap_nil, bd_ok, bd_ok, bd_ok, e], g⟩
theorem re_lenL {xs : List α} (ha : RE S fa xs ka Ea Ca) : RE S (fB gLen (fCons fa fNil)) (xs.length : Int) (some 0) [] [] := re_b1 ha fun ra g1 => by
  obtain ⟨k1, e1, c1, rfl, _⟩ := rd1 g1
  exact ⟨_, rfl, by show Gv ⟨.int ((xs.map enc).length : Int), 0, [], []⟩ _ _ _ _; rw [List.length_map]; exact gv0⟩
theorem re_lenT {t : α} {ds : List D} {n : Int} (ht : enc t = .tup ds) (hn : (ds.length : Int) = n) (ha : RE S fa t ka Ea Ca) : RE S (fB gLen (fCons fa fNil)) n (some 0) [] [] := re_b1 ha fun ra g1 => by
  obtain ⟨k1, e1, c1, rfl, _⟩ := rd1 g1
  exact ⟨_, by rw [ht]; rfl, by rw [← hn]; exact gv0⟩
variable {a b : Int}
theorem re_abs (ha : RE S fa a ka Ea Ca) : RE S (fB gAbs (fCons fa fNil)) (if a < 0 then -a else a) (some 0) [] [] := re_b1 ha fun ra g1 => by
  obtain ⟨k1, e1, c1, rfl, _⟩ := rd1 g1
  exact ⟨_, rfl, gv0⟩
theorem re_intI (ha : RE S fa a ka Ea Ca) : RE S (fB gInt (fCons fa fNil)) a (some 0) [] [] := re_b1 ha fun ra g1 => by
  obtain ⟨k1, e1, c1, rfl, _⟩ := rd1 g1
  exact ⟨_, rfl, gv0⟩
def zB2i (b : Bool) : Int := if b then 1 else 0
theorem re_intB {p : Bool} (ha : RE S fa p ka Ea Ca) : RE S (fB gInt (fCons fa fNil)) (zB2i p) (some 0) [] [] := re_b1 ha fun ra g1 => by
  obtain ⟨k1, e1, c1, rfl, _⟩ := rd1 g1
  exact ⟨_, rfl, gv0⟩
theorem re_max2 (ha : RE S fa a ka Ea Ca) (hb : RE S fb b kb Eb Cb) : RE S (fB gMax2 (fCons fa (fCons fb fNil))) (if b > a then b else a) (some 0) [] [] := re_b2 ha hb fun ra rb g1 g2 => by
  obtain ⟨k1, e1, c1, rfl, _⟩ := rd1 g1
  obtain ⟨k2, e2, c2, rfl, _⟩ := rd1 g2
  exact ⟨_, rfl, gv0⟩
theorem re_min2 (ha : RE S fa a ka Ea Ca) (hb : RE S fb b kb Eb Cb) : RE S (fB gMin2 (fCons fa (fCons fb fNil))) (if b < a then b else a) (some 0) [] [] := re_b2 ha hb fun ra rb g1 g2 => by
  obtain ⟨k1, e1, c1, rfl, _⟩ := rd1 g1
  obtain ⟨k2, e2, c2, rfl, _⟩ := rd1 g2
  exact ⟨_, rfl, gv0⟩
theorem re_gcd (ha : RE S fa a ka Ea Ca) (hb : RE S fb b kb Eb Cb) : RE S (fB gGcd (fCons fa (fCons fb fNil))) ((Nat.gcd a.natAbs b.natAbs : Nat) : Int) (some 0) [] [] := re_b2 ha hb fun ra rb g1 g2 => by
  obtain ⟨k1, e1, c1, rfl, _⟩ := rd1 g1
  obtain ⟨k2, e2, c2, rfl, _⟩ := rd1 g2
  exact ⟨_, rfl, gv0⟩
def zLcm (a b : Int) : Option Int := if CLcm a b then some ((Nat.lcm a.natAbs b.natAbs : Nat) : Int) else none
instance (a b : Int) : Decidable (CLcm a b) := inferInstanceAs (Decidable (_ ∧ _))
theorem re_lcm {v : Int} (ha : RE S fa a ka Ea Ca) (hb : RE S fb b kb Eb Cb) (h : zLcm a b = some v) : RE S (fB gLcm (fCons fa (fCons fb fNil))) v (some 0) [] [] := re_b2 ha hb fun ra rb g1 g2 => by
  obtain ⟨k1, e1, c1, rfl, _⟩ := rd1 g1
  obtain ⟨k2, e2, c2, rfl, _⟩ := rd1 g2
  unfold zLcm at h
  split at h
  · rename_i hc
    cases h
    exact ⟨_, g_lcm hc, gv0⟩
  · cases h
def zFac (a : Int) : Option Int := if CFac a then some ((Builtin.Math.factorialNat a.toNat : Nat) : Int) else none
theorem re_fac {v : Int} (ha : RE S fa a ka Ea Ca) (h : zFac a = some v) : RE S (fB gFac (fCons fa fNil)) v (some 0) [] [] := re_b1 ha fun ra g1 => by
  obtain ⟨k1, e1, c1, rfl, _⟩ := rd1 g1
  unfold zFac at h
  split at h
  · rename_i hc
    cases h
    exact ⟨_, by show gFac [⟨.int a, k1, e1, c1⟩] = _; unfold gFac on1; exact if_pos hc, gv0⟩
  · cases h
theorem enc_ints {ns : List Int} : enc ns = .lst (ns.map .int) := rfl
theorem re_sum {ns : List Int} (ha : RE S fa ns ka Ea Ca) : RE S (fB gSum (fCons fa fNil)) ns.sum (some 0) [] [] := re_b1 ha fun ra g1 => by
  obtain ⟨k1, e1, c1, rfl, _⟩ := rd1 g1
  exact ⟨_, g_sum (ns := ns), gv0⟩
def zMin (ns : List Int) : Option Int := if 0 < ns.length then some (minL ns) else none
def zMax (ns : List Int) : Option Int := if 0 < ns.length then some (maxL ns) else none
theorem re_min {ns : List Int} {v : Int} (ha : RE S fa ns ka Ea Ca) (h : zMin ns = some v) : RE S (fB gMin (fCons fa fNil)) v (some 0) [] [] := re_b1 ha fun ra g1 => by
  obtain ⟨k1, e1, c1, rfl, _⟩ := rd1 g1
  unfold zMin at h
  split at h
  · rename_i hc
    cases h
    exact ⟨_, g_min hc, gv0⟩
  · cases h
theorem re_max {ns : List Int} {v : Int} (ha : RE S fa ns ka Ea Ca) (h : zMax ns = some v) : RE S (fB gMax (fCons fa fNil)) v (some 0) [] [] := re_b1 ha fun ra g1 => by
  obtain ⟨k1, e1, c1, rfl, _⟩ := rd1 g1
  unfold zMax at h
  split at h
  · rename_i hc
    cases h
    exact ⟨_, g_max hc, gv0⟩
  · cases h
theorem re_sorted {ns : List Int} (ha : RE S fa ns ka Ea Ca) : RE S (fB gSorted (fCons fa fNil)) (isort ns) (some 1) [] [] := re_b1 ha fun ra g1 => by
  obtain ⟨k1, e1, c1, rfl, _⟩ := rd1 g1
  refine ⟨⟨.lst ((isort ns).map .int), 1, [], []⟩, ?_, rfl, fun m z => by cases z; rfl, fun j hj => (by cases hj), fun j hj => (by cases hj)⟩
  show gSorted [⟨.lst (ns.map .int), k1, e1, c1⟩] = _
  unfold gSorted onInts on1; simp only [ints_map]
theorem re_list {xs : List α} (ha : RE S fa xs ka Ea Ca) : RE S (fB gList (fCons fa fNil)) xs (some 1) Ca Ca := re_b1 ha fun ra g1 => by
  obtain ⟨k1, e1, c1, rfl, _, _, h⟩ := rd1 g1
  exact ⟨_, rfl, rfl, fun m z => by cases z; rfl, h, h⟩
theorem re_rev {xs : List α} (ha : RE S fa xs ka Ea Ca) : RE S (fRevL fa) xs.reverse (some 1) Ca Ca := re_un ha fun ra g1 => by
  obtain ⟨k1, e1, c1, rfl, _, _, h⟩ := rd1 g1
  exact ⟨_, rfl, by show D.lst _ = D.lst _; rw [List.map_reverse], fun m z => by cases z; rfl, h, h⟩
def rgI (n : Nat) : List Int := (List.range n).map fun i : Nat => (i : Int)
theorem rgI_enc {n : Nat} : rgD 0 n = (rgI n).map enc := by rw [rgD_zero]; unfold rgI; rw [List.map_map]; rfl
instance (x : Int) : Decidable (InR x) := inferInstanceAs (Decidable (_ ∧ _))
def zLR (n : Int) : Option (List Int) := if InR n ∧ n.toNat ≤ 2 ^ 24 then some (rgI n.toNat) else none
theorem re_lr1 {xs : List Int} (ha : RE S fa a ka Ea Ca) (h : zLR a = some xs) : RE S (fLR1 fa) xs (some 1) [] [] := re_un ha fun ra g1 => by
  obtain ⟨k1, e1, c1, rfl, _⟩ := rd1 g1
  unfold zLR at h
  split at h
  · rename_i hc
    cases h
    exact ⟨_, lr1_ok hc.1 hc.2, by show D.lst _ = D.lst _; rw [rgI_enc], fun m z => by cases z; rfl, fun j hj => (by cases hj), fun j hj => (by cases hj)⟩
  · cases h
def rgI2 (lo : Int) (n : Nat) : List Int := (List.range n).map fun i : Nat => lo + (i : Int)
theorem rgI2_enc {lo : Int} {n : Nat} : rgD lo n = (rgI2 lo n).map enc := by unfold rgD rgI2; rw [List.map_map]; rfl
def zLR2 (lo hi : Int) : Option (List Int) := if InR lo ∧ InR hi ∧ (hi - lo).toNat ≤ 2 ^ 24 then some (rgI2 lo (hi - lo).toNat) else none
theorem re_lr2 {xs : List Int} (ha : RE S fa a ka Ea Ca) (hb : RE S fb b kb Eb Cb) (h : zLR2 a b = some xs) : RE S (fLR2 fa fb) xs (some 1) [] [] := fun ρ z => by
  obtain ⟨ra, ea, g1⟩ := ha ρ z
  obtain ⟨rb, eb, g2⟩ := hb ρ z
  obtain ⟨k1, e1, c1, rfl, _⟩ := rd1 g1
  obtain ⟨k2, e2, c2, rfl, _⟩ := rd1 g2
  unfold zLR2 at h
  split at h
  · rename_i hc
    cases h
    refine ⟨⟨.lst (rgD a (b - a).toNat), 1, [], []⟩, ?_, by show D.lst _ = D.lst _; rw [rgI2_enc], fun m z => by cases z; rfl, fun j hj => (by cases hj), fun j hj => (by cases hj)⟩
    rw [ap_lr2, ea, bd_ok, eb, bd_ok]
    show lrg a b = _
    unfold lrg
    exact if_pos ⟨hc.1.1, hc.1.2, hc.2.1.1, hc.2.1.2, hc.2.2⟩
  · cases h
/-! slices -/
def zCut {α : Type} (xs : List α) (lo hi : Option Int) : List α := (xs.drop (HT.sIx xs.length 0 lo)).take (HT.sIx xs.length xs.length hi - HT.sIx xs.length 0 lo)
theorem cut_enc {xs : List α} {lo hi : Option Int} : cutD (xs.map enc) lo hi = (zCut xs lo hi).map enc := by
  unfold cutD zCut
  rw [List.length_map, List.map_take, List.map_drop]
def RO (S : Spec) (f : FO) (o : Option Int) : Prop := ∀ ρ, Env ρ S → f ρ = .ok o
theorem ro_none : RO S fNoP none := fun _ _ => rfl
theorem ro_some (ha : RE S fa a ka Ea Ca) : RO S (fPart fa) (some a) := fun ρ z => by
  obtain ⟨ra, ea, g1⟩ := ha ρ z
  obtain ⟨k1, e1, c1, rfl, _⟩ := rd1 g1
  rw [ap_part, ea, bd_ok]; rfl
theorem re_sl {xs : List α} {fl fh : FO} {lo hi : Option Int} (ha : RE S fa xs ka Ea Ca) (hl : RO S fl lo) (hh : RO S fh hi) : RE S (fSl fa fl fh) (zCut xs lo hi) (some 1) Ca Ca := fun ρ z => by
  obtain ⟨ra, ea, g1⟩ := ha ρ z
  obtain ⟨k1, e1, c1, rfl, _, _, h⟩ := rd1 g1
  exact ⟨⟨.lst (cutD (xs.map enc) lo hi), 1, c1, c1⟩, by rw [ap_sl, ea, bd_ok, hl ρ z, bd_ok, hh ρ z, bd_ok]; rfl, by show D.lst _ = D.lst _; rw [cut_enc], fun m z => by cases z; rfl, h, h⟩
/-! None, isinstance -/
class EncN (α : Type) [Enc α] : Prop where
  nn : ∀ a : α, enc a = .non → False
instance : EncN Int := ⟨fun _ h => by cases h⟩
instance : EncN Bool := ⟨fun _ h => by cases h⟩
instance : EncN Str := ⟨fun _ h => by cases h⟩
instance : EncN (List α) := ⟨fun _ h => by cases h⟩
instance : EncN (T2 α β) := ⟨fun _ h => by cases h⟩
instance : EncN (T3 α β γ) := ⟨fun _ h => by cases h⟩
instance : EncN (T4 α β γ δ) := ⟨fun _ h => by cases h⟩
class EncI (α : Type) [Enc α] where
  is : String → Bool
  ok : ∀ (a : α) (T : String), isScr (enc a) = false ∧ isTy T (enc a) = is T
instance : EncI Int := ⟨fun T => "int" == T, fun a T => ⟨rfl, rfl⟩⟩
instance : EncI Bool := ⟨fun T => T == "bool" || T == "int", fun a T => ⟨rfl, rfl⟩⟩
instance : EncI Str := ⟨fun T => "str" == T, fun a T => ⟨rfl, rfl⟩⟩
instance : EncI Unit := ⟨fun T => "NoneType" == T, fun a T => ⟨rfl, rfl⟩⟩
instance : EncI (List α) := ⟨fun T => "list" == T, fun a T => ⟨rfl, rfl⟩⟩
instance : EncI (T2 α β) := ⟨fun T => "tuple" == T, fun a T => ⟨rfl, rfl⟩⟩
instance : EncI (T3 α β γ) := ⟨fun T => "tuple" == T, fun a T => ⟨rfl, rfl⟩⟩
instance : EncI (T4 α β γ δ) := ⟨fun T => "tuple" == T, fun a T => ⟨rfl, rfl⟩⟩
theorem re_isi [EncI α] {x : α} {T : String} {p : Bool} (hp : EncI.is α T = p) (ha : RE S fa x ka Ea Ca) : RE S (fIsi T fa) p (some 0) [] [] := re_un ha fun ra g1 => by
  obtain ⟨k1, e1, c1, rfl, _⟩ := rd1 g1
  obtain ⟨h1, h2⟩ := EncI.ok x T
  exact ⟨_, g_isi h1, by rw [h2, hp]; exact gv0⟩
theorem gIsN_not {neg : Bool} {d : D} {k1 : Nat} {e1 c1 : List Nat} (h : d = .non → False) (hs : isScr d = false) : gIsN neg ⟨d, k1, e1, c1⟩ = .ok ⟨.bl neg, 0, [], []⟩ := by
  cases d <;> first | rfl | exact (h rfl).elim | (simp [isScr] at hs) | (cases neg <;> rfl)
theorem re_isNt [EncN α] [EncI α] {x : α} {neg : Bool} (ha : RE S fa x ka Ea Ca) : RE S (fIsN neg fa) neg (some 0) [] [] := re_un ha fun ra g1 => by
  obtain ⟨k1, e1, c1, rfl, _⟩ := rd1 g1
  exact ⟨_, gIsN_not (EncN.nn x) (EncI.ok x "").1, gv0⟩
theorem re_isNo [EncN α] [EncI α] {x : Option α} (ha : RE S fa x ka Ea Ca) : RE S (fIsN false fa) x.isNone (some 0) [] [] := re_un ha fun ra g1 => by
  obtain ⟨k1, e1, c1, rfl, _⟩ := rd1 g1
  cases x with
  | none => exact ⟨_, rfl, gv0⟩
  | some y => exact ⟨_, gIsN_not (EncN.nn y) (EncI.ok y "").1, gv0⟩
theorem re_isNn [EncN α] [EncI α] {x : Option α} (ha : RE S fa x ka Ea Ca) : RE S (fIsN true fa) x.isSome (some 0) [] [] := re_un ha fun ra g1 => by
  obtain ⟨k1, e1, c1, rfl, _⟩ := rd1 g1
  cases x with
  | none => exact ⟨_, rfl, gv0⟩
  | some y => exact ⟨_, gIsN_not (EncN.nn y) (EncI.ok y "").1, gv0⟩
theorem re_get {x : Option α} {y : α} (h : x = some y) (ha : RE S fa x ka Ea Ca) : RE S fa y ka Ea Ca := by subst h; exact ha
theorem re_opt {y : α} (ha : RE S fa y ka Ea Ca) : RE S fa (some y) ka Ea Ca := ha
theorem re_optN (ha : RE S fa () ka Ea Ca) : RE S fa (none : Option α) ka Ea Ca := ha
theorem re_any {y : α} (ha : RE S fa y ka Ea Ca) : RE S fa (enc y) ka Ea Ca := ha
theorem re_isB {p q : Bool} (ha : RE S fa p ka Ea Ca) (hb : RE S fb q kb Eb Cb) : RE S (fBin (gIsB false) fa fb) (decide (p = q)) (some 0) [] [] := re_bin ha hb fun ra rb g1 g2 => by
  obtain ⟨k1, e1, c1, rfl, _⟩ := rd1 g1
  obtain ⟨k2, e2, c2, rfl, _⟩ := rd1 g2
  exact ⟨_, rfl, gv0⟩
theorem re_isnB {p q : Bool} (ha : RE S fa p ka Ea Ca) (hb : RE S fb q kb Eb Cb) : RE S (fBin (gIsB true) fa fb) (!decide (p = q)) (some 0) [] [] := re_bin ha hb fun ra rb g1 g2 => by
  obtain ⟨k1, e1, c1, rfl, _⟩ := rd1 g1
  obtain ⟨k2, e2, c2, rfl, _⟩ := rd1 g2
  exact ⟨_, rfl, gv0⟩
/-! and, or, not; tests -/
variable {p q r : Bool} {t u : FT}
theorem rt_test (ha : RE S fa p ka Ea Ca) : RT S (fTest fa) p := fun ρ z => by
  obtain ⟨ra, ea, g1⟩ := ha ρ z
  obtain ⟨k1, e1, c1, rfl, _⟩ := rd1 g1
  rw [ap_test, ea, bd_ok]; rfl
theorem rt_not (h : RT S t p) : RT S (fNotT t) (!p) := fun ρ z => by rw [ap_notT, h ρ z]; rfl
theorem rt_and (h : RT S t p) (h' : RT S u q) : RT S (fAndT t u) (p && q) := fun ρ z => by
  rw [ap_andT, h ρ z, bd_ok]
  cases p
  · rfl
  · exact h' ρ z
theorem rt_or (h : RT S t p) (h' : RT S u q) : RT S (fOrT t u) (p || q) := fun ρ z => by
  rw [ap_orT, h ρ z, bd_ok]
  cases p
  · exact h' ρ z
  · rfl
def zAnd (p : Bool) (o : Option Bool) : Option Bool := if p = true then o else some false
def zOr (p : Bool) (o : Option Bool) : Option Bool := if p = true then some true else o
theorem rt_andM {o : Option Bool} (h : RT S t p) (h' : ∀ q, o = some q → RT S u q) (e : zAnd p o = some r) : RT S (fAndT t u) r := fun ρ z => by
  rw [ap_andT, h ρ z, bd_ok]
  cases p
  · cases e; rfl
  · exact h' r e ρ z
theorem rt_orM {o : Option Bool} (h : RT S t p) (h' : ∀ q, o = some q → RT S u q) (e : zOr p o = some r) : RT S (fOrT t u) r := fun ρ z => by
  rw [ap_orT, h ρ z, bd_ok]
  cases p
  · exact h' r e ρ z
  · cases e; rfl
theorem re_and (ha : RE S fa p ka Ea Ca) (hb : RE S fb q kb Eb Cb) : RE S (fAndV fa fb) (p && q) none Eb Cb := fun ρ z => by
  obtain ⟨ra, ea, g1⟩ := ha ρ z
  obtain ⟨k1, e1, c1, rfl, _⟩ := rd1 g1
  rw [ap_andV, ea, bd_ok]
  cases p with
  | false => exact ⟨⟨.bl false, 0, [], []⟩, rfl, rfl, fun m z => (by cases z), fun j hj => (by cases hj), fun j hj => (by cases hj)⟩
  | true => exact re_anyk hb ρ z
theorem re_or (ha : RE S fa p ka Ea Ca) (hb : RE S fb q kb Eb Cb) : RE S (fOrV fa fb) (p || q) none Eb Cb := fun ρ z => by
  obtain ⟨ra, ea, g1⟩ := ha ρ z
  obtain ⟨k1, e1, c1, rfl, _⟩ := rd1 g1
  rw [ap_orV, ea, bd_ok]
  cases p with
  | true => exact ⟨⟨.bl true, 0, [], []⟩, rfl, rfl, fun m z => (by cases z), fun j hj => (by cases hj), fun j hj => (by cases hj)⟩
  | false => exact re_anyk hb ρ z
theorem re_andM {o : Option Bool} (ha : RE S fa p ka Ea Ca) (hb : ∀ q, o = some q → RE S fb q kb Eb Cb) (e : zAnd p o = some r) : RE S (fAndV fa fb) r none Eb Cb := by
  cases p with
  | false =>
    cases e
    intro ρ z
    obtain ⟨ra, ea, g1⟩ := ha ρ z
    obtain ⟨k1, e1, c1, rfl, _⟩ := rd1 g1
    rw [ap_andV, ea, bd_ok]
    exact ⟨⟨.bl false, 0, [], []⟩, rfl, rfl, fun m z => (by cases z), fun j hj => (by cases hj), fun j hj => (by cases hj)⟩
  | true => exact re_and ha (hb r e)
theorem re_orM {o : Option Bool} (ha : RE S fa p ka Ea Ca) (hb : ∀ q, o = some q → RE S fb q kb Eb Cb) (e : zOr p o = some r) : RE S (fOrV fa fb) r none Eb Cb := by
  cases p with
  | true =>
    cases e
    intro ρ z
    obtain ⟨ra, ea, g1⟩ := ha ρ z
    obtain ⟨k1, e1, c1, rfl, _⟩ := rd1 g1
    rw [ap_orV, ea, bd_ok]
    exact ⟨⟨.bl true, 0, [], []⟩, rfl, rfl, fun m z => (by cases z), fun j hj => (by cases hj), fun j hj => (by cases hj)⟩
  | false => exact re_or ha (hb r e)
theorem re_notV (ha : RE S fa p ka Ea Ca) : RE S (fNotV fa) (!p) (some 0) [] [] := fun ρ z => by
  obtain ⟨ra, ea, g1⟩ := ha ρ z
  obtain ⟨k1, e1, c1, rfl, _⟩ := rd1 g1
  exact ⟨_, by rw [ap_notV, ea, bd_ok]; rfl, gv0⟩
/-- a if t else b -/
theorem re_iteM {x y : Option α} {v : α} (ht : RT S t p) (ha : ∀ w, x = some w → RE S fa w kk E C) (hb : ∀ w, y = some w → RE S fb w kk E C) (e : (if p = true then x else y) = some v) : RE S (fIte t fa fb) v kk E C := fun ρ z => by
  rw [ap_ite, ht ρ z, bd_ok]
  cases p with
  | true => exact ha v e ρ z
  | false => exact hb v e ρ z
/-- a < b < c -/
theorem re_chain {h1 : Int → Int → Bool} {g' : G2} {a b c : Int} (ha : RE S fa a ka Ea Ca) (hb : RE S fb b kb Eb Cb) (hc : RE S fc c kc Ec Cc) (hg : ∀ k1 e1 c1 k2 e2 c2, g' ⟨.int b, k1, e1, c1⟩ ⟨.int c, k2, e2, c2⟩ = .ok ⟨.bl q, 0, [], []⟩) : RE S (fChain (gCmp h1) g' fa fb fc) (h1 a b && q) (some 0) [] [] := fun ρ z => by
  obtain ⟨ra, ea, g1⟩ := ha ρ z
  obtain ⟨rb, eb, g2⟩ := hb ρ z
  obtain ⟨rc, ec, g3⟩ := hc ρ z
  obtain ⟨k1, e1, c1, rfl, _⟩ := rd1 g1
  obtain ⟨k2, e2, c2, rfl, _⟩ := rd1 g2
  obtain ⟨k3, e3, c3, rfl, _⟩ := rd1 g3
  rw [ap_chain, ea, bd_ok, eb, bd_ok]
  show ∃ r, (Res.bind (okB (h1 a b)) fun r => (toB r).bind fun k => if k then (fc ρ).bind fun rc => g' _ rc else okB false) = _ ∧ _
  cases h1 a b with
  | false => exact ⟨_, rfl, gv0⟩
  | true =>
    rw [ec]
    exact ⟨_, hg k2 e2 c2 k3 e3 c3, gv0⟩
/-! argument lists, tuples, lists, calls -/
def RA (S : Spec) (f : FA) (ds : List D) (m : Option Nat) (E : List Nat) : Prop := ∀ ρ, Env ρ S → ∃ rs, f ρ = .ok rs ∧ rs.map (·.d) = ds ∧ (∀ k, m = some k → ∀ r ∈ rs, scal r.d = true ∨ r.k = k) ∧ ∀ i ∈ esL rs, i ∈ E
variable {A : FA} {ds : List D} {m : Option Nat}
theorem ra_nil : RA S fNil [] m [] := fun ρ z => ⟨[], rfl, rfl, fun _ _ r hr => (by cases hr), fun i hi => (by cases hi)⟩
theorem ra_gen {v : α} {E' : List Nat} (h : RE S f v kk Ea Ca) (t : RA S A ds m E) (hm : ∀ k, m = some k → scal (enc v) = true ∨ kk = some k) (he : Ea ++ E = E') : RA S (fCons f A) (enc v :: ds) m E' := fun ρ z => by
  obtain ⟨r, e, a, b, c, d⟩ := h ρ z
  obtain ⟨rs, e', a', b', c'⟩ := t ρ z
  refine ⟨r :: rs, by rw [ap_cons, e, bd_ok, e', bd_ok], by rw [List.map_cons, a, a'], fun k hk q hq => ?_, fun i hi => ?_⟩
  · rcases List.mem_cons.mp hq with rfl | hq
    · rcases hm k hk with hs | hs
      · exact .inl (a ▸ hs)
      · exact .inr (b k hs)
    · exact b' k hk q hq
  · rw [← he]
    rw [es_c] at hi
    rcases List.mem_append.mp hi with hi | hi
    · exact List.mem_append_left _ (c i hi)
    · exact List.mem_append_right _ (c' i hi)
theorem ra_n {v : α} (h : RE S f v kk Ea Ca) (t : RA S A ds none E) : RA S (fCons f A) (enc v :: ds) none (Ea ++ E) := ra_gen h t (fun _ z => by cases z) rfl
theorem ra_s [EncS α] {v : α} (h : RE S f v kk Ea Ca) (t : RA S A ds m E) : RA S (fCons f A) (enc v :: ds) m (Ea ++ E) := ra_gen h t (fun _ _ => .inl (EncS.sc v)) rfl
theorem ra_k {v : α} (h : RE S f v m Ea Ca) (t : RA S A ds m E) : RA S (fCons f A) (enc v :: ds) m (Ea ++ E) := ra_gen h t (fun _ z => .inr z) rfl
theorem cd_eq {rs : List R} {k : Nat} (h : ∀ r ∈ rs, scal r.d = true ∨ r.k = k) (hx : k = 0 ∨ ∃ r ∈ rs, scal r.d = false) : cDepth rs = k := by
  unfold cDepth
  split
  · rename_i q
    rcases hx with hx | ⟨r, hr, hs⟩
    · exact hx.symm
    · have : r ∈ rs.filter fun r => !scal r.d := List.mem_filter.mpr ⟨hr, by simp [hs]⟩
      rw [q] at this; cases this
  · rename_i r t q
    have key : ∀ x ∈ r :: t, x.k = k := fun x hx => by
      rw [← q] at hx
      obtain ⟨h1, h2⟩ := List.mem_filter.mp hx
      rcases h x h1 with h3 | h3
      · rw [h3] at h2; cases h2
      · exact h3
    have hr := key r List.mem_cons_self
    split
    · exact hr
    · rename_i hn
      refine (hn ?_).elim
      refine List.all_eq_true.mpr fun x hx => ?_
      rw [hr, key x (List.mem_cons_of_mem _ hx)]; simp
theorem re_tup0 {v : α} (hv : enc v = .tup ds) (hl : ds.length ≤ 1000) (h : RA S A ds (some 0) E) : RE S (fTup A) v (some 0) E E := fun ρ z => by
  obtain ⟨rs, e, a, b, c⟩ := h ρ z
  have hl' : rs.length ≤ 1000 := by have := congrArg List.length a; rw [List.length_map] at this; omega
  refine ⟨⟨.tup ds, 0, esL rs, esL rs⟩, ?_, hv.symm, fun m z => by cases z; rfl, c, c⟩
  rw [ap_tup, e, bd_ok, dt_g (szn _ hl'), cd_eq (b 0 rfl) (.inl rfl), a]; rfl
theorem re_tupK {v : α} {k : Nat} (hv : enc v = .tup ds) (hl : ds.length ≤ 1000) (h : RA S A ds (some (k + 1)) E) (hx : ∃ d ∈ ds, scal d = false) : RE S (fTup A) v (some (k + 2)) E E := fun ρ z => by
  obtain ⟨rs, e, a, b, c⟩ := h ρ z
  have hl' : rs.length ≤ 1000 := by have := congrArg List.length a; rw [List.length_map] at this; omega
  refine ⟨⟨.tup ds, k + 2, esL rs, esL rs⟩, ?_, hv.symm, fun m z => by cases z; rfl, c, c⟩
  rw [ap_tup, e, bd_ok, dt_g (szn _ hl'), cd_eq (b (k + 1) rfl) (.inr (by
    obtain ⟨d, hd, hs⟩ := hx
    rw [← a] at hd
    obtain ⟨r, hr, rfl⟩ := List.mem_map.mp hd
    exact ⟨r, hr, hs⟩)), a]; rfl
theorem re_tupN {v : α} (hv : enc v = .tup ds) (hl : ds.length ≤ 1000) (h : RA S A ds m E) : RE S (fTup A) v none E E := fun ρ z => by
  obtain ⟨rs, e, a, b, c⟩ := h ρ z
  have hl' : rs.length ≤ 1000 := by have := congrArg List.length a; rw [List.length_map] at this; omega
  refine ⟨⟨.tup ds, if cDepth rs = 0 then 0 else cDepth rs + 1, esL rs, esL rs⟩, ?_, hv.symm, fun m z => (by cases z), c, c⟩
  rw [ap_tup, e, bd_ok, dt_g (szn _ hl'), a]
theorem re_lst0 {v : α} (hv : enc v = .lst ds) (hl : ds.length ≤ 1000) (h : RA S A ds (some 0) E) : RE S (fLst A) v (some 1) E E := fun ρ z => by
  obtain ⟨rs, e, a, b, c⟩ := h ρ z
  have hl' : rs.length ≤ 1000 := by have := congrArg List.length a; rw [List.length_map] at this; omega
  refine ⟨⟨.lst ds, 1, esL rs, esL rs⟩, ?_, hv.symm, fun m z => by cases z; rfl, c, c⟩
  rw [ap_lst, e, bd_ok, dl_g (szn _ hl'), cd_eq (b 0 rfl) (.inl rfl), a]
theorem re_lstK {v : α} {k : Nat} (hv : enc v = .lst ds) (hl : ds.length ≤ 1000) (h : RA S A ds (some (k + 1)) E) (hx : ∃ d ∈ ds, scal d = false) : RE S (fLst A) v (some (k + 2)) E E := fun ρ z => by
  obtain ⟨rs, e, a, b, c⟩ := h ρ z
  have hl' : rs.length ≤ 1000 := by have := congrArg List.length a; rw [List.length_map] at this; omega
  refine ⟨⟨.lst ds, k + 2, esL rs, esL rs⟩, ?_, hv.symm, fun m z => by cases z; rfl, c, c⟩
  rw [ap_lst, e, bd_ok, dl_g (szn _ hl'), cd_eq (b (k + 1) rfl) (.inr (by
    obtain ⟨d, hd, hs⟩ := hx
    rw [← a] at hd
    obtain ⟨r, hr, rfl⟩ := List.mem_map.mp hd
    exact ⟨r, hr, hs⟩)), a]
theorem re_lstN {v : α} (hv : enc v = .lst ds) (hl : ds.length ≤ 1000) (h : RA S A ds m E) : RE S (fLst A) v none E E := fun ρ z => by
  obtain ⟨rs, e, a, b, c⟩ := h ρ z
  have hl' : rs.length ≤ 1000 := by have := congrArg List.length a; rw [List.length_map] at this; omega
  refine ⟨⟨.lst ds, cDepth rs + 1, esL rs, esL rs⟩, ?_, hv.symm, fun m z => (by cases z), c, c⟩
  rw [ap_lst, e, bd_ok, dl_g (szn _ hl'), a]
theorem re_nil {dep : Nat} : RE S (fLstE dep) ([] : List α) (some (dep + 1)) [] [] := fun ρ z => ⟨_, rfl, rfl, fun m z => by cases z; rfl, fun j hj => (by cases hj), fun j hj => (by cases hj)⟩
/-- what a def answers -/
def DR (o : Res (D × Nat)) (d : D) (kk : Option Nat) : Prop := ∃ k, o = .ok (d, k) ∧ ∀ m, kk = some m → k = m
theorem callE_sub {rs : List R} {d : D} {k : Nat} (h : ∀ i ∈ esL rs, i ∈ E) : ∀ i ∈ callE rs d k, i ∈ E := fun i hi => by
  unfold callE at hi
  split at hi
  · cases hi
  · exact h i hi
theorem re_callS [EncS α] {n : Nat} {sem : DS} {v : α} (h : DR (sem ds) (enc v) kk) (hn : ds.length = n) (t : RA S A ds m E) : RE S (fCall n sem A) v none [] [] := fun ρ z => by
  obtain ⟨rs, e, a, b, c⟩ := t ρ z
  obtain ⟨k, e2, hk⟩ := h
  have hl : rs.length = n := by rw [← hn, ← a, List.length_map]
  refine ⟨⟨enc v, k, [], []⟩, ?_, rfl, fun m z => (by cases z), fun j hj => (by cases hj), fun j hj => (by cases hj)⟩
  rw [ap_call, e, bd_ok, cl_ok hl (by rw [a]; exact e2), cv_af]
  have := EncS.sc v
  generalize enc v = d at this
  cases d <;> first | (simp [scal] at this; done) | (cases k <;> rfl)
theorem re_callF [EncF α] {n k : Nat} {sem : DS} {v : α} (hd : EncF.dp α ≤ k) (h : DR (sem ds) (enc v) (some k)) (hn : ds.length = n) (t : RA S A ds m E) : RE S (fCall n sem A) v (some k) [] [] := fun ρ z => by
  obtain ⟨rs, e, a, b, c⟩ := t ρ z
  obtain ⟨k', e2, hk⟩ := h
  have hk : k' = k := hk k rfl
  subst hk
  have hl : rs.length = n := by rw [← hn, ← a, List.length_map]
  refine ⟨⟨enc v, k', [], []⟩, ?_, rfl, fun m z => by cases z; rfl, fun j hj => (by cases hj), fun j hj => (by cases hj)⟩
  rw [ap_call, e, bd_ok, cl_ok hl (by rw [a]; exact e2), cv_af (af_up _ (EncF.ok v) hd)]
theorem re_callE {n : Nat} {sem : DS} {v : α} (h : DR (sem ds) (enc v) kk) (hn : ds.length = n) (t : RA S A ds m E) : RE S (fCall n sem A) v kk E E := fun ρ z => by
  obtain ⟨rs, e, a, b, c⟩ := t ρ z
  obtain ⟨k, e2, hk⟩ := h
  have hl : rs.length = n := by rw [← hn, ← a, List.length_map]
  exact ⟨⟨enc v, k, callE rs (enc v) k, callE rs (enc v) k⟩, by rw [ap_call, e, bd_ok, cl_any hl (by rw [a]; exact e2)], rfl, hk, callE_sub c, callE_sub c⟩
theorem re_yes : RT S fYes true := fun _ _ => rfl
end
end PyL

namespace PyL
open PySem PySem.Spec L2
open Enc (enc)
set_option autoImplicit false
section
variable {S S2 S3 : Spec} {f g fa fb fc : FE} {i : Nat} {ka kb kc kk : Option Nat} {Ea Ca Eb Cb Ec Cc E C : List Nat} {α β γ δ : Type} [Enc α] [Enc β] [Enc γ] [Enc δ] {a b : Int}
/-! ### what is walked over -/
def RI (S : Spec) (it : FI) (xs : List α) (E C : List Nat) : Prop := ∀ ρ, Env ρ S → ∃ s, it ρ = .ok s ∧ s.ds = xs.map enc ∧ (∀ i ∈ s.e, i ∈ E) ∧ ∀ i ∈ s.c, i ∈ C
theorem ri_seq {xs : List α} (ha : RE S fa xs ka E C) : RI S (fSeqI fa) xs E C := fun ρ z => by
  obtain ⟨ra, ea, g1⟩ := ha ρ z
  obtain ⟨k1, e1, c1, rfl, _, h1, h2⟩ := rd1 g1
  exact ⟨_, by rw [ap_seqI, ea, bd_ok]; rfl, rfl, h1, h2⟩
def zRng (n : Int) : Option (List Int) := if InR n then some (rgI n.toNat) else none
theorem ri_rng1 {xs : List Int} (ha : RE S fa a ka Ea Ca) (h : zRng a = some xs) : RI S (fRng1 (fCons fa fNil)) xs [] [] := fun ρ z => by
  obtain ⟨ra, ea, g1⟩ := ha ρ z
  obtain ⟨k1, e1, c1, rfl, _⟩ := rd1 g1
  unfold zRng at h
  split at h
  · rename_i hc
    cases h
    refine ⟨⟨rgD 0 a.toNat, [], []⟩, ?_, rgI_enc, fun j hj => (by cases hj), fun j hj => (by cases hj)⟩
    rw [ap_rng1, ap_cons, ea, bd_ok, ap_nil, bd_ok, bd_ok]
    exact r1_ok hc
  · cases h
def zRng2 (lo hi : Int) : Option (List Int) := if InR lo ∧ InR hi then some (rgI2 lo (hi - lo).toNat) else none
theorem ri_rng2 {xs : List Int} (ha : RE S fa a ka Ea Ca) (hb : RE S fb b kb Eb Cb) (h : zRng2 a b = some xs) : RI S (fRng2 (fCons fa (fCons fb fNil))) xs [] [] := fun ρ z => by
  obtain ⟨ra, ea, g1⟩ := ha ρ z
  obtain ⟨rb, eb, g2⟩ := hb ρ z
  obtain ⟨k1, e1, c1, rfl, _⟩ := rd1 g1
  obtain ⟨k2, e2, c2, rfl, _⟩ := rd1 g2
  unfold zRng2 at h
  split at h
  · rename_i hc
    cases h
    refine ⟨⟨rgD a (b - a).toNat, [], []⟩, ?_, rgI2_enc, fun j hj => (by cases hj), fun j hj => (by cases hj)⟩
    rw [ap_rng2, ap_cons, ea, bd_ok, ap_cons, eb, bd_ok, ap_nil, bd_ok, bd_ok, bd_ok]
    exact r2_ok hc.1 hc.2
  · cases h
def rgI3 (lo c : Int) (n : Nat) : List Int := (List.range n).map fun i : Nat => lo + (i : Int) * c
def zRng3 (lo hi c : Int) : Option (List Int) := if RgC lo hi c (Builtin.Range.rangeSize lo hi c).toNat then some (rgI3 lo c (Builtin.Range.rangeSize lo hi c).toNat) else none
theorem ri_rng3 {c : Int} {xs : List Int} (ha : RE S fa a ka Ea Ca) (hb : RE S fb b kb Eb Cb) (hc : RE S fc c kc Ec Cc) (h : zRng3 a b c = some xs) : RI S (fRng3 (fCons fa (fCons fb (fCons fc fNil)))) xs [] [] := fun ρ z => by
  obtain ⟨ra, ea, g1⟩ := ha ρ z
  obtain ⟨rb, eb, g2⟩ := hb ρ z
  obtain ⟨rc, ec, g3⟩ := hc ρ z
  obtain ⟨k1, e1, c1, rfl, _⟩ := rd1 g1
  obtain ⟨k2, e2, c2, rfl, _⟩ := rd1 g2
  obtain ⟨k3, e3, c3, rfl, _⟩ := rd1 g3
  unfold zRng3 at h
  split at h
  · rename_i hc
    cases h
    refine ⟨⟨rcD a c (Builtin.Range.rangeSize a b c).toNat, [], []⟩, ?_, by unfold rcD rgI3; rw [List.map_map]; rfl, fun j hj => (by cases hj), fun j hj => (by cases hj)⟩
    rw [ap_rng3, ap_cons, ea, bd_ok, ap_cons, eb, bd_ok, ap_cons, ec, bd_ok, ap_nil, bd_ok, bd_ok, bd_ok, bd_ok]
    exact rng3_ok hc
  · cases h
theorem ri_rev {xs : List α} (ha : RE S fa xs ka E C) : RI S (fRevI (fCons fa fNil)) xs.reverse E C := fun ρ z => by
  obtain ⟨ra, ea, g1⟩ := ha ρ z
  obtain ⟨k1, e1, c1, rfl, _, h1, h2⟩ := rd1 g1
  refine ⟨⟨(xs.map enc).reverse, e1, c1⟩, ?_, by rw [List.map_reverse], h1, h2⟩
  rw [ap_revI, ap_cons, ea, bd_ok, ap_nil, bd_ok, bd_ok]; rfl
/-! targets -/
def BG (tg : FG) (vs : List Nat) (x : α) (S S2 : Spec) : Prop := ∀ ρ, Env ρ S → ∃ ρ2, tg (enc x) (wipeE ρ vs) = some ρ2 ∧ Env ρ2 S2
theorem bg_n {vs : List Nat} {x : α} (hS : (wipeS S vs).set i (some (enc x, some 0)) = S2) : BG (gN i) vs x S S2 := fun ρ z => ⟨_, rfl, hS ▸ (z.wipe vs).set i (fun m q => by cases q; rfl)⟩
def setG : List Nat → List D → Spec → Spec
  | i :: is, d :: ds, S => setG is ds (S.set i (some (d, some 0)))
  | _, _, S => S
theorem gTs_env : ∀ {is : List Nat} {ds : List D} {ρ : Ev} {S : Spec}, is.length = ds.length → Env ρ S → ∃ ρ2, gTs is ds ρ = some ρ2 ∧ Env ρ2 (setG is ds S)
  | [], [], ρ, S, _, z => ⟨ρ, rfl, z⟩
  | i :: is, d :: ds, ρ, S, h, z => gTs_env (is := is) (ds := ds) (by simpa using h) (z.set i (kk := some 0) (fun m q => by cases q; rfl))
  | [], _ :: _, _, _, h, _ => by simp at h
  | _ :: _, [], _, _, h, _ => by simp at h
theorem bg_t {vs is : List Nat} {x : α} {ds : List D} (hx : enc x = .tup ds) (hl : is.length = ds.length) (hS : setG is ds (wipeS S vs) = S2) : BG (gT is) vs x S S2 := fun ρ z => by
  obtain ⟨ρ2, e, z2⟩ := gTs_env (is := is) (ds := ds) hl (z.wipe vs)
  exact ⟨ρ2, by rw [hx]; exact e, hS ▸ z2⟩
/-! comprehensions -/
def zFilM {α β : Type} (f : α → Option (Option β)) : List α → Option (List β)
  | [] => some []
  | x :: xs => (f x).bind fun o => (zFilM f xs).bind fun ys => some (match o with
    | none => ys
    | some y => y :: ys)
def zMapM {α β : Type} (f : α → Option β) : List α → Option (List β)
  | [] => some []
  | x :: xs => (f x).bind fun y => (zMapM f xs).bind fun ys => some (y :: ys)
theorem zFilM_pure {α β : Type} {p : α → Bool} {h : α → β} : ∀ {xs : List α}, zFilM (fun x => some (if p x = true then some (h x) else none)) xs = some ((xs.filter p).map h)
  | [] => rfl
  | x :: xs => by
    unfold zFilM
    rw [zFilM_pure]
    cases hp : p x <;> simp [hp]
theorem zFilM_map {α β : Type} {h : α → Option β} : ∀ {xs : List α}, zFilM (fun x => (h x).bind fun y => some (some y)) xs = zMapM h xs
  | [] => rfl
  | x :: xs => by
    unfold zFilM zMapM
    rw [zFilM_map]
    cases h x <;> rfl
def GvL (kk : Option Nat) (E C : List Nat) : List R → List D → Prop
  | [], [] => True
  | r :: rs, d :: ds => Gv r d kk E C ∧ GvL kk E C rs ds
  | _, _ => False
theorem GvL.all {kk : Option Nat} {E C : List Nat} : ∀ {rs : List R} {ds : List D}, GvL kk E C rs ds → rs.map (·.d) = ds ∧ (∀ r ∈ rs, ∃ d ∈ ds, Gv r d kk E C) ∧ ∀ i ∈ esL rs, i ∈ E
  | [], [], _ => ⟨rfl, fun r h => (by cases h), fun i h => (by cases h)⟩
  | r :: rs, d :: ds, h => by
    obtain ⟨a, b, c⟩ := h.2.all
    refine ⟨by rw [List.map_cons, a, h.1.1], fun q hq => ?_, fun i hi => ?_⟩
    · rcases List.mem_cons.mp hq with rfl | hq
      · exact ⟨d, List.mem_cons_self, h.1⟩
      · obtain ⟨d', h1, h2⟩ := b q hq
        exact ⟨d', List.mem_cons_of_mem _ h1, h2⟩
    · rw [es_c] at hi
      rcases List.mem_append.mp hi with hi | hi
      · exact h.1.2.2.1 i hi
      · exact c i hi
  | [], _ :: _, h => h.elim
  | _ :: _, [], h => h.elim
theorem compL_t {tg : FG} {tt : FT} {te : FE} {ρ : Ev} {fm : α → Option (Option β)} : ∀ {xs : List α} {ys : List β}, (∀ x ∈ xs, ∀ o, fm x = some o → ∃ ρ2, tg (enc x) ρ = some ρ2 ∧ tt ρ2 = .ok o.isSome ∧ ∀ y, o = some y → ∃ r, te ρ2 = .ok r ∧ Gv r (enc y) kk E C) → zFilM fm xs = some ys →
    ∃ rs, compL tg tt te ρ (xs.map enc) = .ok rs ∧ GvL kk E C rs (ys.map enc)
  | [], ys, _, h => by cases h; exact ⟨[], rfl, trivial⟩
  | x :: xs, ys, hb, h => by
    unfold zFilM at h
    obtain ⟨o, ho, h⟩ := bnd h
    obtain ⟨zs, hz, h⟩ := bnd h
    obtain ⟨ρ2, e1, e2, e3⟩ := hb x List.mem_cons_self o ho
    obtain ⟨rs, e4, g4⟩ := compL_t (fun y hy => hb y (List.mem_cons_of_mem _ hy)) hz
    rw [List.map_cons]
    unfold compL
    rw [e1]
    simp only [e2, noX, bd_ok]
    cases o with
    | none =>
      cases h
      exact ⟨rs, by simpa using e4, g4⟩
    | some y =>
      cases h
      obtain ⟨r, e5, g5⟩ := e3 y rfl
      refine ⟨r :: rs, ?_, g5, g4⟩
      simp only [Option.isSome_some, if_true, e5, e4, bd_ok]
theorem comp_gen {dep : Nat} {it : FI} {tg : FG} {tt : FT} {te : FE} {vs : List Nat} {xs : List α} {ys zs : List β} {Ei Ci : List Nat} {fm : α → Option (Option β)} (hi : RI S it xs Ei Ci)
    (hb : ∀ x o, x ∈ xs → fm x = some o → ∃ S2, BG tg vs x (frzS Ci S) S2 ∧ RT S2 tt o.isSome ∧ ∀ y, o = some y → RE S2 te y kk E C) (h1 : zFilM fm xs = some ys) (h2 : zLst ys = some zs) :
    zs = ys ∧ ys.length ≤ sizeLine ∧ ∀ ρ, Env ρ S → ∃ rs c, GvL kk E C rs (ys.map enc) ∧ (∀ i ∈ c, i ∈ Ci) ∧ fComp dep it tg tt te vs ρ = dispC dep c rs := by
  unfold zLst at h2
  split at h2
  · rename_i hl
    cases h2
    refine ⟨rfl, hl, fun ρ z => ?_⟩
    obtain ⟨s, e1, e2, e3, e4⟩ := hi ρ z
    obtain ⟨rs, e5, g5⟩ := compL_t (tg := tg) (tt := tt) (te := te) (ρ := wipeE (frzL s.c ρ) vs) (kk := kk) (E := E) (C := C) (fm := fm) (xs := xs) (ys := ys) (fun x hx o ho => by
      obtain ⟨S2, b1, b2, b3⟩ := hb x o hx ho
      obtain ⟨ρ2, q1, q2⟩ := b1 _ (z.frz e4)
      exact ⟨ρ2, q1, b2 ρ2 q2, fun y hy => b3 y hy ρ2 q2⟩) h1
    exact ⟨rs, s.c, g5, e4, by rw [ap_comp, e1, bd_ok, e2, e5, bd_ok]⟩
  · cases h2
theorem hdep_of {dep : Nat} {rs : List R} (h : ∀ r ∈ rs, scal r.d = true ∨ r.k = dep) : hDep dep rs = dep := by
  unfold hDep
  rw [if_pos]
  exact List.all_eq_true.mpr fun r hr => by rcases h r hr with q | q <;> simp [q]
/-- .. wholly new -/
theorem re_cF [EncF β] {dep : Nat} {it : FI} {tg : FG} {tt : FT} {te : FE} {vs : List Nat} {xs : List α} {ys zs : List β} {Ei Ci : List Nat} {fm : α → Option (Option β)} (hd : EncF.dp β ≤ dep) (hk : (∀ y : β, scal (enc y) = true) ∨ kk = some dep) (hi : RI S it xs Ei Ci)
    (hb : ∀ x o, x ∈ xs → fm x = some o → ∃ S2, BG tg vs x (frzS Ci S) S2 ∧ RT S2 tt o.isSome ∧ ∀ y, o = some y → RE S2 te y kk E C) (h1 : zFilM fm xs = some ys) (h2 : zLst ys = some zs) : RE S (fComp dep it tg tt te vs) zs (some (dep + 1)) [] [] := by
  obtain ⟨rfl, hl, key⟩ := comp_gen (dep := dep) hi hb h1 h2
  intro ρ z
  obtain ⟨rs, c, gl, _, e⟩ := key ρ z
  obtain ⟨a1, a2, a3⟩ := gl.all
  refine ⟨⟨enc zs, dep + 1, [], []⟩, ?_, rfl, fun m z => by cases z; rfl, fun j hj => (by cases hj), fun j hj => (by cases hj)⟩
  rw [e]
  have hl' : rs.length ≤ sizeLine := by have := congrArg List.length a1; rw [List.length_map, List.length_map] at this; omega
  have hh : hDep dep rs = dep := hdep_of fun r hr => by
    obtain ⟨d, hd, g⟩ := a2 r hr
    rcases hk with hk | hk
    · obtain ⟨y, _, rfl⟩ := List.mem_map.mp hd
      exact .inl (by rw [g.1]; exact hk y)
    · exact .inr (g.2.1 dep hk)
  unfold dispC
  rw [if_pos hl']
  simp only [hh, a1]
  exact if_pos (af_lst fun d hd' => by
    obtain ⟨y, _, rfl⟩ := List.mem_map.mp hd'
    exact af_up _ (EncF.ok y) hd)
/-- .. sharing -/
theorem re_cE {it : FI} {tg : FG} {tt : FT} {te : FE} {vs : List Nat} {xs : List α} {ys zs : List β} {Ei Ci : List Nat} {fm : α → Option (Option β)} (hi : RI S it xs Ei Ci)
    (hb : ∀ x o, x ∈ xs → fm x = some o → ∃ S2, BG tg vs x (frzS Ci S) S2 ∧ RT S2 tt o.isSome ∧ ∀ y, o = some y → RE S2 te y kk E C) (h1 : zFilM fm xs = some ys) (h2 : zLst ys = some zs) : RE S (fComp 0 it tg tt te vs) zs (some 1) (Ci ++ E) (Ci ++ E) := by
  obtain ⟨rfl, hl, key⟩ := comp_gen (dep := 0) hi hb h1 h2
  intro ρ z
  obtain ⟨rs, c, gl, hc, e⟩ := key ρ z
  obtain ⟨a1, a2, a3⟩ := gl.all
  have hl' : rs.length ≤ sizeLine := by have := congrArg List.length a1; rw [List.length_map, List.length_map] at this; omega
  have hh : hDep 0 rs = 0 := by unfold hDep; split <;> rfl
  have e2 : dispC 0 c rs = if af 1 (.lst (zs.map enc)) = true then .ok ⟨.lst (zs.map enc), 1, [], []⟩ else .ok ⟨.lst (zs.map enc), 1, c ++ esL rs, c ++ esL rs⟩ := by
    unfold dispC
    rw [if_pos hl']
    simp only [hh, a1]
  rw [e, e2]
  by_cases q : af 1 (.lst (zs.map enc)) = true
  · rw [if_pos q]
    exact ⟨_, rfl, rfl, fun m z => by cases z; rfl, fun j hj => (by cases hj), fun j hj => (by cases hj)⟩
  · rw [if_neg q]
    have sub : ∀ i ∈ c ++ esL rs, i ∈ Ci ++ E := fun i hi => by
      rcases List.mem_append.mp hi with hi | hi
      · exact List.mem_append_left _ (hc i hi)
      · exact List.mem_append_right _ (a3 i hi)
    exact ⟨_, rfl, rfl, fun m z => by cases z; rfl, sub, sub⟩
/-- the shapes of what is written -/
theorem hb_p {it : FI} {tg : FG} {tt : FT} {te : FE} {vs : List Nat} {xs : List α} {Ci : List Nat} {p : α → Bool} {h : α → β} {Sx : α → Spec} (h1 : ∀ x, BG tg vs x (frzS Ci S) (Sx x)) (h2 : ∀ x, RT (Sx x) tt (p x)) (h3 : ∀ x, RE (Sx x) te (h x) kk E C) :
    ∀ x o, x ∈ xs → some (if p x = true then some (h x) else none) = some o → ∃ S2, BG tg vs x (frzS Ci S) S2 ∧ RT S2 tt o.isSome ∧ ∀ y, o = some y → RE S2 te y kk E C := fun x o _ e => by
  cases e
  refine ⟨Sx x, h1 x, ?_, fun y hy => ?_⟩
  · have := h2 x
    cases q : p x <;> rw [q] at this <;> exact this
  · cases q : p x with
    | false => rw [q] at hy; cases hy
    | true => rw [q] at hy; cases hy; exact h3 x
theorem hb_m {tg : FG} {tt : FT} {te : FE} {vs : List Nat} {xs : List α} {Ci : List Nat} {h : α → Option β} {Sx : α → Spec} (h1 : ∀ x, BG tg vs x (frzS Ci S) (Sx x)) (h2 : ∀ x, RT (Sx x) tt true) (h3 : ∀ x y, h x = some y → RE (Sx x) te y kk E C) :
    ∀ x o, x ∈ xs → ((h x).bind fun y => some (some y)) = some o → ∃ S2, BG tg vs x (frzS Ci S) S2 ∧ RT S2 tt o.isSome ∧ ∀ y, o = some y → RE S2 te y kk E C := fun x o _ e => by
  obtain ⟨y, hy, e⟩ := bnd e
  cases e
  exact ⟨Sx x, h1 x, h2 x, fun z hz => by cases hz; exact h3 x y hy⟩
/-- a test that may fail, or an item that may -/
def zSel {β : Type} (t : Option Bool) (o : Option β) : Option (Option β) := t.bind fun b => if b = true then o.bind fun y => some (some y) else some none
theorem hb_f {tg : FG} {tt : FT} {te : FE} {vs : List Nat} {xs : List α} {Ci : List Nat} {t : α → Option Bool} {h : α → Option β} {Sx : α → Spec} (h1 : ∀ x, BG tg vs x (frzS Ci S) (Sx x)) (h2 : ∀ x b, t x = some b → RT (Sx x) tt b) (h3 : ∀ x y, h x = some y → RE (Sx x) te y kk E C) :
    ∀ x o, x ∈ xs → zSel (t x) (h x) = some o → ∃ S2, BG tg vs x (frzS Ci S) S2 ∧ RT S2 tt o.isSome ∧ ∀ y, o = some y → RE S2 te y kk E C := fun x o _ e => by
  obtain ⟨b, hb, e⟩ := bnd e
  rcases tif e with ⟨rfl, e⟩ | ⟨rfl, e⟩
  · obtain ⟨y, hy, e⟩ := bnd e
    cases e
    exact ⟨Sx x, h1 x, h2 x _ hb, fun z hz => by cases hz; exact h3 x y hy⟩
  · cases e
    exact ⟨Sx x, h1 x, h2 x _ hb, fun z hz => (by cases hz)⟩
theorem filter_tt' {xs : List α} {h : α → β} : (xs.filter fun _ => true).map h = xs.map h := by rw [filter_tt]
end
end PyL

namespace PyL
open PySem PySem.Spec L2
open Enc (enc)
set_option autoImplicit false
/-! ### statements -/
def SpS (S : Spec) (f : FS) (P : Out → Prop) : Prop := ∀ ρ, Env ρ S → P (f ρ)
def Pnx (S' : Spec) : Out → Prop := fun o => ∃ ρ', o = .nx ρ' ∧ Env ρ' S'
def Pgo (S' : Spec) : Out → Prop := fun o => ∃ ρ', (o = .nx ρ' ∨ o = .ct ρ') ∧ Env ρ' S'
def Prt {τ : Type} [Enc τ] (r : τ) (kk : Option Nat) : Out → Prop := fun o => ∃ k, o = .rt (enc r) k ∧ ∀ m, kk = some m → k = m
inductive Ctl (σ τ : Type) where
  | go (s : σ) | stop (s : σ) | ret (r : τ)
def Plp {σ τ : Type} [Enc τ] (Sf : σ → Spec) (kk : Option Nat) : Ctl σ τ → Out → Prop
  | .go s => Pgo (Sf s)
  | .stop s => fun o => ∃ ρ', o = .bk ρ' ∧ Env ρ' (Sf s)
  | .ret r => Prt r kk
section
variable {S S' S2 S3 : Spec} {f g r : FS} {P Q : Out → Prop} {t : FT} {b : Bool}
theorem sp_seq (h : SpS S f (Pnx S')) (k : SpS S' g P) : SpS S (sSeq f g) P := fun ρ z => by
  obtain ⟨ρ', e, z'⟩ := h ρ z
  rw [ap_seq, e]
  exact k ρ' z'
theorem sp_assoc {a c d : FS} (h : SpS S (sSeq a (sSeq c d)) P) : SpS S (sSeq (sSeq a c) d) P := fun ρ z => by
  have := h ρ z
  rw [ap_seq] at this ⊢
  rw [ap_seq]
  cases q : a ρ <;> rw [q] at this <;> simp only [Out.then] at this ⊢ <;> first | exact this | (rw [ap_seq] at this; exact this)
theorem sp_nil (h : SpS S g P) : SpS S (sSeq sNil g) P := fun ρ z => h ρ z
theorem sp_nilN : SpS S sNil (Pnx S) := fun ρ z => ⟨ρ, rfl, z⟩
theorem sp_end (h : SpS S f (Pnx S')) (hp : ∀ ρ', Env ρ' S' → P (.nx ρ')) : SpS S f P := fun ρ z => by
  obtain ⟨ρ', e, z'⟩ := h ρ z
  rw [e]
  exact hp ρ' z'
theorem pnx_c (h : Sub S S') : ∀ ρ', Env ρ' S → Pnx S' (.nx ρ') := fun ρ' z => ⟨ρ', rfl, h.env z⟩
theorem pgo_c (h : Sub S S') : ∀ ρ', Env ρ' S → Pgo S' (.nx ρ') := fun ρ' z => ⟨ρ', .inl rfl, h.env z⟩
theorem sp_cnt (h : Sub S S') : SpS S sCnt (Pgo S') := fun ρ z => ⟨ρ, .inr rfl, h.env z⟩
theorem sp_cntS (h : Sub S S') : SpS S (sSeq sCnt g) (Pgo S') := fun ρ z => ⟨ρ, .inr rfl, h.env z⟩
theorem sp_brk {σ τ : Type} [Enc τ] {Sf : σ → Spec} {kk : Option Nat} {s : σ} (h : Sub S (Sf s)) : SpS S sBrk (Plp (τ := τ) Sf kk (.stop s)) := fun ρ z => ⟨ρ, rfl, h.env z⟩
theorem sp_brkS {σ τ : Type} [Enc τ] {Sf : σ → Spec} {kk : Option Nat} {s : σ} (h : Sub S (Sf s)) : SpS S (sSeq sBrk g) (Plp (τ := τ) Sf kk (.stop s)) := fun ρ z => ⟨ρ, rfl, h.env z⟩
theorem sp_ret {τ : Type} [Enc τ] {v : τ} {fe : FE} {kk : Option Nat} {E C : List Nat} (h : RE S fe v kk E C) : SpS S (sRet fe) (Prt v kk) := fun ρ z => by
  obtain ⟨r, e, a, b, _⟩ := h ρ z
  rw [ap_ret, e, st_ok, a]
  exact ⟨_, rfl, b⟩
theorem sp_retV {τ : Type} [Enc τ] {v : τ} {i : Nat} {kk : Option Nat} (h : S[i]? = some (some (enc v, kk))) : SpS S (sRetV i) (Prt v kk) := fun ρ z => by
  obtain ⟨k, e, hk⟩ := z.2 i _ h
  rw [ap_retV, e]
  exact ⟨k, rfl, hk⟩
theorem sp_retN : SpS S sRetN (Prt () (some 0)) := fun ρ z => ⟨0, rfl, fun m q => by cases q; rfl⟩
theorem prt_w {τ : Type} [Enc τ] {v : τ} {kk : Option Nat} (h : SpS S f (Prt v kk)) : SpS S f (Prt v none) := fun ρ z => by
  obtain ⟨k, e, _⟩ := h ρ z
  exact ⟨k, e, fun m q => by cases q⟩
theorem prt_opt {τ : Type} [Enc τ] {v : τ} {kk : Option Nat} (h : SpS S f (Prt v kk)) : SpS S f (Prt (some v) kk) := h
theorem prt_optN {τ : Type} [Enc τ] {kk : Option Nat} (h : SpS S f (Prt () kk)) : SpS S f (Prt (none : Option τ) kk) := h
theorem prt_any {τ : Type} [Enc τ] {v : τ} {kk : Option Nat} (h : SpS S f (Prt v kk)) : SpS S f (Prt (enc v) kk) := h
theorem sp_seqR {τ : Type} [Enc τ] {v : τ} {kk : Option Nat} (h : SpS S f (Prt v kk)) : SpS S (sSeq f g) (Prt v kk) := fun ρ z => by
  obtain ⟨k, e, hk⟩ := h ρ z
  rw [ap_seq, e]
  exact ⟨k, rfl, hk⟩
theorem sp_if (ht : RT S t b) (h1 : b = true → SpS S f P) (h2 : b = false → SpS S g P) : SpS S (sIf t f g) P := fun ρ z => by
  rw [ap_if, ht ρ z, st_ok]
  cases b with
  | true => exact h1 rfl ρ z
  | false => exact h2 rfl ρ z
theorem sp_if_t (ht : RT S t b) (hb : b = true) (h : SpS S f P) : SpS S (sIf t f g) P := sp_if ht (fun _ => h) fun q => by rw [hb] at q; cases q
theorem sp_if_f (ht : RT S t b) (hb : b = false) (h : SpS S g P) : SpS S (sIf t f g) P := sp_if ht (fun q => by rw [hb] at q; cases q) fun _ => h
theorem sp_ifs_t (ht : RT S t b) (hb : b = true) (h : SpS S (sSeq f r) P) : SpS S (sSeq (sIf t f g) r) P := fun ρ z => by
  have := h ρ z
  rw [ap_seq] at this ⊢
  rw [ap_if, ht ρ z, st_ok, hb]
  exact this
theorem sp_ifs_f (ht : RT S t b) (hb : b = false) (h : SpS S (sSeq g r) P) : SpS S (sSeq (sIf t f g) r) P := fun ρ z => by
  have := h ρ z
  rw [ap_seq] at this ⊢
  rw [ap_if, ht ρ z, st_ok, hb]
  exact this
variable {α β γ : Type} [Enc α] [Enc β] [Enc γ] {fe fi fj fl : FE} {i j : Nat} {kk kk' k1 k2 k3 : Option Nat} {E C E1 C1 E2 C2 E3 C3 : List Nat}
theorem sp_set {v : α} (h : RE S fe v kk E C) (hS : (frzS E S).set i (some (enc v, kk)) = S') : SpS S (sSet i fe) (Pnx S') := fun ρ z => by
  obtain ⟨r, e, a, b, c, _⟩ := h ρ z
  refine ⟨_, by rw [ap_set, e, st_ok], ?_⟩
  rw [← hS, a]
  exact (z.frz c).set i b
theorem sp_expr {v : α} (h : RE S fe v kk E C) : SpS S (sExpr fe) (Pnx S) := fun ρ z => by
  obtain ⟨r, e, _⟩ := h ρ z
  exact ⟨ρ, by rw [ap_expr, e, st_ok], z⟩
def setK : List Nat → List D → Option Nat → Spec → Spec
  | i :: is, d :: ds, k, S => setK is ds k (S.set i (some (d, k)))
  | _, _, _, S => S
theorem setTs_env : ∀ {is : List Nat} {ds : List D} {ρ : Ev} {S : Spec} {k : Nat} {kk : Option Nat}, is.length = ds.length → (∀ m, kk = some m → k = m) → Env ρ S → ∃ ρ2, setTs is ds k ρ = some ρ2 ∧ Env ρ2 (setK is ds kk S)
  | [], [], ρ, S, _, _, _, _, z => ⟨ρ, rfl, z⟩
  | i :: is, d :: ds, ρ, S, k, kk, h, hk, z => setTs_env (is := is) (ds := ds) (by simpa using h) hk (z.set i hk)
  | [], _ :: _, _, _, _, _, h, _, _ => by simp at h
  | _ :: _, [], _, _, _, _, h, _, _ => by simp at h
theorem sp_setT {is : List Nat} {ds : List D} {v : α} (hv : enc v = .tup ds) (hl : is.length = ds.length) (h : RE S fe v kk E C) (hS : setK is ds (kk.map (· - 1)) (frzS E S) = S') : SpS S (sSetT is fe) (Pnx S') := fun ρ z => by
  obtain ⟨r, e, g⟩ := h ρ z
  obtain ⟨k, e1, c1, rfl, a, b, _⟩ := rd1 g
  obtain ⟨ρ2, q1, q2⟩ := setTs_env (is := is) (ds := ds) (k := k - 1) (kk := kk.map (· - 1)) hl (fun m q => by
    cases kk with
    | none => cases q
    | some m' => cases q; rw [a m' rfl]) (z.frz b)
  refine ⟨ρ2, ?_, hS ▸ q2⟩
  rw [ap_setT, e, st_ok]
  simp only [hv, q1]; rfl
theorem sp_mvT {is : List Nat} {ds : List D} {v : α} {tv : Nat} (h : S[tv]? = some (some (enc v, kk))) (hv : enc v = .tup ds) (hl : is.length = ds.length) (hS : setK is ds (kk.map (· - 1)) (S.set tv none) = S') : SpS S (sMvT tv is) (Pnx S') := fun ρ z => by
  obtain ⟨k, e, hk⟩ := z.2 tv _ h
  obtain ⟨ρ2, q1, q2⟩ := setTs_env (is := is) (ds := ds) (k := k - 1) (kk := kk.map (· - 1)) hl (fun m q => by
    cases kk with
    | none => cases q
    | some m' => cases q; rw [hk m' rfl]) (z.wipe [tv])
  refine ⟨ρ2, ?_, hS ▸ q2⟩
  rw [ap_mvT, e]
  simp only [hv]
  exact mv_some q1
theorem sp_par {v : α} {w : β} {fa fb : FE} (h : RE S fa v k1 E1 C1) (h' : RE S fb w k2 E2 C2) (hS : (((frzS (E1 ++ E2) S).set i (some (enc v, some 0))).set j (some (enc w, some 0))) = S') : SpS S (sPar i j (fCons fa (fCons fb fNil))) (Pnx S') := fun ρ z => by
  obtain ⟨r, e, a, b, c, _⟩ := h ρ z
  obtain ⟨q, e', a', b', c', _⟩ := h' ρ z
  refine ⟨_, by rw [ap_par, ap_cons, e, bd_ok, ap_cons, e', bd_ok, ap_nil, bd_ok, bd_ok, st_ok, par_eq], ?_⟩
  rw [← hS, a, a']
  refine ((z.frz fun n hn => ?_).set i fun m q => by cases q; rfl).set j fun m q => by cases q; rfl
  rw [es_c, es_c, es_0, List.append_nil] at hn
  rcases List.mem_append.mp hn with hn | hn
  · exact List.mem_append_left _ (c n hn)
  · exact List.mem_append_right _ (c' n hn)
/-! lists at slots -/
def zApp {α : Type} (xs : List α) (v : α) : Option (List α) := if xs.length < sizeLine then some (xs ++ [v]) else none
theorem sp_app {xs ys : List α} {v : α} {k k' : Nat} (hx : S[i]? = some (some (enc xs, some (k + 1)))) (h : RE S fe v kk E C) (hi : i ∉ E) (hk : (k = 0 ∧ k' = 1) ∨ (k ≠ 0 ∧ (scal (enc v) = true ∨ kk = some k) ∧ k' = k + 1) ∨ (scal (enc v) = false ∧ (∃ m, kk = some m ∧ m ≠ k) ∧ k' = 1)) (ht : zApp xs v = some ys) (hS : (frzS E S).set i (some (enc ys, some k')) = S') : SpS S (sApp i fe) (Pnx S') := fun ρ z => by
  obtain ⟨k0, e0, hk0⟩ := z.2 i _ hx
  have hk0 : k0 = k + 1 := hk0 _ rfl
  subst hk0
  obtain ⟨r, e, a, b, c, _⟩ := h ρ z
  unfold zApp at ht
  split at ht
  · rename_i hz
    cases ht
    have e0 : ρ[i]? = some (some (.lst (xs.map enc), k + 1)) := e0
    have hkk : (if keepK k r then k + 1 else 1) = k' := by
      unfold keepK
      rw [a]
      rcases hk with ⟨rfl, rfl⟩ | ⟨hk, q, rfl⟩ | ⟨q, ⟨m, q1, q2⟩, rfl⟩
      · rfl
      · have : (scal (enc v) || r.k == k) = true := by
          rcases q with q | q
          · simp [q]
          · simp [b k q]
        rw [this, decide_eq_true (by omega : 1 ≤ k)]; rfl
      · rw [q, b m q1]
        have : (m == k) = false := by simp [q2]
        rw [this]; simp
    refine ⟨(frzL r.e ρ).set i (some (.lst (xs.map enc ++ [r.d]), k')), ?_, ?_⟩
    · rw [ap_app, e, st_ok, e0]
      show ownK (appK i ρ r (some (some (.lst (xs.map enc), k + 1)))) _ = _
      rw [own_some]
      show (if i ∈ r.e then Out.bad else if (xs.map enc).length < sizeLine then Out.nx ((frzL r.e ρ).set i (some (.lst (xs.map enc ++ [r.d]), if keepK k r then k + 1 else 1))) else Out.bad) = _
      rw [if_neg fun q => hi (c i q), if_pos (by rw [List.length_map]; exact hz), hkk]
    · rw [← hS, a]
      have : D.lst (xs.map enc ++ [enc v]) = enc (xs ++ [v]) := by show _ = D.lst _; rw [List.map_append]; rfl
      rw [this]
      exact (z.frz c).set i fun m q => by cases q; rfl
  · cases ht
def zStore {α : Type} (xs : List α) (z : Int) (v : α) : Option (List α) := (ixN xs.length z).bind fun j => some (xs.set j v)
theorem map_set' {xs : List α} {j : Nat} {v : α} : (xs.map enc).set j (enc v) = (xs.set j v).map enc := by rw [List.map_set]
theorem sp_store {xs ys : List α} {v : α} {n : Int} {k k' : Nat} (hx : S[i]? = some (some (enc xs, some (k + 1)))) (h : RE S fe v kk E C) (hn : RE S fi n k1 E1 C1) (hi : i ∉ E) (hk : (k = 0 ∧ k' = 1) ∨ (k ≠ 0 ∧ scal (enc v) = true ∧ k' = k + 1) ∨ (scal (enc v) = false ∧ k' = 1)) (ht : zStore xs n v = some ys) (hS : (frzS E S).set i (some (enc ys, some k')) = S') : SpS S (sStore i fi fe) (Pnx S') := fun ρ z => by
  obtain ⟨k0, e0, hk0⟩ := z.2 i _ hx
  have hk0 : k0 = k + 1 := hk0 _ rfl
  subst hk0
  obtain ⟨r, e, a, b, c, _⟩ := h ρ z
  obtain ⟨q, e', g⟩ := hn ρ z
  obtain ⟨kq, eq, cq, rfl, _⟩ := rd1 g
  obtain ⟨j, hj, ht⟩ := bnd ht
  cases ht
  have e0 : ρ[i]? = some (some (.lst (xs.map enc), k + 1)) := e0
  have hj' : ixN (xs.map enc).length n = some j := by rw [List.length_map]; exact hj
  have fin : sStore i fi fe ρ = .nx ((frzL r.e ρ).set i (some (.lst ((xs.map enc).set j r.d), k'))) := by
    rw [ap_store, e, st_ok, e', st_ok, e0, own_some]
    unfold storeK
    show (match ixN (xs.map enc).length n with | some j => _ | none => _) = _
    rw [hj']
    simp only
    rw [if_neg fun q => hi (c i q)]
    rcases hk with ⟨rfl, rfl⟩ | ⟨hk, q, rfl⟩ | ⟨q, rfl⟩
    · have : keepK 0 r = false := rfl
      rw [this]; rfl
    · have : (keepK k r && scal r.d) = true := by
        unfold keepK
        rw [a, q, decide_eq_true (by omega : 1 ≤ k)]; rfl
      rw [this]; rfl
    · rw [a, q, Bool.and_false]; rfl
  refine ⟨_, fin, ?_⟩
  rw [← hS, a, map_set']
  exact (z.frz c).set i fun m q => by cases q; rfl
def zStore2 {α : Type} (rows : List (List α)) (z z2 : Int) (v : α) : Option (List (List α)) := (ixN rows.length z).bind fun j => (rows[j]?).bind fun es => (ixN es.length z2).bind fun l => some (rows.set j (es.set l v))
theorem sp_store2 {rows rows' : List (List α)} {v : α} {n n2 : Int} {k : Nat} (hx : S[i]? = some (some (enc rows, some (k + 2)))) (h : RE S fe v kk E C) (hs : scal (enc v) = true) (hn : RE S fi n k1 E1 C1) (hn2 : RE S fj n2 k2 E2 C2) (ht : zStore2 rows n n2 v = some rows') (hS : S.set i (some (enc rows', some (k + 2))) = S') : SpS S (sStore2 i fi fj fe) (Pnx S') := fun ρ z => by
  obtain ⟨k0, e0, hk0⟩ := z.2 i _ hx
  have hk0 : k0 = k + 2 := hk0 _ rfl
  subst hk0
  obtain ⟨r, e, a, b, c, _⟩ := h ρ z
  obtain ⟨q, e', g⟩ := hn ρ z
  obtain ⟨kq, eq, cq, rfl, _⟩ := rd1 g
  obtain ⟨q2, e2', g2⟩ := hn2 ρ z
  obtain ⟨kq2, eq2, cq2, rfl, _⟩ := rd1 g2
  obtain ⟨j, hj, ht⟩ := bnd ht
  obtain ⟨es, hes, ht⟩ := bnd ht
  obtain ⟨l, hl, ht⟩ := bnd ht
  cases ht
  have e0 : ρ[i]? = some (some (.lst (rows.map enc), k + 2)) := e0
  have := store2_eq (i := i) (fi := fi) (fj := fj) (f := fe) (ρ := ρ) (ds := rows.map enc) (es := es.map enc) (k := k) (r := r) (z := n) (z2 := n2) (j := j) (l := l) e0 e (by rw [a]; exact hs) e' (by rw [List.length_map]; exact hj) (by rw [List.getElem?_map, hes]; rfl) e2' (by rw [List.length_map]; exact hl)
  refine ⟨_, this, ?_⟩
  rw [← hS, a]
  have q : D.lst ((rows.map enc).set j (.lst ((es.map enc).set l (enc v)))) = enc (rows.set j (es.set l v)) := by
    show _ = D.lst _
    rw [List.map_set]
    show _ = D.lst ((rows.map enc).set j (.lst ((es.set l v).map enc)))
    rw [List.map_set]
  rw [q]
  exact z.set i fun m q => by cases q; rfl
def zPop {α : Type} (xs : List α) : Option α := xs.getLast?
theorem sp_pop {tg : FG} {vs : List Nat} {xs : List α} {v : α} {k : Nat} (hx : S[i]? = some (some (enc xs, some (k + 1)))) (hi : i ∉ vs) (ht : zPop xs = some v) (hg : BG tg vs v (S.set i (some (enc xs.dropLast, some 1))) S') : SpS S (sPop i tg vs) (Pnx S') := fun ρ z => by
  obtain ⟨k0, e0, hk0⟩ := z.2 i _ hx
  have hk0 : k0 = k + 1 := hk0 _ rfl
  subst hk0
  have e0 : ρ[i]? = some (some (.lst (xs.map enc), k + 1)) := e0
  obtain ⟨ρ2, g1, g2⟩ := hg _ (z.set i (d := enc xs.dropLast) (k := 1) fun m q => by cases q; rfl)
  refine ⟨ρ2, ?_, g2⟩
  unfold zPop at ht
  have hl : (xs.map enc).getLast? = some (enc v) := by rw [List.getLast?_map, ht]; rfl
  have hd : D.lst (xs.map enc).dropLast = enc xs.dropLast := by show _ = D.lst _; rw [List.map_dropLast]
  unfold sPop popOut
  simp only [e0, hl, hd, if_neg hi, g1]
theorem sp_rev {xs : List α} {k : Nat} (hx : S[i]? = some (some (enc xs, some (k + 1)))) (hS : S.set i (some (enc xs.reverse, some 1)) = S') : SpS S (sRev i) (Pnx S') := fun ρ z => by
  obtain ⟨k0, e0, hk0⟩ := z.2 i _ hx
  have hk0 : k0 = k + 1 := hk0 _ rfl
  subst hk0
  have e0 : ρ[i]? = some (some (.lst (xs.map enc), k + 1)) := e0
  refine ⟨_, by rw [ap_rev, e0, rev_1], ?_⟩
  rw [← hS]
  have : D.lst (xs.map enc).reverse = enc xs.reverse := by show _ = D.lst _; rw [List.map_reverse]
  rw [this]
  exact z.set i fun m q => by cases q; rfl
def zRem (xs : List Int) (v : Int) : Option (List Int) := if v ∈ xs then some (xs.erase v) else none
theorem sp_rem {xs ys : List Int} {v : Int} {k : Nat} (hx : S[i]? = some (some (enc xs, some (k + 1)))) (h : RE S fe v kk E C) (ht : zRem xs v = some ys) (hS : S.set i (some (enc ys, some 1)) = S') : SpS S (sRem i fe) (Pnx S') := fun ρ z => by
  obtain ⟨k0, e0, hk0⟩ := z.2 i _ hx
  have hk0 : k0 = k + 1 := hk0 _ rfl
  subst hk0
  have e0 : ρ[i]? = some (some (.lst (xs.map D.int), k + 1)) := e0
  obtain ⟨r, e, g⟩ := h ρ z
  obtain ⟨kq, eq, cq, rfl, _⟩ := rd1 g
  unfold zRem at ht
  split at ht
  · rename_i hm
    cases ht
    refine ⟨ρ.set i (some (.lst ((xs.erase v).map D.int), 1)), ?_, by rw [← hS]; exact z.set i fun m q => by cases q; rfl⟩
    unfold sRem ownL
    rw [e0]
    show stE fe (remOut i) ρ = _
    rw [stE_def e]
    show remOut i ⟨.int v, kq, eq, cq⟩ ρ = _
    unfold remOut
    simp only [e0, ints_map, if_pos hm]
  · cases ht
/-! loops -/
def zFor {α σ : Type} (f : α → σ → Option σ) : List α → σ → Option σ
  | [], s => some s
  | x :: xs, s => (f x s).bind fun s' => zFor f xs s'
def zForC {α σ τ : Type} (f : α → σ → Option (Ctl σ τ)) : List α → σ → Option (σ ⊕ τ)
  | [], s => some (.inl s)
  | x :: xs, s => (f x s).bind fun c => match c with
    | .go s' => zForC f xs s'
    | .stop s' => some (.inl s')
    | .ret r => some (.inr r)
variable {σ τ : Type} [Enc τ]
theorem forL_t {tg : FG} {vs : List Nat} {body : FS} {fm : α → σ → Option σ} {Sf : σ → Spec} : ∀ {xs : List α} {s s1 : σ} {ρ : Ev}, (∀ x s s', x ∈ xs → fm x s = some s' → ∃ S2, BG tg vs x (Sf s) S2 ∧ SpS S2 body (Pgo (Sf s'))) → Env ρ (Sf s) → zFor fm xs s = some s1 →
    ∃ ρ', forL tg vs body ρ (xs.map enc) = .nx ρ' ∧ Env ρ' (Sf s1)
  | [], s, s1, ρ, _, z, h => by cases h; exact ⟨ρ, rfl, z⟩
  | x :: xs, s, s1, ρ, hb, z, h => by
    unfold zFor at h
    obtain ⟨s', h1, h⟩ := bnd h
    obtain ⟨S2, b1, b2⟩ := hb x s s' List.mem_cons_self h1
    obtain ⟨ρ2, e2, z2⟩ := b1 ρ z
    obtain ⟨ρ3, e3, z3⟩ := b2 ρ2 z2
    obtain ⟨ρ', e4, z4⟩ := forL_t (xs := xs) (fun y u u' hy => hb y u u' (List.mem_cons_of_mem _ hy)) z3 h
    refine ⟨ρ', ?_, z4⟩
    rw [List.map_cons]
    unfold forL
    simp only [e2]
    rcases e3 with e3 | e3 <;> simp only [e3] <;> exact e4
theorem sp_for {it : FI} {tg : FG} {vs : List Nat} {body : FS} {xs : List α} {fm : α → σ → Option σ} {Sf : σ → Spec} {s0 s1 : σ} (hi : RI S it xs E C) (h0 : Sub (frzS (E ++ C) S) (Sf s0)) (hb : ∀ x s s', x ∈ xs → fm x s = some s' → ∃ S2, BG tg vs x (Sf s) S2 ∧ SpS S2 body (Pgo (Sf s'))) (h : zFor fm xs s0 = some s1) : SpS S (sFor it tg vs body) (Pnx (Sf s1)) := fun ρ z => by
  obtain ⟨w, e1, e2, e3, e4⟩ := hi ρ z
  obtain ⟨ρ', e5, z5⟩ := forL_t (tg := tg) (vs := vs) (body := body) (ρ := frzL (w.e ++ w.c) ρ) hb (h0.env (z.frz fun i hi => by
    rcases List.mem_append.mp hi with hi | hi
    · exact List.mem_append_left _ (e3 i hi)
    · exact List.mem_append_right _ (e4 i hi))) h
  exact ⟨ρ', by rw [ap_for, e1, st_ok, e2, e5], z5⟩
theorem forL_c {tg : FG} {vs : List Nat} {body : FS} {fm : α → σ → Option (Ctl σ τ)} {Sf : σ → Spec} : ∀ {xs : List α} {s : σ} {o : σ ⊕ τ} {ρ : Ev}, (∀ x s c, x ∈ xs → fm x s = some c → ∃ S2, BG tg vs x (Sf s) S2 ∧ SpS S2 body (Plp Sf kk c)) → Env ρ (Sf s) → zForC fm xs s = some o →
    match o with
    | .inl s1 => ∃ ρ', forL tg vs body ρ (xs.map enc) = .nx ρ' ∧ Env ρ' (Sf s1)
    | .inr r => Prt r kk (forL tg vs body ρ (xs.map enc))
  | [], s, o, ρ, _, z, h => by cases h; exact ⟨ρ, rfl, z⟩
  | x :: xs, s, o, ρ, hb, z, h => by
    unfold zForC at h
    obtain ⟨c, h1, h⟩ := bnd h
    obtain ⟨S2, b1, b2⟩ := hb x s c List.mem_cons_self h1
    obtain ⟨ρ2, e2, z2⟩ := b1 ρ z
    have b3 := b2 ρ2 z2
    rw [List.map_cons]
    unfold forL
    simp only [e2]
    cases c with
    | go s' =>
      obtain ⟨ρ3, e3, z3⟩ := b3
      have := forL_c (xs := xs) (fun y u u' hy => hb y u u' (List.mem_cons_of_mem _ hy)) z3 h
      rcases e3 with e3 | e3 <;> simp only [e3] <;> exact this
    | stop s' =>
      cases h
      obtain ⟨ρ3, e3, z3⟩ := b3
      simp only [e3]
      exact ⟨ρ3, rfl, z3⟩
    | ret r =>
      cases h
      obtain ⟨k, e3, hk⟩ := b3
      simp only [e3]
      exact ⟨k, rfl, hk⟩
theorem for_c {it : FI} {tg : FG} {vs : List Nat} {body : FS} {xs : List α} {fm : α → σ → Option (Ctl σ τ)} {Sf : σ → Spec} {s0 : σ} {o : σ ⊕ τ} (hi : RI S it xs E C) (h0 : Sub (frzS (E ++ C) S) (Sf s0)) (hb : ∀ x s c, x ∈ xs → fm x s = some c → ∃ S2, BG tg vs x (Sf s) S2 ∧ SpS S2 body (Plp Sf kk c)) (h : zForC fm xs s0 = some o) : SpS S (sFor it tg vs body) (match o with
    | .inl s1 => Pnx (Sf s1)
    | .inr r => Prt r kk) := fun ρ z => by
  obtain ⟨w, e1, e2, e3, e4⟩ := hi ρ z
  have key := forL_c (tg := tg) (vs := vs) (body := body) (kk := kk) (ρ := frzL (w.e ++ w.c) ρ) hb (h0.env (z.frz fun i hi => by
    rcases List.mem_append.mp hi with hi | hi
    · exact List.mem_append_left _ (e3 i hi)
    · exact List.mem_append_right _ (e4 i hi))) h
  rw [ap_for, e1, st_ok, e2]
  cases o with
  | inl s1 => exact key
  | inr r => exact key
def zWhile {σ : Type} (t : σ → Option Bool) (f : σ → Option σ) : Nat → σ → Option σ
  | 0, _ => none
  | n + 1, s => (t s).bind fun b => if b = true then (f s).bind fun s' => zWhile t f n s' else some s
def zWhileC {σ τ : Type} (t : σ → Option Bool) (f : σ → Option (Ctl σ τ)) : Nat → σ → Option (σ ⊕ τ)
  | 0, _ => none
  | n + 1, s => (t s).bind fun b => if b = true then (f s).bind fun c => match c with
    | .go s' => zWhileC t f n s'
    | .stop s' => some (.inl s')
    | .ret r => some (.inr r)
    else some (.inl s)
theorem whileL_t {body : FS} {tm : σ → Option Bool} {fm : σ → Option σ} {Sf : σ → Spec} (ht : ∀ s b, tm s = some b → RT (Sf s) t b) (hb : ∀ s s', tm s = some true → fm s = some s' → SpS (Sf s) body (Pgo (Sf s'))) : ∀ {n : Nat} {s s1 : σ} {ρ : Ev}, Env ρ (Sf s) → zWhile tm fm n s = some s1 →
    ∃ ρ', whileL t body n ρ = .nx ρ' ∧ Env ρ' (Sf s1)
  | 0, _, _, _, _, h => by cases h
  | n + 1, s, s1, ρ, z, h => by
    unfold zWhile at h
    obtain ⟨b, h1, h⟩ := bnd h
    have q := ht s b h1 ρ z
    unfold whileL
    rw [q]
    rcases tif h with ⟨rfl, h⟩ | ⟨rfl, h⟩
    · obtain ⟨s', h2, h⟩ := bnd h
      obtain ⟨ρ2, e2, z2⟩ := hb s s' h1 h2 ρ z
      obtain ⟨ρ', e3, z3⟩ := whileL_t ht hb z2 h
      refine ⟨ρ', ?_, z3⟩
      simp only [if_true]
      rcases e2 with e2 | e2 <;> simp only [e2] <;> exact e3
    · cases h
      exact ⟨ρ, rfl, z⟩
theorem sp_while {n : Nat} {body : FS} {tm : σ → Option Bool} {fm : σ → Option σ} {Sf : σ → Spec} {s0 s1 : σ} (h0 : Sub S (Sf s0)) (ht : ∀ s b, tm s = some b → RT (Sf s) t b) (hb : ∀ s s', tm s = some true → fm s = some s' → SpS (Sf s) body (Pgo (Sf s'))) (h : zWhile tm fm n s0 = some s1) : SpS S (sWhile n t body) (Pnx (Sf s1)) := fun ρ z => whileL_t ht hb (h0.env z) h
theorem whileL_c {body : FS} {tm : σ → Option Bool} {fm : σ → Option (Ctl σ τ)} {Sf : σ → Spec} (ht : ∀ s b, tm s = some b → RT (Sf s) t b) (hb : ∀ s c, tm s = some true → fm s = some c → SpS (Sf s) body (Plp Sf kk c)) : ∀ {n : Nat} {s : σ} {o : σ ⊕ τ} {ρ : Ev}, Env ρ (Sf s) → zWhileC tm fm n s = some o →
    match o with
    | .inl s1 => ∃ ρ', whileL t body n ρ = .nx ρ' ∧ Env ρ' (Sf s1)
    | .inr r => Prt r kk (whileL t body n ρ)
  | 0, _, _, _, _, h => by cases h
  | n + 1, s, o, ρ, z, h => by
    unfold zWhileC at h
    obtain ⟨b, h1, h⟩ := bnd h
    have q := ht s b h1 ρ z
    unfold whileL
    rw [q]
    rcases tif h with ⟨rfl, h⟩ | ⟨rfl, h⟩
    · obtain ⟨c, h2, h⟩ := bnd h
      have b3 := hb s c h1 h2 ρ z
      simp only [if_true]
      cases c with
      | go s' =>
        obtain ⟨ρ2, e2, z2⟩ := b3
        have := whileL_c ht hb z2 h
        rcases e2 with e2 | e2 <;> simp only [e2] <;> exact this
      | stop s' =>
        cases h
        obtain ⟨ρ3, e3, z3⟩ := b3
        simp only [e3]
        exact ⟨ρ3, rfl, z3⟩
      | ret r =>
        cases h
        obtain ⟨k, e3, hk⟩ := b3
        simp only [e3]
        exact ⟨k, rfl, hk⟩
    · cases h
      exact ⟨ρ, rfl, z⟩
theorem while_c {n : Nat} {body : FS} {tm : σ → Option Bool} {fm : σ → Option (Ctl σ τ)} {Sf : σ → Spec} {s0 : σ} {o : σ ⊕ τ} (h0 : Sub S (Sf s0)) (ht : ∀ s b, tm s = some b → RT (Sf s) t b) (hb : ∀ s c, tm s = some true → fm s = some c → SpS (Sf s) body (Plp Sf kk c)) (h : zWhileC tm fm n s0 = some o) : SpS S (sWhile n t body) (match o with
    | .inl s1 => Pnx (Sf s1)
    | .inr r => Prt r kk) := fun ρ z => by
  have := whileL_c ht hb (n := n) (kk := kk) (h0.env z) h
  cases o with
  | inl s1 => exact this
  | inr r => exact this
theorem sp_inl {s1 : σ} {Sf : σ → Spec} (h : SpS S f (match (Sum.inl s1 : σ ⊕ τ) with
    | .inl s1 => Pnx (Sf s1)
    | .inr r => Prt r kk)) : SpS S f (Pnx (Sf s1)) := h
theorem sp_inr {r : τ} {Sf : σ → Spec} (h : SpS S f (match (Sum.inr r : σ ⊕ τ) with
    | .inl s1 => Pnx (Sf s1)
    | .inr r => Prt r kk)) : SpS S f (Prt r kk) := h
/-! a def -/
theorem env_fn {ds : List D} {n : Nat} : Env (ds.map (fun d => some (d, 0)) ++ List.replicate n none) (ds.map (fun d => some (d, some 0)) ++ List.replicate n none) := by
  induction ds with
  | nil =>
    refine ⟨by simp, fun i x h => ?_⟩
    rw [List.map_nil, List.nil_append, List.getElem?_replicate] at h
    split at h <;> cases h
  | cons d ds ih =>
    refine ⟨by simp, fun i x h => ?_⟩
    cases i with
    | zero =>
      have : (d, some 0) = x := by simpa using h
      subst this
      exact ⟨0, rfl, fun m q => by cases q; rfl⟩
    | succ i =>
      have := ih.2 i x (by simpa using h)
      simpa using this
theorem dr_fn {N n : Nat} {body : FS} {ds : List D} {S0 : Spec} {v : τ} (hl : ds.length = n) (hS : ds.map (fun d => some (d, some 0)) ++ List.replicate (N - n) none = S0) (h : SpS S0 body (Prt v kk)) : DR (dsem N n body ds) (enc v) kk := by
  rw [ds_eq hl]
  obtain ⟨k, e, hk⟩ := h _ (hS ▸ env_fn)
  exact ⟨k, by rw [e]; rfl, hk⟩
theorem dr_fnN {N n : Nat} {body : FS} {ds : List D} {S0 : Spec} {v : τ} (hl : ds.length = n) (hS : ds.map (fun d => some (d, some 0)) ++ List.replicate (N - n) none = S0) (h : SpS S0 (sSeq body sRetN) (Prt v kk)) : DR (dsem N n body ds) (enc v) kk := by
  rw [ds_eq hl]
  obtain ⟨k, e, hk⟩ := h _ (hS ▸ env_fn)
  rw [ap_seq] at e
  refine ⟨k, ?_, hk⟩
  revert e
  generalize body _ = o
  intro e
  cases o with
  | nx ρ => rw [th_nx, ap_retN] at e; rw [dk_nx]; injection e with e1 e2; rw [e1, e2]
  | rt d k => rw [th_rt] at e; rw [e, dk_rt]
  | bk ρ => rw [th_bk] at e; cases e
  | ct ρ => rw [th_ct] at e; cases e
  | ex x ρ => exact nomatch e
  | bad => exact nomatch e
theorem dr_any {o : Res (D × Nat)} {d : D} (h : DR o d kk) : DR o d none := by
  obtain ⟨k, e, _⟩ := h
  exact ⟨k, e, fun m q => by cases q⟩
/-- a tuple of own lists moves out -/
theorem sp_retT {m : Nat} {is : List Nat} {v : τ} {ds : List D} (hv : enc v = .tup ds) (hn : is.Nodup) (hl : is.length ≤ 1000) (h : ∀ ρ, Env ρ S → ∃ ps, getS ρ is = some ps ∧ ps.map (·.1) = ds ∧ ps.length = is.length ∧ ∀ p ∈ ps, scal p.1 = true ∨ p.2 = m + 1) : SpS S (sRetT m is) (Prt v (some (m + 2))) := fun ρ z => by
  obtain ⟨ps, e, a, l, b⟩ := h ρ z
  refine ⟨m + 2, ?_, fun q hq => by cases hq; rfl⟩
  unfold sRetT
  rw [e]
  unfold retTK
  rw [hv, ← a]
  refine if_pos ⟨hn, by rw [l]; exact szn _ hl, List.all_eq_true.mpr fun p hp => ?_⟩
  rcases b p hp with q | q <;> simp [q]
theorem gs_nil {ρ : Ev} {m : Nat} : ∃ ps, getS ρ [] = some ps ∧ ps.map (·.1) = [] ∧ ps.length = ([] : List Nat).length ∧ ∀ p ∈ ps, scal p.1 = true ∨ p.2 = m + 1 := ⟨[], rfl, rfl, rfl, fun p h => by cases h⟩
theorem gs_s {ρ : Ev} {m : Nat} [EncS α] {v : α} {is : List Nat} {ds : List D} (z : Env ρ S) (h : S[i]? = some (some (enc v, kk))) (t : ∃ ps, getS ρ is = some ps ∧ ps.map (·.1) = ds ∧ ps.length = is.length ∧ ∀ p ∈ ps, scal p.1 = true ∨ p.2 = m + 1) : ∃ ps, getS ρ (i :: is) = some ps ∧ ps.map (·.1) = enc v :: ds ∧ ps.length = (i :: is).length ∧ ∀ p ∈ ps, scal p.1 = true ∨ p.2 = m + 1 := by
  obtain ⟨ps, e, a, l, b⟩ := t
  obtain ⟨k, e0, _⟩ := z.2 i _ h
  refine ⟨(enc v, k) :: ps, by unfold getS; rw [e0, e]; rfl, by rw [List.map_cons, a], by simp [l], fun p hp => ?_⟩
  rcases List.mem_cons.mp hp with rfl | hp
  · exact .inl (EncS.sc v)
  · exact b p hp
theorem gs_k {ρ : Ev} {m : Nat} {v : α} {is : List Nat} {ds : List D} (z : Env ρ S) (h : S[i]? = some (some (enc v, some (m + 1)))) (t : ∃ ps, getS ρ is = some ps ∧ ps.map (·.1) = ds ∧ ps.length = is.length ∧ ∀ p ∈ ps, scal p.1 = true ∨ p.2 = m + 1) : ∃ ps, getS ρ (i :: is) = some ps ∧ ps.map (·.1) = enc v :: ds ∧ ps.length = (i :: is).length ∧ ∀ p ∈ ps, scal p.1 = true ∨ p.2 = m + 1 := by
  obtain ⟨ps, e, a, l, b⟩ := t
  obtain ⟨k, e0, hk⟩ := z.2 i _ h
  refine ⟨(enc v, k) :: ps, by unfold getS; rw [e0, e]; rfl, by rw [List.map_cons, a], by simp [l], fun p hp => ?_⟩
  rcases List.mem_cons.mp hp with rfl | hp
  · exact .inr (hk _ rfl)
  · exact b p hp
end
end PyL

namespace PyL
open PySem PySem.Spec L2
open Enc (enc)
set_option autoImplicit false
theorem inj_to {α : Type} {P : α → Prop} {a b : α} (h : some a = some b) (k : P a) : P b := by cases h; exact k
instance : EncQ Str := ⟨fun a b => by
  show (a == b) = decide (a = b)
  by_cases h : a = b
  · rw [decide_eq_true h, h]; simp
  · rw [decide_eq_false h]; simp [h]⟩
theorem deq_nonL {d : D} (h : d = .non → False) : deq .non d = false := by cases d <;> first | rfl | exact (h rfl).elim
theorem deq_nonR {d : D} (h : d = .non → False) : deq d .non = false := by cases d <;> first | rfl | exact (h rfl).elim
instance {α : Type} [Enc α] [DecidableEq α] [EncQ α] [EncN α] : EncQ (Option α) := ⟨fun a b => by
  cases a with
  | none => cases b with
    | none => rfl
    | some y => show deq .non (enc y) = _; rw [deq_nonL (EncN.nn y)]; rfl
  | some x => cases b with
    | none => show deq (enc x) .non = _; rw [deq_nonR (EncN.nn x)]; rfl
    | some y =>
      show deq (enc x) (enc y) = _
      rw [EncQ.ok]
      by_cases h : x = y <;> simp [h]⟩
section
variable {S S' S2 S3 : Spec} {f g fa fb fc : FE} {i : Nat} {ka kb kc kk : Option Nat} {Ea Ca Eb Cb Ec Cc E C Ei Ci : List Nat} {α β γ δ : Type} [Enc α] [Enc β] [Enc γ] [Enc δ] {a b : Int}
theorem rt_to {t : FT} {p q : Bool} (h : RT S t p) (e : some p = some q) : RT S t q := by cases e; exact h
theorem ri_tup {t : α} {xs : List β} (ht : enc t = .tup (xs.map enc)) (ha : RE S fa t ka E C) : RI S (fSeqI fa) xs E C := fun ρ z => by
  obtain ⟨ra, ea, g1⟩ := ha ρ z
  obtain ⟨k1, e1, c1, rfl, _, h1, h2⟩ := rd1 g1
  exact ⟨⟨xs.map enc, e1, c1⟩, by rw [ap_seqI, ea, bd_ok, ht]; rfl, rfl, h1, h2⟩
theorem re_isNu {neg : Bool} (ha : RE S fa () ka Ea Ca) : RE S (fIsN neg fa) (!neg) (some 0) [] [] := re_un ha fun ra g1 => by
  obtain ⟨k1, e1, c1, rfl, _⟩ := rd1 g1
  exact ⟨_, rfl, gv0⟩
section
variable {dep : Nat} {it : FI} {tg : FG} {tt : FT} {te : FE} {vs : List Nat} {xs : List α} {ys zs : List β} {Sx : α → Spec}
theorem re_pF [EncF β] {p : α → Bool} {h : α → β} (hd : EncF.dp β ≤ dep) (hk : (∀ y : β, scal (enc y) = true) ∨ kk = some dep) (hi : RI S it xs Ei Ci) (h1 : ∀ x, BG tg vs x (frzS Ci S) (Sx x)) (h2 : ∀ x, RT (Sx x) tt (p x)) (h3 : ∀ x, RE (Sx x) te (h x) kk E C) (e : zLst ((xs.filter p).map h) = some zs) : RE S (fComp dep it tg tt te vs) zs (some (dep + 1)) [] [] :=
  re_cF hd hk hi (hb_p (it := it) h1 h2 h3) zFilM_pure e
theorem re_pF' [EncF β] {h : α → β} (hd : EncF.dp β ≤ dep) (hk : (∀ y : β, scal (enc y) = true) ∨ kk = some dep) (hi : RI S it xs Ei Ci) (h1 : ∀ x, BG tg vs x (frzS Ci S) (Sx x)) (h3 : ∀ x, RE (Sx x) te (h x) kk E C) (e : zLst (xs.map h) = some zs) : RE S (fComp dep it tg fYes te vs) zs (some (dep + 1)) [] [] :=
  re_pF (p := fun _ => true) hd hk hi h1 (fun _ => re_yes) h3 (by rw [filter_tt']; exact e)
theorem re_pE {p : α → Bool} {h : α → β} (hi : RI S it xs Ei Ci) (h1 : ∀ x, BG tg vs x (frzS Ci S) (Sx x)) (h2 : ∀ x, RT (Sx x) tt (p x)) (h3 : ∀ x, RE (Sx x) te (h x) kk E C) (e : zLst ((xs.filter p).map h) = some zs) : RE S (fComp 0 it tg tt te vs) zs (some 1) (Ci ++ E) (Ci ++ E) :=
  re_cE hi (hb_p (it := it) h1 h2 h3) zFilM_pure e
theorem re_pE' {h : α → β} (hi : RI S it xs Ei Ci) (h1 : ∀ x, BG tg vs x (frzS Ci S) (Sx x)) (h3 : ∀ x, RE (Sx x) te (h x) kk E C) (e : zLst (xs.map h) = some zs) : RE S (fComp 0 it tg fYes te vs) zs (some 1) (Ci ++ E) (Ci ++ E) :=
  re_pE (p := fun _ => true) hi h1 (fun _ => re_yes) h3 (by rw [filter_tt']; exact e)
theorem re_mF [EncF β] {h : α → Option β} (hd : EncF.dp β ≤ dep) (hk : (∀ y : β, scal (enc y) = true) ∨ kk = some dep) (hi : RI S it xs Ei Ci) (h1 : ∀ x, BG tg vs x (frzS Ci S) (Sx x)) (h3 : ∀ x y, h x = some y → RE (Sx x) te y kk E C) (e1 : zMapM h xs = some ys) (e : zLst ys = some zs) : RE S (fComp dep it tg fYes te vs) zs (some (dep + 1)) [] [] :=
  re_cF hd hk hi (hb_m h1 (fun _ => re_yes) h3) (by rw [zFilM_map]; exact e1) e
theorem re_mE {h : α → Option β} (hi : RI S it xs Ei Ci) (h1 : ∀ x, BG tg vs x (frzS Ci S) (Sx x)) (h3 : ∀ x y, h x = some y → RE (Sx x) te y kk E C) (e1 : zMapM h xs = some ys) (e : zLst ys = some zs) : RE S (fComp 0 it tg fYes te vs) zs (some 1) (Ci ++ E) (Ci ++ E) :=
  re_cE hi (hb_m h1 (fun _ => re_yes) h3) (by rw [zFilM_map]; exact e1) e
theorem re_fF [EncF β] {t : α → Option Bool} {h : α → Option β} (hd : EncF.dp β ≤ dep) (hk : (∀ y : β, scal (enc y) = true) ∨ kk = some dep) (hi : RI S it xs Ei Ci) (h1 : ∀ x, BG tg vs x (frzS Ci S) (Sx x)) (h2 : ∀ x b, t x = some b → RT (Sx x) tt b) (h3 : ∀ x y, h x = some y → RE (Sx x) te y kk E C) (e1 : zFilM (fun x => zSel (t x) (h x)) xs = some ys) (e : zLst ys = some zs) : RE S (fComp dep it tg tt te vs) zs (some (dep + 1)) [] [] :=
  re_cF hd hk hi (hb_f h1 h2 h3) e1 e
theorem re_fE {t : α → Option Bool} {h : α → Option β} (hi : RI S it xs Ei Ci) (h1 : ∀ x, BG tg vs x (frzS Ci S) (Sx x)) (h2 : ∀ x b, t x = some b → RT (Sx x) tt b) (h3 : ∀ x y, h x = some y → RE (Sx x) te y kk E C) (e1 : zFilM (fun x => zSel (t x) (h x)) xs = some ys) (e : zLst ys = some zs) : RE S (fComp 0 it tg tt te vs) zs (some 1) (Ci ++ E) (Ci ++ E) :=
  re_cE hi (hb_f h1 h2 h3) e1 e
end
variable {σ τ : Type} [Enc τ] {P : Out → Prop} {fg : FS}
theorem sp_forCs {it : FI} {tg : FG} {vs : List Nat} {body : FS} {xs : List α} {fm : α → σ → Option (Ctl σ τ)} {Sf : σ → Spec} {s0 : σ} {o : σ ⊕ τ} (hi : RI S it xs E C) (h0 : Sub (frzS (E ++ C) S) (Sf s0)) (hb : ∀ x s c, x ∈ xs → fm x s = some c → ∃ S2, BG tg vs x (Sf s) S2 ∧ SpS S2 body (Plp Sf kk c)) (h : zForC fm xs s0 = some o)
    (k1 : ∀ s1, o = .inl s1 → SpS (Sf s1) fg P) (k2 : ∀ r, o = .inr r → ∀ w, Prt r kk w → P w) : SpS S (sSeq (sFor it tg vs body) fg) P := fun ρ z => by
  have q := for_c (kk := kk) hi h0 hb h
  cases o with
  | inl s1 => exact sp_seq (S' := Sf s1) q (k1 s1 rfl) ρ z
  | inr r =>
    have q : SpS S _ (Prt r kk) := q
    exact k2 r rfl _ (sp_seqR q ρ z)
theorem sp_forCl {it : FI} {tg : FG} {vs : List Nat} {body : FS} {xs : List α} {fm : α → σ → Option (Ctl σ τ)} {Sf : σ → Spec} {s0 : σ} {o : σ ⊕ τ} (hi : RI S it xs E C) (h0 : Sub (frzS (E ++ C) S) (Sf s0)) (hb : ∀ x s c, x ∈ xs → fm x s = some c → ∃ S2, BG tg vs x (Sf s) S2 ∧ SpS S2 body (Plp Sf kk c)) (h : zForC fm xs s0 = some o)
    (k1 : ∀ s1, o = .inl s1 → ∀ ρ', Env ρ' (Sf s1) → P (.nx ρ')) (k2 : ∀ r, o = .inr r → ∀ w, Prt r kk w → P w) : SpS S (sFor it tg vs body) P := fun ρ z => by
  have q := for_c (kk := kk) hi h0 hb h ρ z
  cases o with
  | inl s1 =>
    obtain ⟨ρ', e, z'⟩ := q
    rw [e]
    exact k1 s1 rfl ρ' z'
  | inr r => exact k2 r rfl _ q
theorem sp_whileCs {t : FT} {n : Nat} {body : FS} {tm : σ → Option Bool} {fm : σ → Option (Ctl σ τ)} {Sf : σ → Spec} {s0 : σ} {o : σ ⊕ τ} (h0 : Sub S (Sf s0)) (ht : ∀ s b, tm s = some b → RT (Sf s) t b) (hb : ∀ s c, tm s = some true → fm s = some c → SpS (Sf s) body (Plp Sf kk c)) (h : zWhileC tm fm n s0 = some o)
    (k1 : ∀ s1, o = .inl s1 → SpS (Sf s1) fg P) (k2 : ∀ r, o = .inr r → ∀ w, Prt r kk w → P w) : SpS S (sSeq (sWhile n t body) fg) P := fun ρ z => by
  have q := while_c (kk := kk) h0 ht hb h
  cases o with
  | inl s1 => exact sp_seq (S' := Sf s1) q (k1 s1 rfl) ρ z
  | inr r =>
    have q : SpS S _ (Prt r kk) := q
    exact k2 r rfl _ (sp_seqR q ρ z)
theorem sp_whileCl {t : FT} {n : Nat} {body : FS} {tm : σ → Option Bool} {fm : σ → Option (Ctl σ τ)} {Sf : σ → Spec} {s0 : σ} {o : σ ⊕ τ} (h0 : Sub S (Sf s0)) (ht : ∀ s b, tm s = some b → RT (Sf s) t b) (hb : ∀ s c, tm s = some true → fm s = some c → SpS (Sf s) body (Plp Sf kk c)) (h : zWhileC tm fm n s0 = some o)
    (k1 : ∀ s1, o = .inl s1 → ∀ ρ', Env ρ' (Sf s1) → P (.nx ρ')) (k2 : ∀ r, o = .inr r → ∀ w, Prt r kk w → P w) : SpS S (sWhile n t body) P := fun ρ z => by
  have q := while_c (kk := kk) h0 ht hb h ρ z
  cases o with
  | inl s1 =>
    obtain ⟨ρ', e, z'⟩ := q
    rw [e]
    exact k1 s1 rfl ρ' z'
  | inr r => exact k2 r rfl _ q
theorem plp_c {Sf : σ → Spec} {s : σ} (h : Sub S (Sf s)) : ∀ ρ', Env ρ' S → Plp (τ := τ) Sf kk (.go s) (.nx ρ') := fun ρ' z => ⟨ρ', .inl rfl, h.env z⟩
theorem sp_cntC {Sf : σ → Spec} {s : σ} (h : Sub S (Sf s)) : SpS S sCnt (Plp (τ := τ) Sf kk (.go s)) := fun ρ z => ⟨ρ, .inr rfl, h.env z⟩
theorem sp_cntCS {Sf : σ → Spec} {s : σ} (h : Sub S (Sf s)) : SpS S (sSeq sCnt fg) (Plp (τ := τ) Sf kk (.go s)) := fun ρ z => ⟨ρ, .inr rfl, h.env z⟩
end
instance : Enc Empty := ⟨fun e => nomatch e⟩
theorem law_sp2 {K : PySem.W.Frag} {H : Hp} {a : Addr} {ns : List Int} {sem : DS} {E : XK} (hS : SqL K H a (ns.map V.int)) (h : ∀ d, ScrD K ns d → ∃ k, sem [d] = .ok (.bl true, k)) : spD 1 sem [.ref a] H (fun v _ => v = .bl true) E := by
  have key : ∃ d, ScrD K ns d ∧ Rp (fun _ => False) H d (.ref a) := by
    rcases hS with (hS | ⟨o, hS⟩) | hS
    · exact ⟨_, .inl rfl, a, _, rfl, id, hS, RpL.ints ns⟩
    · exact ⟨_, .inr rfl, a, rfl, .inl ⟨id, o, hS⟩⟩
    · exact ⟨_, .inr rfl, a, rfl, .inr hS⟩
  obtain ⟨d, hd, r⟩ := key
  refine ⟨fun _ => False, [d], rfl, ⟨_, _, rfl, r, rfl⟩, fun _ z => z.elim, ?_⟩
  obtain ⟨k, e⟩ := h d hd
  rw [e]
  intro v H' fp _ _ o
  cases k with
  | zero => exact o.1
  | succ k => exact o.1
end PyL

namespace PyL
open PySem PySem.Spec L2
open Enc (enc)
set_option autoImplicit false
/-! ### lists of unlike things, of fixed length -/
structure H1 (α : Type) where
  a : α
deriving DecidableEq
structure H2 (α β : Type) where
  a : α
  b : β
deriving DecidableEq
structure H3 (α β γ : Type) where
  a : α
  b : β
  c : γ
deriving DecidableEq
structure H4 (α β γ δ : Type) where
  a : α
  b : β
  c : γ
  d : δ
deriving DecidableEq
section
variable {α β γ δ : Type} [Enc α] [Enc β] [Enc γ] [Enc δ]
instance : Enc (H1 α) := ⟨fun t => .lst [enc t.a]⟩
instance : Enc (H2 α β) := ⟨fun t => .lst [enc t.a, enc t.b]⟩
instance : Enc (H3 α β γ) := ⟨fun t => .lst [enc t.a, enc t.b, enc t.c]⟩
instance : Enc (H4 α β γ δ) := ⟨fun t => .lst [enc t.a, enc t.b, enc t.c, enc t.d]⟩
instance : EncN (H2 α β) := ⟨fun _ h => by cases h⟩
instance : EncN (H3 α β γ) := ⟨fun _ h => by cases h⟩
instance : EncN (H4 α β γ δ) := ⟨fun _ h => by cases h⟩
instance : EncI (H2 α β) := ⟨fun T => "list" == T, fun a T => ⟨rfl, rfl⟩⟩
instance : EncI (H3 α β γ) := ⟨fun T => "list" == T, fun a T => ⟨rfl, rfl⟩⟩
instance : EncI (H4 α β γ δ) := ⟨fun T => "list" == T, fun a T => ⟨rfl, rfl⟩⟩
instance [EncF α] [EncF β] : EncF (H2 α β) := ⟨max (EncF.dp α) (EncF.dp β) + 1, fun t => af_lst fun d hd => by
  simp only [List.mem_cons, List.not_mem_nil, or_false] at hd
  rcases hd with rfl | rfl
  · exact af_up _ (EncF.ok t.a) (by omega)
  · exact af_up _ (EncF.ok t.b) (by omega)⟩
instance [EncF α] [EncF β] [EncF γ] : EncF (H3 α β γ) := ⟨max (EncF.dp α) (max (EncF.dp β) (EncF.dp γ)) + 1, fun t => af_lst fun d hd => by
  simp only [List.mem_cons, List.not_mem_nil, or_false] at hd
  rcases hd with rfl | rfl | rfl
  · exact af_up _ (EncF.ok t.a) (by omega)
  · exact af_up _ (EncF.ok t.b) (by omega)
  · exact af_up _ (EncF.ok t.c) (by omega)⟩
instance [EncF α] [EncF β] [EncF γ] [EncF δ] : EncF (H4 α β γ δ) := ⟨max (max (EncF.dp α) (EncF.dp β)) (max (EncF.dp γ) (EncF.dp δ)) + 1, fun t => af_lst fun d hd => by
  simp only [List.mem_cons, List.not_mem_nil, or_false] at hd
  rcases hd with rfl | rfl | rfl | rfl
  · exact af_up _ (EncF.ok t.a) (by omega)
  · exact af_up _ (EncF.ok t.b) (by omega)
  · exact af_up _ (EncF.ok t.c) (by omega)
  · exact af_up _ (EncF.ok t.d) (by omega)⟩
instance [EncP α] [EncP β] : EncP (H2 α β) := ⟨max (EncP.pd α) (EncP.pd β) + 1, fun t => pln_lst fun d hd => by
  simp only [List.mem_cons, List.not_mem_nil, or_false] at hd
  rcases hd with rfl | rfl
  · exact pln_up _ (EncP.ok t.a) (by omega)
  · exact pln_up _ (EncP.ok t.b) (by omega)⟩
instance [EncP α] [EncP β] [EncP γ] : EncP (H3 α β γ) := ⟨max (EncP.pd α) (max (EncP.pd β) (EncP.pd γ)) + 1, fun t => pln_lst fun d hd => by
  simp only [List.mem_cons, List.not_mem_nil, or_false] at hd
  rcases hd with rfl | rfl | rfl
  · exact pln_up _ (EncP.ok t.a) (by omega)
  · exact pln_up _ (EncP.ok t.b) (by omega)
  · exact pln_up _ (EncP.ok t.c) (by omega)⟩
instance [EncP α] [EncP β] [EncP γ] [EncP δ] : EncP (H4 α β γ δ) := ⟨max (max (EncP.pd α) (EncP.pd β)) (max (EncP.pd γ) (EncP.pd δ)) + 1, fun t => pln_lst fun d hd => by
  simp only [List.mem_cons, List.not_mem_nil, or_false] at hd
  rcases hd with rfl | rfl | rfl | rfl
  · exact pln_up _ (EncP.ok t.a) (by omega)
  · exact pln_up _ (EncP.ok t.b) (by omega)
  · exact pln_up _ (EncP.ok t.c) (by omega)
  · exact pln_up _ (EncP.ok t.d) (by omega)⟩
variable [DecidableEq α] [DecidableEq β] [DecidableEq γ] [DecidableEq δ]
instance [EncQ α] [EncQ β] : EncQ (H2 α β) := ⟨fun ⟨a, b⟩ ⟨a', b'⟩ => by
  show (deq (enc a) (enc a') && (deq (enc b) (enc b') && true)) = _
  rw [EncQ.ok, EncQ.ok]
  by_cases h1 : a = a' <;> by_cases h2 : b = b' <;> simp [h1, h2]⟩
instance [EncQ α] [EncQ β] [EncQ γ] : EncQ (H3 α β γ) := ⟨fun ⟨a, b, c⟩ ⟨a', b', c'⟩ => by
  show (deq (enc a) (enc a') && (deq (enc b) (enc b') && (deq (enc c) (enc c') && true))) = _
  rw [EncQ.ok, EncQ.ok, EncQ.ok]
  by_cases h1 : a = a' <;> by_cases h2 : b = b' <;> by_cases h3 : c = c' <;> simp [h1, h2, h3]⟩
instance [EncQ α] [EncQ β] [EncQ γ] [EncQ δ] : EncQ (H4 α β γ δ) := ⟨fun ⟨a, b, c, d⟩ ⟨a', b', c', d'⟩ => by
  show (deq (enc a) (enc a') && (deq (enc b) (enc b') && (deq (enc c) (enc c') && (deq (enc d) (enc d') && true)))) = _
  rw [EncQ.ok, EncQ.ok, EncQ.ok, EncQ.ok]
  by_cases h1 : a = a' <;> by_cases h2 : b = b' <;> by_cases h3 : c = c' <;> by_cases h4 : d = d' <;> simp [h1, h2, h3, h4]⟩
end
section
variable {S S' S2 S3 : Spec} {f g fa fb fc : FE} {i : Nat} {ka kb kc kk : Option Nat} {Ea Ca Eb Cb Ec Cc E C Ei Ci : List Nat} {α β γ δ : Type} [Enc α] [Enc β] [Enc γ] [Enc δ] {a b : Int}
/-- h[j] of a list of unlike things -/
theorem re_hixF [EncF β] {t : α} {ds : List D} {i : Int} {v : β} (ht : enc t = .lst ds) (h0 : EncF.dp β = 0) (h : atI ds i = some (enc v)) (ha : RE S fa t ka Ea Ca) : RE S (fBin gIx fa (fC (.int i))) v (some 0) [] [] :=
  re_bin ha (re_c (x := i) rfl) fun ra rb g1 g2 => by
    obtain ⟨k1, e1, c1, rfl, _⟩ := rd1 g1
    obtain ⟨k2, e2, c2, rfl, _⟩ := rd1 g2
    refine ⟨_, ?_, gv0⟩
    rw [ht]
    show gIx ⟨.lst ds, k1, e1, c1⟩ ⟨.int i, k2, e2, c2⟩ = _
    rw [g_ixL, h]
    show Res.ok (itemR _ (enc v)) = _
    unfold itemR
    rw [if_pos (by have := EncF.ok v; rwa [h0] at this)]; rfl
theorem re_hixE {t : α} {ds : List D} {i : Int} {v : β} (ht : enc t = .lst ds) (h : atI ds i = some (enc v)) (ha : RE S fa t ka Ea Ca) : RE S (fBin gIx fa (fC (.int i))) v (some 0) Ca Ca :=
  re_bin ha (re_c (x := i) rfl) fun ra rb g1 g2 => by
    obtain ⟨k1, e1, c1, rfl, _, _, hc⟩ := rd1 g1
    obtain ⟨k2, e2, c2, rfl, _⟩ := rd1 g2
    rw [ht]
    have e : gIx ⟨.lst ds, k1, e1, c1⟩ ⟨.int i, k2, e2, c2⟩ = .ok (itemR ⟨.non, 0, [], c1⟩ (enc v)) := by
      rw [g_ixL, h]; rfl
    refine ⟨_, e, ?_⟩
    unfold itemR
    split
    · exact ⟨rfl, fun m z => by cases z; rfl, fun j hj => (by cases hj), fun j hj => (by cases hj)⟩
    · exact ⟨rfl, fun m z => by cases z; rfl, hc, hc⟩
/-- t[i] of a tuple of like things -/
theorem re_tixV [EncF β] {t : α} {xs : List β} {i : Int} {v : β} (ht : enc t = .tup (xs.map enc)) (h0 : EncF.dp β = 0) (ha : RE S fa t ka Ea Ca) (hb : RE S fb i kb Eb Cb) (h : atI xs i = some v) : RE S (fBin gIx fa fb) v (some 0) [] [] :=
  re_bin ha hb fun ra rb g1 g2 => by
    obtain ⟨k1, e1, c1, rfl, _⟩ := rd1 g1
    obtain ⟨k2, e2, c2, rfl, _⟩ := rd1 g2
    refine ⟨_, ?_, gv0⟩
    rw [ht]
    show gIx ⟨.tup (xs.map enc), k1, e1, c1⟩ ⟨.int i, k2, e2, c2⟩ = _
    rw [g_ixT, atI_map, h]
    show Res.ok (itemR _ (enc v)) = _
    unfold itemR
    rw [if_pos (by have := EncF.ok v; rwa [h0] at this)]; rfl
/-- xs.index(x) -/
class EncX (α : Type) [Enc α] : Prop where
  ok : ∀ a : α, noS (enc a) = true
instance : EncX Int := ⟨fun _ => rfl⟩
instance : EncX Bool := ⟨fun _ => rfl⟩
theorem noSL_of {ds : List D} (h : ∀ d ∈ ds, noS d = true) : noSL ds = true := by
  induction ds with
  | nil => rfl
  | cons d ds ih => simp only [noSL, Bool.and_eq_true]; exact ⟨h d List.mem_cons_self, ih fun d hd => h d (List.mem_cons_of_mem _ hd)⟩
instance [EncX α] : EncX (List α) := ⟨fun xs => noSL_of fun d hd => by obtain ⟨x, _, rfl⟩ := List.mem_map.mp hd; exact EncX.ok x⟩
instance [EncX α] [EncX β] : EncX (T2 α β) := ⟨fun t => noSL_of fun d hd => by
  simp only [List.mem_cons, List.not_mem_nil, or_false] at hd
  rcases hd with rfl | rfl
  · exact EncX.ok t.a
  · exact EncX.ok t.b⟩
instance [EncX α] [EncX β] [EncX γ] : EncX (T3 α β γ) := ⟨fun t => noSL_of fun d hd => by
  simp only [List.mem_cons, List.not_mem_nil, or_false] at hd
  rcases hd with rfl | rfl | rfl
  · exact EncX.ok t.a
  · exact EncX.ok t.b
  · exact EncX.ok t.c⟩
def zIndex {α : Type} [DecidableEq α] (xs : List α) (x : α) : Option Int := (xs.findIdx? fun y => decide (y = x)).map fun j : Nat => (j : Int)
theorem fidx_enc [DecidableEq α] [EncQ α] {x : α} : ∀ {xs : List α}, fidx (enc x) (xs.map enc) = xs.findIdx? fun y => decide (y = x)
  | [] => rfl
  | y :: ys => by
    rw [List.map_cons, List.findIdx?_cons]
    unfold fidx
    rw [EncQ.ok, fidx_enc (xs := ys)]
    first | done | rfl | (by_cases h : y = x <;> simp [h])
theorem re_index [DecidableEq α] [EncQ α] [EncP α] [EncX α] {xs : List α} {x : α} {v : Int} (hp : EncP.pd α ≤ 60) (ha : RE S fa xs ka Ea Ca) (hb : RE S fb x kb Eb Cb) (h : zIndex xs x = some v) : RE S (fIndex fa fb) v (some 0) [] [] := fun ρ z => by
  obtain ⟨ra, ea, g1⟩ := ha ρ z
  obtain ⟨rb, eb, g2⟩ := hb ρ z
  obtain ⟨k1, e1, c1, rfl, _⟩ := rd1 g1
  obtain ⟨k2, e2, c2, rfl, _⟩ := rd1 g2
  unfold zIndex at h
  cases q : xs.findIdx? (fun y => decide (y = x)) with
  | none => rw [q] at h; cases h
  | some j =>
    rw [q] at h
    cases h
    refine ⟨⟨.int (j : Int), 0, [], []⟩, ?_, gv0⟩
    rw [ap_index, ea, bd_ok]
    show (if isL ⟨.lst (xs.map enc), k1, e1, c1⟩ = true then _ else _) = _
    rw [if_pos (by rfl), eb, bd_ok]
    show gIndex ⟨.lst (xs.map enc), k1, e1, c1⟩ ⟨enc x, k2, e2, c2⟩ = _
    unfold gIndex
    simp only
    rw [if_pos (by
      simp only [Bool.and_eq_true]
      exact ⟨⟨⟨pln_up _ (EncP.ok x) hp, EncX.ok x⟩, plnL_of fun d hd => by obtain ⟨y, _, rfl⟩ := List.mem_map.mp hd; exact pln_up _ (EncP.ok y) hp⟩, noSL_of fun d hd => by obtain ⟨y, _, rfl⟩ := List.mem_map.mp hd; exact EncX.ok y⟩), fidx_enc, q]
    rfl
theorem prt_conv {f : FS} {v : α} {w : β} (e : enc v = enc w) (h : SpS S f (Prt v kk)) : SpS S f (Prt w kk) := fun ρ z => by
  obtain ⟨k, q, hk⟩ := h ρ z
  exact ⟨k, by rw [← e]; exact q, hk⟩
/-- t[j].append(v), t a tuple at a slot, its j-th part one's own list -/
theorem sp_appT {fe : FE} {t t' : α} {ds ds' : List D} {xs ys : List β} {v : β} {j : Nat} {E C : List Nat} (hx : S[i]? = some (some (enc t, some 2))) (ht : enc t = .tup ds) (hj : ds[j]? = some (enc xs)) (h : RE S fe v kk E C) (hi : i ∉ E) (hz : zApp xs v = some ys) (hd : ds.set j (enc ys) = ds') (ht' : enc t' = .tup ds') (hS : (frzS E S).set i (some (enc t', some 2)) = S') : SpS S (sAppT i j fe) (Pnx S') := fun ρ z => by
  obtain ⟨k0, e0, hk0⟩ := z.2 i _ hx
  have hk0 : k0 = 2 := hk0 _ rfl
  subst hk0
  obtain ⟨r, e, a, b, c, _⟩ := h ρ z
  rw [show (enc t, some 2).1 = enc t from rfl, ht] at e0
  unfold zApp at hz
  split at hz
  · rename_i hl
    cases hz
    have hj : ds[j]? = some (.lst (xs.map enc)) := hj
    refine ⟨(frzL r.e ρ).set i (some (.tup (ds.set j (.lst (xs.map enc ++ [r.d]))), 2)), ?_, ?_⟩
    · unfold sAppT ownT
      simp only [e0, hj]
      rw [stE_def e]
      unfold appTOut
      simp only [e0, hj]
      rw [if_neg fun q => hi (c i q), if_pos (by rw [List.length_map]; exact hl)]
    · have e1 : D.lst (xs.map enc ++ [r.d]) = enc (xs ++ [v]) := by rw [a]; show _ = D.lst _; rw [List.map_append]; rfl
      rw [e1, hd, ← ht', ← hS]
      exact (z.frz c).set i fun m q => by cases q; rfl
  · cases hz
end
end PyL

namespace PyL
open PySem PySem.Spec L2
set_option autoImplicit false
/-! ### dicts: keys ints or texts, or tuples of them; values scalars -/
def dV : D → Option V
  | .non => some .non
  | .bl b => some (.bl b)
  | .int i => some (.int i)
  | .str x => some (.str x)
  | _ => none
def vD : V → Option D
  | .non => some .non
  | .bl b => some (.bl b)
  | .int i => some (.int i)
  | .str x => some (.str x)
  | _ => none
def dKey : D → Option Key
  | .int i => some (.inl i)
  | .str x => some (.inr x)
  | _ => none
def dKeys : List D → Option (List Key)
  | [] => some []
  | d :: ds => (dKey d).bind fun k => (dKeys ds).bind fun ks => some (k :: ks)
def keyD : Key → D
  | .inl i => .int i
  | .inr x => .str x
theorem dV_rp {S : PA1} {H : Hp} {d : D} {v w : V} (h : dV d = some w) (r : Rp S H d v) : v = w ∧ scal d = true := by
  cases d <;> simp [dV] at h <;> exact ⟨by rw [← h]; exact r, rfl⟩
theorem vD_rp {S : PA1} {H : Hp} {d : D} {v : V} (h : vD v = some d) : Rp S H d v ∧ scal d = true := by
  cases v <;> simp [vD] at h <;> rw [← h] <;> exact ⟨rfl, rfl⟩
theorem dKey_rp {S : PA1} {H : Hp} {d : D} {v : V} {k : Key} (h : dKey d = some k) (r : Rp S H d v) : v = kV k := by
  cases d <;> simp [dKey] at h <;> rw [← h] <;> exact r
theorem dKeys_rp {S : PA1} {H : Hp} : ∀ {ds : List D} {vs : List V} {ks : List Key}, dKeys ds = some ks → RpL S H ds vs → vs = ks.map kV
  | [], _, ks, h, r => by cases h; exact r
  | d :: ds, _, ks, h, ⟨x, q, e, p, l⟩ => by
    unfold dKeys at h
    cases hk : dKey d with
    | none => rw [hk] at h; cases h
    | some k =>
      rw [hk] at h
      cases hks : dKeys ds with
      | none => rw [hks] at h; cases h
      | some ms =>
        rw [hks] at h
        cases h
        rw [e, dKey_rp hk p, dKeys_rp hks l]; rfl
/-- what a dict holds at a key -/
def dAt (d k : D) : Option (Option V) := match d with
  | .dK kvs => (dKey k).map fun j => valV kvs j
  | .dT kvs => match k with
    | .tup ds => (dKeys ds).map fun j => valV kvs j
    | _ => none
  | _ => none
theorem Fz.dget {S0 : PA1} {F : FP} {H : Hp} {r q : R} {x y : V} {o : Option V} (hr : Fz S0 F H r x) (hq : Fz S0 F H q y) (h : dAt r.d q.d = some o) : ∃ a, x = .ref a ∧ DGet H a y o := by
  unfold dAt at h
  have rp := hr.rp
  have rq := hq.rp
  split at h
  · rename_i kvs e
    rw [e] at rp
    obtain ⟨a, rfl, _, ha⟩ := rp
    cases hk : dKey q.d with
    | none => rw [hk] at h; cases h
    | some k =>
      rw [hk] at h
      cases h
      exact ⟨a, rfl, by rw [dKey_rp hk rq]; exact .k ha⟩
  · rename_i kvs e
    rw [e] at rp
    obtain ⟨a, rfl, _, ha⟩ := rp
    split at h
    · rename_i ds e2
      rw [e2] at rq
      obtain ⟨b, us, rfl, _, hb, lb⟩ := rq
      cases hk : dKeys ds with
      | none => rw [hk] at h; cases h
      | some ks =>
        rw [hk] at h
        cases h
        rw [dKeys_rp hk lb] at hb
        exact ⟨a, rfl, .t ha hb⟩
    · cases h
  · cases h
def gDGet : G2 := fun ra rb => match dAt ra.d rb.d with
  | some (some v) => match vD v with
    | some d => .ok (scR d)
    | none => .bad
  | _ => .bad
def gDIn (neg : Bool) : G2 := fun ra rb => match dAt rb.d ra.d with
  | some o => okB (if neg then !o.isSome else o.isSome)
  | none => .bad
def isDct : D → Bool
  | .dK _ => true
  | .dT _ => true
  | _ => false
def gDGet2 (ra rb rc : R) : Res R := if scal rc.d then match dAt ra.d rb.d with
    | some none => .ok (scR rc.d)
    | some (some v) => match vD v with
      | some d => .ok (scR d)
      | none => .bad
    | none => .bad
  else .bad
def fDGet2 (fo fi fx : FE) : FE := fun ρ => (fo ρ).bind fun ra => if isDct ra.d then (fi ρ).bind fun rb => (fx ρ).bind fun rc => gDGet2 ra rb rc else .bad
section
variable {X : Cx} {W : WK} {o i f : Expr} {fo fi fx : FE} {pos apos cpos : Pos}
theorem e_dget (hu : X.A.units + 1 < cLine) (ho : PE X o (rdE W fo)) (hi : PE X i (rdE W fi)) (hs : NoSl i := by intro ov iv; rfl) : PE X (.Subscript o i pos) (rdE W (fBin gDGet fo fi)) :=
  peI (pe_dget hu ho hi hs) fun σ H Q ⟨S0, ρ, F, E, p⟩ => post_bind E p fun ra x H1 fp1 s1 n1 v1 E1 p1 => post_bind E1 p1 fun rb y H2 fp2 s2 n2 v2 E2 p2 => by
    unfold gDGet at p2
    split at p2
    · rename_i v hd
      split at p2
      · rename_i d hv
        obtain ⟨a, rfl, g⟩ := Fz.dget ((v1.fz (E.nin n1 _)).grow s2) (v2.fz (E1.nin n2 _)) hd
        obtain ⟨r, hs⟩ := vD_rp (S := fun b => inS S0 F [] b ∨ b ∈ ([] : List Addr)) (H := H2) hv
        exact ⟨a, v, rfl, g, post_sc p2 r hs⟩
      · exact p2.elim
    · exact p2.elim
theorem rd_din {neg : Bool} {σ : St} {H : Hp} {Q : VK} (h : rdE W (fBin (gDIn neg) fi fo) σ H Q) : rdE W fi σ H fun y H1 => rdE W fo σ H1 fun x H2 => ∃ a o, x = .ref a ∧ DGet H2 a y o ∧ Q (.bl (if neg then !o.isSome else o.isSome)) H2 := by
  obtain ⟨S0, ρ, F, E, p⟩ := h
  exact post_bind E p fun ra x H1 fp1 s1 n1 v1 E1 p1 => post_bind E1 p1 fun rb y H2 fp2 s2 n2 v2 E2 p2 => by
    unfold gDIn at p2
    split at p2
    · rename_i ov hd
      obtain ⟨a, rfl, g⟩ := Fz.dget (v2.fz (E1.nin n2 _)) ((v1.fz (E.nin n1 _)).grow s2) hd
      exact ⟨a, ov, rfl, g, okB_post p2⟩
    · exact p2.elim
theorem c_din (hu : X.A.units + 1 < cLine) (hi : PE X i (rdE W fi)) (ho : PE X o (rdE W fo)) (hb : behindInMarks .In o = false) : PE X (.Compare i [.In] [o] pos) (rdE W (fBin (gDIn false) fi fo)) :=
  peI (pe_cmp (pc_din hu hi ho) hb) fun _ _ _ h => rd_din h
theorem c_dnin (hu : X.A.units + 1 < cLine) (hi : PE X i (rdE W fi)) (ho : PE X o (rdE W fo)) (hb : behindInMarks .NotIn o = false) : PE X (.Compare i [.NotIn] [o] pos) (rdE W (fBin (gDIn true) fi fo)) :=
  peI (pe_cmp (pc_dnotin hu hi ho) hb) fun _ _ _ h => rd_din h
theorem c_dinT (hu : X.A.units + 1 < cLine) (hi : PE X i (rdE W fi)) (ho : PE X o (rdE W fo)) (hb : behindInMarks .In o = false) : PT X (.Compare i [.In] [o] pos) (rdT W (fTest (fBin (gDIn false) fi fo))) :=
  ptI (pt_cmp (pc_din hu hi ho) hb) fun _ _ _ h => rd_din (rd_test h)
theorem c_dninT (hu : X.A.units + 1 < cLine) (hi : PE X i (rdE W fi)) (ho : PE X o (rdE W fo)) (hb : behindInMarks .NotIn o = false) : PT X (.Compare i [.NotIn] [o] pos) (rdT W (fTest (fBin (gDIn true) fi fo))) :=
  ptI (pt_cmp (pc_dnotin hu hi ho) hb) fun _ _ _ h => rd_din (rd_test h)
theorem u62_1 {A : Around} (h : A.units + 62 < cLine) : A.units + 1 < cLine := by omega
theorem e_dget2 (hu : X.A.units + 1 < cLine) (ho : PE X o (rdE W fo)) (hi : PE X i (rdE W fi)) (hf : PE X f (rdE W fx)) (m : M2 X o "get" apos i f cpos) : PE X (.Call (.Attribute o "get" apos) [i, f] [] cpos) (rdE W (fDGet2 fo fi fx)) :=
  peI (pe_dget2 hu ho hi hf m) fun σ H Q ⟨S0, ρ, F, E, p⟩ => post_bind E p fun ra x H1 fp1 s1 n1 v1 E1 p1 => by
    split at p1
    · rename_i hD
      have z1 := v1.fz (E.nin n1 _)
      have hI : ∃ a, x = .ref a ∧ IsD H1 a := by
        have rp := z1.rp
        unfold isDct at hD
        split at hD
        · rename_i kvs e
          rw [e] at rp
          obtain ⟨a, rfl, _, ha⟩ := rp
          exact ⟨a, rfl, .inl ⟨kvs, .inl ha⟩⟩
        · rename_i kvs e
          rw [e] at rp
          obtain ⟨a, rfl, _, ha⟩ := rp
          exact ⟨a, rfl, .inr ⟨kvs, .inl ha⟩⟩
        · cases hD
      obtain ⟨a, rfl, isd⟩ := hI
      refine ⟨a, rfl, isd, post_bind E1 p1 fun rb y H2 fp2 s2 n2 v2 E2 p2 => post_bind E2 p2 fun rc z H3 fp3 s3 n3 v3 E3 p3 => ?_⟩
      have z3 := v3.fz (E2.nin n3 _)
      unfold gDGet2 at p3
      split at p3
      · rename_i hsc
        split at p3
        · rename_i hd
          obtain ⟨a', ea, g⟩ := Fz.dget ((z1.grow s2).grow s3) ((v2.fz (E1.nin n2 _)).grow s3) hd
          cases ea
          exact ⟨none, g, post_sc p3 (scal_rp hsc z3.rp) hsc⟩
        · rename_i v hd
          split at p3
          · rename_i d hv
            obtain ⟨a', ea, g⟩ := Fz.dget ((z1.grow s2).grow s3) ((v2.fz (E1.nin n2 _)).grow s3) hd
            cases ea
            obtain ⟨r, hs⟩ := vD_rp (S := fun b => inS S0 F [] b ∨ b ∈ ([] : List Addr)) (H := H3) hv
            exact ⟨some v, g, post_sc p3 r hs⟩
          · exact p3.elim
        · exact p3.elim
      · exact p3.elim
    · exact p1.elim
/-- {} -/
def fDNew (t : Bool) : FE := fun _ => .ok ⟨if t then .dT [] else .dK [], 1, [], []⟩
theorem e_dnewK : PE X (.Dict [] [] pos) (rdE W (fDNew false)) :=
  peI pe_dnewK fun σ H Q ⟨S0, ρ, F, E, p⟩ => fun o no => p _ _ [o] (same_upd no) (fun a ha => by rw [List.mem_singleton.mp ha]; exact no) ⟨⟨o, rfl, upd_same, rfl⟩, trivial⟩
theorem e_dnewT : PE X (.Dict [] [] pos) (rdE W (fDNew true)) :=
  peI pe_dnewT fun σ H Q ⟨S0, ρ, F, E, p⟩ => fun o no => p _ _ [o] (same_upd no) (fun a ha => by rw [List.mem_singleton.mp ha]; exact no) ⟨⟨o, rfl, upd_same, rfl⟩, trivial⟩
/-- d[k] = v -/
def dPutD (d k : D) (v : V) : Option D := match d with
  | .dK kvs => if kvs.length < sizeLine then (dKey k).map fun j => .dK (putK kvs j v) else none
  | .dT kvs => if kvs.length < sizeLine then match k with
      | .tup ds => (dKeys ds).map fun j => .dT (putK kvs j v)
      | _ => none
    else none
  | _ => none
def dputOut (i : Nat) (r q : R) (ρ : Ev) : Out := match ρ[i]?, dV r.d with
  | some (some (d, k + 1)), some v => match dPutD d q.d v with
    | some d' => .nx (ρ.set i (some (d', k + 1)))
    | none => .bad
  | _, _ => .bad
def ownD (i : Nat) (f : FS) : FS := fun ρ => match ρ[i]? with
  | some (some (d, _ + 1)) => if isDct d then f ρ else .bad
  | _ => .bad
def sDPut (i : Nat) (fi f : FE) : FS := ownD i (stE f fun r => stE fi fun q => dputOut i r q)
/-- an owned dict -/
theorem ER.dct {S0 : PA1} {H0 : Hp} {ρ : Ev} {σ : St} {H : Hp} {F : FP} (E : ER S0 H0 ρ σ H F) {i : Nat} {d : D} {k : Nat} (h : ρ[i]? = some (some (d, k + 1))) (hd : isDct d = true) :
    ∃ a, σ[i]? = some (some (.ref a)) ∧ F i = [a] ∧ ((∃ kvs, d = .dK kvs ∧ H a = some (.dK kvs)) ∨ ∃ kvs, d = .dT kvs ∧ H a = some (.dT kvs)) := by
  obtain ⟨v, e, o⟩ := E.ee.rep i _ _ h
  unfold isDct at hd
  split at hd
  · obtain ⟨a, rfl, ha, ef⟩ := o
    exact ⟨a, e, ef, .inl ⟨_, rfl, ha⟩⟩
  · obtain ⟨a, rfl, ha, ef⟩ := o
    exact ⟨a, e, ef, .inr ⟨_, rfl, ha⟩⟩
  · cases hd
theorem ownD_ok {W : WK} {S0 : PA1} {H0 : Hp} {ρ : Ev} {i : Nat} {f : FS} {Dn : Ends} (p : PostS W S0 H0 Dn (ownD i f ρ)) : (∃ d k, ρ[i]? = some (some (d, k + 1)) ∧ isDct d = true) ∧ PostS W S0 H0 Dn (f ρ) := by
  unfold ownD at p
  split at p
  · rename_i d k h
    split at p
    · rename_i hd
      exact ⟨⟨d, k, h, hd⟩, p⟩
    · exact p.elim
  · exact p.elim
theorem s_dput (n : Nat) {x : Str} {npos spos : Pos} {e : Expr} {fe : FE} (hu : X.A.units + 1 < cLine) (hv : PE X (.Name x npos) (tVar n)) (hi : PE X i (rdE W fi)) (he : PE X e (rdE W fe)) (hs : swapsWith e (some (.Subscript (.Name x npos) i spos)) pos.line X.env = pure false := by rfl) :
    PS X (.Assign [.Subscript (.Name x npos) i spos] e pos) (rdS W (sDPut n fi fe)) := by
  refine psI (ps_dput hu hv hi he hs) fun Dn σ H ⟨S0, H0, ρ, F, E, p⟩ => ?_
  obtain ⟨⟨d, k, hi, hd⟩, p⟩ := ownD_ok p
  refine ps_bind E p fun r v H1 fp s nn vr E1 p1 => ?_
  obtain ⟨a, ha, ef, hk⟩ := E1.dct hi hd
  refine ⟨.ref a, ha, ps_bind E1 p1 fun q y H2 fp2 s2 n2 v2 E2 p2 => ?_⟩
  have aF : a ∈ F n := by rw [ef]; exact List.mem_singleton.mpr rfl
  have zq := v2.fz (E1.ee.nin n2 _)
  unfold dputOut at p2
  rw [hi] at p2
  cases hv : dV r.d with
  | none => rw [hv] at p2; exact p2.elim
  | some vv =>
    rw [hv] at p2
    simp only at p2
    obtain ⟨rfl, _⟩ := dV_rp hv (vr.fz (E.ee.nin nn _)).rp
    rcases hk with ⟨kvs, rfl, hH⟩ | ⟨kvs, rfl, hH⟩
    · unfold dPutD at p2
      simp only at p2
      split at p2
      · rename_i d' hd'
        split at hd'
        · rename_i hz
          cases hkey : dKey q.d with
          | none => rw [hkey] at hd'; cases hd'
          | some key =>
            rw [hkey] at hd'
            cases hd'
            have hy := dKey_rp hkey zq.rp
            refine ⟨a, _, rfl, by rw [hy]; exact .k (s2 _ _ hH) hz, ?_⟩
            have := E2.mutate (d' := .dK (putK kvs key v)) (k' := k + 1) (e := []) (fp' := [a]) (o' := .dK (putK kvs key v)) hi ha (by simp) (Same.refl H2) aF trivial (fun b hb => .inl (by rw [List.mem_singleton.mp hb]; exact aF)) ⟨a, rfl, upd_same, rfl⟩
            exact p2 _ _ _ this
        · cases hd'
      · exact p2.elim
    · unfold dPutD at p2
      simp only at p2
      split at p2
      · rename_i d' hd'
        split at hd'
        · rename_i hz
          split at hd'
          · rename_i ds hds
            cases hkey : dKeys ds with
            | none => rw [hkey] at hd'; cases hd'
            | some key =>
              rw [hkey] at hd'
              cases hd'
              have rq := zq.rp
              rw [hds] at rq
              obtain ⟨b, us, rfl, _, hb, lb⟩ := rq
              rw [dKeys_rp hkey lb] at hb
              refine ⟨a, _, rfl, .t (s2 _ _ hH) hb hz, ?_⟩
              have := E2.mutate (d' := .dT (putK kvs key v)) (k' := k + 1) (e := []) (fp' := [a]) (o' := .dT (putK kvs key v)) hi ha (by simp) (Same.refl H2) aF trivial (fun b hb => .inl (by rw [List.mem_singleton.mp hb]; exact aF)) ⟨a, rfl, upd_same, rfl⟩
              exact p2 _ _ _ this
          · cases hd'
        · cases hd'
      · exact p2.elim
/-! list(d), len(d) -/
def gListD := on1 fun r => match r.d with
  | .dK kvs => .ok ⟨.lst (kvs.map fun kv => keyD kv.1), 1, [], []⟩
  | _ => .bad
theorem keys_rp {S : PA1} {H : Hp} : ∀ {kvs : List (Key × V)}, RpL S H (kvs.map fun kv => keyD kv.1) (kvs.map fun kv => kV kv.1)
  | [] => rfl
  | kv :: kvs => ⟨_, _, rfl, by obtain ⟨k, v⟩ := kv; cases k <;> rfl, keys_rp⟩
theorem ok_listD : BOk (fun xs H Q => ∃ (a : Addr) (kvs : List (Key × V)), xs = [.ref a] ∧ Rd H a (.dK kvs) ∧ ∀ p, H p = none → Q (.ref p) (upd H p (.lst (kvs.map fun kv => kV kv.1)))) gListD := by
  intro S0 ρ σ H F W rs vs Q E l p
  obtain ⟨r, v, rfl, z, p⟩ := on1_ok l p
  split at p
  · rename_i kvs e
    have rp := z.rp
    rw [e] at rp
    obtain ⟨a, rfl, _, ha⟩ := rp
    exact ⟨a, kvs, rfl, .inl ha, post_lst E p keys_rp⟩
  · exact p.elim
def gLenD := on1 fun r => match r.d with
  | .dK kvs => okI kvs.length
  | _ => .bad
theorem ok_lenD : BOk (fun xs H Q => ∃ a kvs, xs = [V.ref a] ∧ H a = some (.dK kvs) ∧ Q (.int kvs.length) H) gLenD := by
  intro S0 ρ σ H F W rs vs Q E l p
  obtain ⟨r, v, rfl, z, p⟩ := on1_ok l p
  split at p
  · rename_i kvs e
    have rp := z.rp
    rw [e] at rp
    obtain ⟨a, rfl, _, ha⟩ := rp
    exact ⟨a, kvs, rfl, ha, okI_post p⟩
  · exact p.elim
end
end PyL

namespace PyL
open PySem PySem.Spec L2
open Enc (enc)
set_option autoImplicit false
/-! ### dicts, typed -/
structure Dct (κ ν : Type) where
  l : List (κ × ν)
class EncV (ν : Type) [Enc ν] where
  tv : ν → V
  to : ∀ v : ν, dV (enc v) = some (tv v)
  fro : ∀ v : ν, vD (tv v) = some (enc v)
instance : EncV Int := ⟨.int, fun _ => rfl, fun _ => rfl⟩
instance : EncV Bool := ⟨.bl, fun _ => rfl, fun _ => rfl⟩
instance : EncV Str := ⟨.str, fun _ => rfl, fun _ => rfl⟩
class EncK (κ : Type) [Enc κ] [DecidableEq κ] where
  tup : Bool
  mp : List (κ × V) → D
  at' : ∀ l k, dAt (mp l) (enc k) = some (valV l k)
  put' : ∀ l k v, l.length < sizeLine → dPutD (mp l) (enc k) v = some (mp (putK l k v))
  nw : mp [] = if tup then .dT [] else .dK []
  dct : ∀ l, isDct (mp l) = true
  af' : ∀ n l, af (n + 1) (mp l) = true
section
variable {κ κ' : Type} [DecidableEq κ] [DecidableEq κ'] {f : κ → κ'}
theorem valV_inj (hf : ∀ a b, f a = f b → a = b) (k : κ) : ∀ l : List (κ × V), valV (l.map fun p => (f p.1, p.2)) (f k) = valV l k
  | [] => rfl
  | p :: l => by
    rw [List.map_cons]
    by_cases h : p.1 = k
    · rw [valV_pos (p := (f p.1, p.2)) (by rw [h]), valV_pos h]
    · rw [valV_neg (p := (f p.1, p.2)) (fun q => h (hf _ _ q)), valV_neg h, valV_inj hf k l]
theorem putK_inj (hf : ∀ a b, f a = f b → a = b) (k : κ) (v : V) (l : List (κ × V)) : putK (l.map fun p => (f p.1, p.2)) (f k) v = (putK l k v).map fun p => (f p.1, p.2) := by
  unfold putK
  have e : ((l.map fun p => (f p.1, p.2)).any fun kv => decide (kv.1 = f k)) = l.any fun kv => decide (kv.1 = k) := by
    rw [List.any_map]
    congr 1
    funext p
    show decide (f p.1 = f k) = decide (p.1 = k)
    by_cases h : p.1 = k
    · rw [h]; simp
    · rw [decide_eq_false h, decide_eq_false fun q => h (hf _ _ q)]
  rw [e]
  split
  · rw [List.map_map, List.map_map]
    refine List.map_congr_left fun p _ => ?_
    show (if f p.1 = f k then (f p.1, v) else (f p.1, p.2)) = (f (if p.1 = k then (p.1, v) else p).1, (if p.1 = k then (p.1, v) else p).2)
    by_cases h : p.1 = k
    · rw [if_pos (by rw [h]), if_pos h]
    · rw [if_neg fun q => h (hf _ _ q), if_neg h]
  · rw [List.map_append]; rfl
end
instance : EncK Int where
  tup := false
  mp l := .dK (l.map fun p => (.inl p.1, p.2))
  at' l k := by
    show (dKey (.int k)).map (fun j => valV _ j) = _
    show some (valV (l.map fun p => ((.inl p.1 : Key), p.2)) (.inl k)) = _
    rw [valV_inj (f := fun i : Int => (.inl i : Key)) fun a b h => by cases h; rfl]
  put' l k v h := by
    show (if (l.map fun p => ((.inl p.1 : Key), p.2)).length < sizeLine then (dKey (.int k)).map fun j => D.dK (putK _ j v) else none) = _
    rw [if_pos (by rw [List.length_map]; exact h)]
    show some (D.dK (putK (l.map fun p => ((.inl p.1 : Key), p.2)) (.inl k) v)) = _
    rw [putK_inj (f := fun i : Int => (.inl i : Key)) fun a b h => by cases h; rfl]
  nw := rfl
  dct _ := rfl
  af' _ _ := rfl
instance : EncK (T2 Int Int) where
  tup := true
  mp l := .dT (l.map fun p => ([.inl p.1.a, .inl p.1.b], p.2))
  at' l k := by
    show some (valV (l.map fun p => (([.inl p.1.a, .inl p.1.b] : List Key), p.2)) [.inl k.a, .inl k.b]) = _
    rw [valV_inj (f := fun t : T2 Int Int => ([.inl t.a, .inl t.b] : List Key)) fun ⟨a, b⟩ ⟨c, d⟩ h => by cases h; rfl]
  put' l k v h := by
    show (if (l.map fun p => (([.inl p.1.a, .inl p.1.b] : List Key), p.2)).length < sizeLine then some (D.dT (putK (l.map fun p => (([.inl p.1.a, .inl p.1.b] : List Key), p.2)) [.inl k.a, .inl k.b] v)) else none) = _
    rw [if_pos (by rw [List.length_map]; exact h)]
    rw [putK_inj (f := fun t : T2 Int Int => ([.inl t.a, .inl t.b] : List Key)) fun ⟨a, b⟩ ⟨c, d⟩ h => by cases h; rfl]
  nw := rfl
  dct _ := rfl
  af' _ _ := rfl
section
variable {κ ν : Type} [Enc κ] [DecidableEq κ] [EncK κ] [Enc ν] [EncV ν]
instance : Enc (Dct κ ν) := ⟨fun d => EncK.mp (d.l.map fun p => (p.1, EncV.tv p.2))⟩
instance : EncF (Dct κ ν) := ⟨1, fun d => EncK.af' 0 _⟩
def Dct.get {κ ν : Type} [DecidableEq κ] (d : Dct κ ν) (k : κ) : Option ν := (d.l.find? fun p => decide (p.1 = k)).map (·.2)
def Dct.put {κ ν : Type} [DecidableEq κ] (d : Dct κ ν) (k : κ) (v : ν) : Dct κ ν := if (d.l.any fun p => decide (p.1 = k)) = true then ⟨d.l.map fun p => if p.1 = k then (p.1, v) else p⟩ else ⟨d.l ++ [(k, v)]⟩
def zDPut {κ ν : Type} [DecidableEq κ] (d : Dct κ ν) (k : κ) (v : ν) : Option (Dct κ ν) := if d.l.length < sizeLine then some (d.put k v) else none
theorem get_tv (k : κ) : ∀ l : List (κ × ν), valV (l.map fun p => (p.1, EncV.tv p.2)) k = ((l.find? fun p => decide (p.1 = k)).map (·.2)).map EncV.tv
  | [] => rfl
  | p :: l => by
    rw [List.map_cons, List.find?_cons]
    by_cases h : p.1 = k
    · rw [valV_pos (p := (p.1, EncV.tv p.2)) h, decide_eq_true h]; rfl
    · rw [valV_neg (p := (p.1, EncV.tv p.2)) h, decide_eq_false h]; exact get_tv k l
theorem dat_enc {d : Dct κ ν} {k : κ} : dAt (enc d) (enc k) = some ((d.get k).map EncV.tv) := by
  show dAt (EncK.mp _) (enc k) = _
  rw [EncK.at', get_tv]; rfl
theorem dput_enc {d : Dct κ ν} {k : κ} {v : ν} (h : d.l.length < sizeLine) : dPutD (enc d) (enc k) (EncV.tv v) = some (enc (d.put k v)) := by
  show dPutD (EncK.mp _) (enc k) _ = some (EncK.mp _)
  rw [EncK.put' _ _ _ (by rw [List.length_map]; exact h)]
  congr 2
  unfold putK Dct.put
  have e : ((d.l.map fun p => (p.1, EncV.tv p.2)).any fun kv => decide (kv.1 = k)) = d.l.any fun p => decide (p.1 = k) := by rw [List.any_map]; rfl
  rw [e]
  split
  · rw [List.map_map]
    show _ = (d.l.map fun p => if p.1 = k then (p.1, v) else p).map fun p => (p.1, EncV.tv p.2)
    rw [List.map_map]
    refine List.map_congr_left fun p _ => ?_
    show (if p.1 = k then (p.1, EncV.tv v) else (p.1, EncV.tv p.2)) = ((if p.1 = k then (p.1, v) else p).1, EncV.tv (if p.1 = k then (p.1, v) else p).2)
    split <;> rfl
  · show _ = (d.l ++ [(k, v)]).map fun p => (p.1, EncV.tv p.2)
    rw [List.map_append]; rfl
variable {S S' : Spec} {fa fb fc : FE} {i : Nat} {ka kb kc kk : Option Nat} {Ea Ca Eb Cb Ec Cc E C : List Nat}
theorem re_dnew {t : Bool} (ht : t = EncK.tup κ) : RE S (fDNew t) (⟨[]⟩ : Dct κ ν) (some 1) [] [] := fun ρ z => ⟨⟨if t then .dT [] else .dK [], 1, [], []⟩, rfl, by show (if t then D.dT [] else D.dK []) = EncK.mp []; rw [EncK.nw, ht], fun m q => by cases q; rfl, fun j hj => (by cases hj), fun j hj => (by cases hj)⟩
theorem re_dget {d : Dct κ ν} {k : κ} {v : ν} (ha : RE S fa d ka Ea Ca) (hb : RE S fb k kb Eb Cb) (h : d.get k = some v) : RE S (fBin gDGet fa fb) v (some 0) [] [] := re_bin ha hb fun ra rb g1 g2 => by
  obtain ⟨k1, e1, c1, rfl, _⟩ := rd1 g1
  obtain ⟨k2, e2, c2, rfl, _⟩ := rd1 g2
  refine ⟨⟨enc v, 0, [], []⟩, ?_, gv0⟩
  unfold gDGet
  simp only [dat_enc, h, Option.map_some, EncV.fro]
  rfl
theorem re_dget2 {d : Dct κ ν} {k : κ} {v : ν} (hs : scal (enc v) = true) (ha : RE S fa d ka Ea Ca) (hb : RE S fb k kb Eb Cb) (hc : RE S fc v kc Ec Cc) : RE S (fDGet2 fa fb fc) ((d.get k).getD v) (some 0) [] [] := fun ρ z => by
  obtain ⟨ra, q1, g1⟩ := ha ρ z
  obtain ⟨rb, q2, g2⟩ := hb ρ z
  obtain ⟨rc, q3, g3⟩ := hc ρ z
  obtain ⟨k1, e1, c1, rfl, _⟩ := rd1 g1
  obtain ⟨k2, e2, c2, rfl, _⟩ := rd1 g2
  obtain ⟨k3, e3, c3, rfl, _⟩ := rd1 g3
  refine ⟨⟨enc ((d.get k).getD v), 0, [], []⟩, ?_, gv0⟩
  unfold fDGet2
  rw [q1, bd_ok]
  have hd : isDct (enc d) = true := EncK.dct _
  simp only [hd, if_true]
  rw [q2, bd_ok, q3, bd_ok]
  unfold gDGet2
  simp only [hs, if_true, dat_enc]
  cases d.get k with
  | none => rfl
  | some w => simp only [Option.map_some, EncV.fro]; rfl
theorem re_din {d : Dct κ ν} {k : κ} (hb : RE S fb k kb Eb Cb) (ha : RE S fa d ka Ea Ca) : RE S (fBin (gDIn false) fb fa) (d.get k).isSome (some 0) [] [] := re_bin hb ha fun rb ra g1 g2 => by
  obtain ⟨k1, e1, c1, rfl, _⟩ := rd1 g1
  obtain ⟨k2, e2, c2, rfl, _⟩ := rd1 g2
  refine ⟨_, ?_, gv0⟩
  unfold gDIn
  simp only [dat_enc]
  cases d.get k <;> rfl
theorem re_dnin {d : Dct κ ν} {k : κ} (hb : RE S fb k kb Eb Cb) (ha : RE S fa d ka Ea Ca) : RE S (fBin (gDIn true) fb fa) (!(d.get k).isSome) (some 0) [] [] := re_bin hb ha fun rb ra g1 g2 => by
  obtain ⟨k1, e1, c1, rfl, _⟩ := rd1 g1
  obtain ⟨k2, e2, c2, rfl, _⟩ := rd1 g2
  refine ⟨_, ?_, gv0⟩
  unfold gDIn
  simp only [dat_enc]
  cases d.get k <;> rfl
theorem sp_dput {d d' : Dct κ ν} {k : κ} {v : ν} {m : Nat} {fi fe : FE} (hx : S[i]? = some (some (enc d, some (m + 1)))) (hv : RE S fe v ka Ea Ca) (hk : RE S fi k kb Eb Cb) (hz : zDPut d k v = some d') (hS : S.set i (some (enc d', some (m + 1))) = S') : SpS S (sDPut i fi fe) (Pnx S') := fun ρ z => by
  obtain ⟨k0, e0, hk0⟩ := z.2 i _ hx
  have hk0 : k0 = m + 1 := hk0 _ rfl
  subst hk0
  obtain ⟨r, q1, g1⟩ := hv ρ z
  obtain ⟨q, q2, g2⟩ := hk ρ z
  obtain ⟨k1, e1, c1, rfl, _⟩ := rd1 g1
  obtain ⟨k2, e2, c2, rfl, _⟩ := rd1 g2
  unfold zDPut at hz
  split at hz
  · rename_i hl
    cases hz
    have e0 : ρ[i]? = some (some (enc d, m + 1)) := e0
    have hd : isDct (enc d) = true := EncK.dct _
    refine ⟨ρ.set i (some (enc (d.put k v), m + 1)), ?_, by rw [← hS]; exact z.set i fun m q => by cases q; rfl⟩
    unfold sDPut ownD
    simp only [e0, hd, if_true]
    rw [stE_def q1, stE_def q2]
    unfold dputOut
    simp only [e0, EncV.to, dput_enc hl]
  · cases hz
theorem re_dkeys {ν : Type} [Enc ν] [EncV ν] {d : Dct Int ν} (ha : RE S fa d ka Ea Ca) : RE S (fB gListD (fCons fa fNil)) (d.l.map (·.1)) (some 1) [] [] := re_b1 ha fun ra g1 => by
  obtain ⟨k1, e1, c1, rfl, _⟩ := rd1 g1
  refine ⟨⟨enc (d.l.map (·.1)), 1, [], []⟩, ?_, rfl, fun m q => by cases q; rfl, fun j hj => (by cases hj), fun j hj => (by cases hj)⟩
  show Res.ok (⟨D.lst (((d.l.map fun p => (p.1, EncV.tv p.2)).map fun p => ((.inl p.1 : Key), p.2)).map fun kv => keyD kv.1), 1, [], []⟩ : R) = Res.ok ⟨D.lst ((d.l.map (·.1)).map enc), 1, [], []⟩
  rw [List.map_map, List.map_map, List.map_map]
  rfl
theorem re_dlen {ν : Type} [Enc ν] [EncV ν] {d : Dct Int ν} (ha : RE S fa d ka Ea Ca) : RE S (fB gLenD (fCons fa fNil)) (d.l.length : Int) (some 0) [] [] := re_b1 ha fun ra g1 => by
  obtain ⟨k1, e1, c1, rfl, _⟩ := rd1 g1
  refine ⟨⟨.int (d.l.length : Int), 0, [], []⟩, ?_, gv0⟩
  show Res.ok (⟨D.int ((((d.l.map fun p => (p.1, EncV.tv p.2)).map fun p => ((.inl p.1 : Key), p.2)).length : Nat) : Int), 0, [], []⟩ : R) = _
  rw [List.length_map, List.length_map]
end
/-! what a dict holds -/
section
variable {κ ν : Type} [DecidableEq κ]
theorem Dct.get_nil {k : κ} : (⟨[]⟩ : Dct κ ν).get k = none := rfl
theorem Dct.get_put {d : Dct κ ν} {k j : κ} {v : ν} : (d.put k v).get j = if j = k then some v else d.get j := by
  obtain ⟨l⟩ := d
  unfold Dct.put Dct.get
  by_cases ha : (l.any fun p => decide (p.1 = k)) = true
  · rw [if_pos ha]
    induction l with
    | nil => simp at ha
    | cons p l ih =>
      simp only [List.map_cons, List.find?_cons]
      by_cases hp : p.1 = k
      · rw [if_pos hp]
        by_cases hj : j = k
        · subst hj; rw [if_pos rfl]; simp [hp]
        · rw [if_neg hj]
          have : ¬ p.1 = j := fun q => hj (by rw [← q, hp])
          simp only [this, decide_false]
          by_cases hl : (l.any fun p => decide (p.1 = k)) = true
          · have := ih hl; rw [if_neg hj] at this; exact this
          · have e : (l.map fun p => if p.1 = k then (p.1, v) else p) = l := by
              conv => rhs; rw [← List.map_id l]
              refine List.map_congr_left fun q hq => ?_
              have : ¬ q.1 = k := fun z => hl (List.any_eq_true.mpr ⟨q, hq, by simp [z]⟩)
              rw [if_neg this]; rfl
            rw [e]
      · rw [if_neg hp]
        have hl : (l.any fun p => decide (p.1 = k)) = true := by simpa [hp] using ha
        have := ih hl
        by_cases hpj : p.1 = j
        · simp only [hpj, decide_true]
          rw [if_neg (fun q => hp (by rw [hpj, q]))]
        · simp only [hpj, decide_false]; exact this
  · rw [if_neg ha]
    simp only [List.find?_append]
    by_cases hj : j = k
    · subst hj
      rw [if_pos rfl]
      have : l.find? (fun p => decide (p.1 = j)) = none := by
        rw [List.find?_eq_none]
        intro p hp hd
        exact ha (List.any_eq_true.mpr ⟨p, hp, hd⟩)
      rw [this]; simp
    · rw [if_neg hj]
      have : ¬ k = j := fun q => hj q.symm
      cases l.find? (fun p => decide (p.1 = j)) with
      | none => simp [this]
      | some p => rfl
end
end PyL

namespace PyL
open PySem PySem.Spec L2
open Enc (enc)
set_option autoImplicit false

/-! ### tuples of five -/
structure T5 (α β γ δ ε : Type) where
  a : α
  b : β
  c : γ
  d : δ
  e : ε
deriving DecidableEq
section
variable {α β γ δ ε : Type} [Enc α] [Enc β] [Enc γ] [Enc δ] [Enc ε]
instance : Enc (T5 α β γ δ ε) := ⟨fun t => .tup [enc t.a, enc t.b, enc t.c, enc t.d, enc t.e]⟩
instance : EncN (T5 α β γ δ ε) := ⟨fun _ h => by cases h⟩
instance : EncI (T5 α β γ δ ε) := ⟨fun T => "tuple" == T, fun a T => ⟨rfl, rfl⟩⟩
instance [EncF α] [EncF β] [EncF γ] [EncF δ] [EncF ε] : EncF (T5 α β γ δ ε) := ⟨if max (max (max (EncF.dp α) (EncF.dp β)) (max (EncF.dp γ) (EncF.dp δ))) (EncF.dp ε) = 0 then 0 else max (max (max (EncF.dp α) (EncF.dp β)) (max (EncF.dp γ) (EncF.dp δ))) (EncF.dp ε) + 1, fun t => af_tupK fun d hd => by
  simp only [List.mem_cons, List.not_mem_nil, or_false] at hd
  rcases hd with rfl | rfl | rfl | rfl | rfl
  · exact af_up _ (EncF.ok t.a) (by omega)
  · exact af_up _ (EncF.ok t.b) (by omega)
  · exact af_up _ (EncF.ok t.c) (by omega)
  · exact af_up _ (EncF.ok t.d) (by omega)
  · exact af_up _ (EncF.ok t.e) (by omega)⟩
instance [EncP α] [EncP β] [EncP γ] [EncP δ] [EncP ε] : EncP (T5 α β γ δ ε) := ⟨max (max (max (EncP.pd α) (EncP.pd β)) (max (EncP.pd γ) (EncP.pd δ))) (EncP.pd ε) + 1, fun t => pln_tup fun d hd => by
  simp only [List.mem_cons, List.not_mem_nil, or_false] at hd
  rcases hd with rfl | rfl | rfl | rfl | rfl
  · exact pln_up _ (EncP.ok t.a) (by omega)
  · exact pln_up _ (EncP.ok t.b) (by omega)
  · exact pln_up _ (EncP.ok t.c) (by omega)
  · exact pln_up _ (EncP.ok t.d) (by omega)
  · exact pln_up _ (EncP.ok t.e) (by omega)⟩
instance [DecidableEq α] [DecidableEq β] [DecidableEq γ] [DecidableEq δ] [DecidableEq ε] [EncQ α] [EncQ β] [EncQ γ] [EncQ δ] [EncQ ε] : EncQ (T5 α β γ δ ε) := ⟨fun ⟨a, b, c, d, e⟩ ⟨a', b', c', d', e'⟩ => by
  show (deq (enc a) (enc a') && (deq (enc b) (enc b') && (deq (enc c) (enc c') && (deq (enc d) (enc d') && (deq (enc e) (enc e') && true))))) = _
  rw [EncQ.ok, EncQ.ok, EncQ.ok, EncQ.ok, EncQ.ok]
  by_cases h1 : a = a' <;> by_cases h2 : b = b' <;> by_cases h3 : c = c' <;> by_cases h4 : d = d' <;> by_cases h5 : e = e' <;> simp [h1, h2, h3, h4, h5]⟩
theorem ix_4 {d0 d1 d2 d3 d4 : D} {xs : List D} : atI (d0 :: d1 :: d2 :: d3 :: d4 :: xs) 4 = some d4 := atI_nat (j := 4) rfl
end
/-! ### str(n) -/
def gStr := on1 fun r => match r.d with
  | .int i => if i.natAbs.log2 < 1920 then .ok (scR (.str (toString i))) else .bad
  | _ => .bad
theorem ok_str {K : PySem.W.Frag} : BOk (fun xs H Q => ∃ i, xs = [.int i] ∧ i.natAbs.log2 < 1920 ∧ Q (.str (toString i)) H) gStr := by
  intro S0 ρ σ H F W rs vs Q E l p
  obtain ⟨r, v, rfl, z, p⟩ := on1_ok l p
  · skip
    split at p
    · rename_i i e
      split at p
      · rename_i h
        exact ⟨i, by rw [z.int e], h, post_sc p rfl rfl⟩
      · exact p.elim
    · exact p.elim
section
variable {α β γ δ : Type} [Enc α] [Enc β] [Enc γ] [Enc δ]
variable {S : List (Option (D × Option Nat))} {fa fb : FE} {ka kb : Option Nat} {Ea Ca Eb Cb : List Nat}
def zStrI (i : Int) : Option Str := if i.natAbs.log2 < 1920 then some (toString i) else none
theorem re_str {i : Int} {x : Str} (ha : RE S fa i ka Ea Ca) (h : zStrI i = some x) : RE S (fB gStr (fCons fa fNil)) x (some 0) [] [] := re_b1 ha fun ra g1 => by
  obtain ⟨k1, e1, c1, rfl, _⟩ := rd1 g1
  unfold zStrI at h
  split at h
  · rename_i hc
    cases h
    refine ⟨_, ?_, gv0⟩
    show (if i.natAbs.log2 < 1920 then _ else _) = _
    rw [if_pos hc]; rfl
  · cases h
theorem re_inG [DecidableEq α] [EncQ α] [EncP α] {x : α} {xs : List α} [d : Decidable (x ∈ xs)] (hp : EncP.pd α ≤ 60) (ha : RE S fa x ka Ea Ca) (hb : RE S fb xs kb Eb Cb) : RE S (fBin (gIn false) fa fb) (@decide (x ∈ xs) d) (some 0) [] [] := by
  have := re_in hp ha hb
  rwa [decide_eq_decide.mpr (Iff.rfl : x ∈ xs ↔ x ∈ xs)] at this
theorem re_ninG [DecidableEq α] [EncQ α] [EncP α] {x : α} {xs : List α} [d : Decidable (x ∈ xs)] (hp : EncP.pd α ≤ 60) (ha : RE S fa x ka Ea Ca) (hb : RE S fb xs kb Eb Cb) : RE S (fBin (gIn true) fa fb) (!@decide (x ∈ xs) d) (some 0) [] [] := by
  have := re_nin hp ha hb
  rwa [decide_eq_decide.mpr (Iff.rfl : x ∈ xs ↔ x ∈ xs)] at this
/-! ### values of any kind -/
def zInt : D → Option Int
  | .int n => some n
  | _ => none
def zBool : D → Option Bool
  | .bl n => some n
  | _ => none
def zStr : D → Option Str
  | .str n => some n
  | _ => none
def zItems : D → Option (List D)
  | .lst ds => some ds
  | _ => none
theorem re_cv {x : α} {y : β} (h : enc y = enc x) (ha : RE S fa x ka Ea Ca) : RE S fa y ka Ea Ca := fun ρ z => by
  have := ha ρ z
  rw [← h] at this
  exact this
theorem re_zInt {d : D} {n : Int} (ha : RE S fa d ka Ea Ca) (h : zInt d = some n) : RE S fa n ka Ea Ca := by
  cases d <;> first | (cases h; done) | (cases h; exact ha)
theorem re_zBool {d : D} {n : Bool} (ha : RE S fa d ka Ea Ca) (h : zBool d = some n) : RE S fa n ka Ea Ca := by
  cases d <;> first | (cases h; done) | (cases h; exact ha)
theorem re_zStr {d : D} {n : Str} (ha : RE S fa d ka Ea Ca) (h : zStr d = some n) : RE S fa n ka Ea Ca := by
  cases d <;> first | (cases h; done) | (cases h; exact ha)
theorem encD {xs : List D} : xs.map (enc : D → D) = xs := List.map_id xs
theorem re_zItems {d : D} {xs : List D} (ha : RE S fa d ka Ea Ca) (h : zItems d = some xs) : RE S fa xs ka Ea Ca := by
  cases d <;> first | (cases h; done) | (cases h; exact re_cv (by show D.lst (xs.map (enc : D → D)) = D.lst xs; rw [encD]) ha)
theorem cv_i (x : α) : enc x = enc x := rfl
theorem cv_a (x : α) : enc (enc x : D) = enc x := rfl
theorem cv_l {f : α → β} (h : ∀ x, enc (f x) = enc x) (xs : List α) : enc (xs.map f) = enc xs := by
  show D.lst _ = D.lst _
  rw [List.map_map]
  exact congrArg D.lst (List.map_congr_left fun x _ => h x)
theorem cv_o {f : α → β} (h : ∀ x, enc (f x) = enc x) : ∀ x : Option α, enc (x.map f) = enc x
  | none => rfl
  | some x => h x
theorem cv_2 {f : α → γ} {g : β → δ} (h1 : ∀ x, enc (f x) = enc x) (h2 : ∀ x, enc (g x) = enc x) (t : T2 α β) : enc (⟨f t.a, g t.b⟩ : T2 γ δ) = enc t := by
  show D.tup [enc (f t.a), enc (g t.b)] = D.tup [enc t.a, enc t.b]
  rw [h1, h2]
variable {ε ζ : Type} [Enc ε] [Enc ζ]
theorem cv_3 {f : α → β} {g : γ → δ} {k : ε → ζ} (h1 : ∀ x, enc (f x) = enc x) (h2 : ∀ x, enc (g x) = enc x) (h3 : ∀ x, enc (k x) = enc x) (t : T3 α γ ε) : enc (⟨f t.a, g t.b, k t.c⟩ : T3 β δ ζ) = enc t := by
  show D.tup [enc (f t.a), enc (g t.b), enc (k t.c)] = D.tup [enc t.a, enc t.b, enc t.c]
  rw [h1, h2, h3]
variable {η θ : Type} [Enc η] [Enc θ]
theorem cv_4 {f : α → β} {g : γ → δ} {k : ε → ζ} {l : η → θ} (h1 : ∀ x, enc (f x) = enc x) (h2 : ∀ x, enc (g x) = enc x) (h3 : ∀ x, enc (k x) = enc x) (h4 : ∀ x, enc (l x) = enc x) (t : T4 α γ ε η) : enc (⟨f t.a, g t.b, k t.c, l t.d⟩ : T4 β δ ζ θ) = enc t := by
  show D.tup [enc (f t.a), enc (g t.b), enc (k t.c), enc (l t.d)] = D.tup [enc t.a, enc t.b, enc t.c, enc t.d]
  rw [h1, h2, h3, h4]
def zIs (T : String) (d : D) : Option Bool := if isScr d = true then none else some (isTy T d)
theorem re_zIs {d : D} {T : String} {p : Bool} (ha : RE S fa d ka Ea Ca) (h : zIs T d = some p) : RE S (fIsi T fa) p (some 0) [] [] := re_un ha fun ra g1 => by
  obtain ⟨k1, e1, c1, rfl, _⟩ := rd1 g1
  unfold zIs at h
  split at h
  · cases h
  · rename_i hs
    cases h
    exact ⟨_, g_isi (eq_false_of_ne_true hs), gv0⟩
def zIsN (neg : Bool) (d : D) : Option Bool := if isScr d = true then none else match d with
  | .non => some (!neg)
  | _ => some neg
theorem re_zIsN {d : D} {neg p : Bool} (ha : RE S fa d ka Ea Ca) (h : zIsN neg d = some p) : RE S (fIsN neg fa) p (some 0) [] [] := re_un ha fun ra g1 => by
  obtain ⟨k1, e1, c1, rfl, _⟩ := rd1 g1
  unfold zIsN at h
  split at h
  · cases h
  · rename_i hs
    split at h
    · cases h
      exact ⟨⟨.bl (!neg), 0, [], []⟩, by cases neg <;> rfl, gv0⟩
    · rename_i hn
      cases h
      exact ⟨_, gIsN_not (fun z => hn z) (eq_false_of_ne_true hs), gv0⟩
def zLenA : D → Option Int
  | .lst ds => some ds.length
  | .tup ds => some ds.length
  | _ => none
theorem re_zLenA {d : D} {n : Int} (ha : RE S fa d ka Ea Ca) (h : zLenA d = some n) : RE S (fB gLen (fCons fa fNil)) n (some 0) [] [] := re_b1 ha fun ra g1 => by
  obtain ⟨k1, e1, c1, rfl, _⟩ := rd1 g1
  cases d <;> first | (cases h; done) | (cases h; exact ⟨_, rfl, gv0⟩)
def zEqA (a b : D) : Option Bool := if (pln 60 a && pln 60 b) = true then some (deq a b) else none
theorem re_zEqA {a b : D} {p : Bool} (ha : RE S fa a ka Ea Ca) (hb : RE S fb b kb Eb Cb) (h : zEqA a b = some p) : RE S (fBin gEq fa fb) p (some 0) [] [] := re_bin ha hb fun ra rb g1 g2 => by
  obtain ⟨k1, e1, c1, rfl, _⟩ := rd1 g1
  obtain ⟨k2, e2, c2, rfl, _⟩ := rd1 g2
  unfold zEqA at h
  split at h
  · rename_i hc
    cases h
    simp only [Bool.and_eq_true] at hc
    exact ⟨_, g_eqD hc.1 hc.2, gv0⟩
  · cases h
theorem re_zNeA {a b : D} {p : Bool} (ha : RE S fa a ka Ea Ca) (hb : RE S fb b kb Eb Cb) (h : zEqA a b = some p) : RE S (fBin gNe fa fb) (!p) (some 0) [] [] := re_bin ha hb fun ra rb g1 g2 => by
  obtain ⟨k1, e1, c1, rfl, _⟩ := rd1 g1
  obtain ⟨k2, e2, c2, rfl, _⟩ := rd1 g2
  unfold zEqA at h
  split at h
  · rename_i hc
    cases h
    simp only [Bool.and_eq_true] at hc
    exact ⟨_, g_neD hc.1 hc.2, gv0⟩
  · cases h
def zInA (d : D) (xs : List D) : Option Bool := if (pln 60 d && plnL 60 xs) = true then some (memD xs d) else none
theorem re_zInA {d : D} {xs : List D} {p : Bool} (ha : RE S fa d ka Ea Ca) (hb : RE S fb xs kb Eb Cb) (h : zInA d xs = some p) : RE S (fBin (gIn false) fa fb) p (some 0) [] [] := re_bin ha hb fun ra rb g1 g2 => by
  obtain ⟨k1, e1, c1, rfl, _⟩ := rd1 g1
  obtain ⟨k2, e2, c2, rfl, _⟩ := rd1 g2
  unfold zInA at h
  split at h
  · rename_i hc
    cases h
    simp only [Bool.and_eq_true] at hc
    refine ⟨_, ?_, gv0⟩
    show gIn false ⟨d, k1, e1, c1⟩ ⟨.lst (xs.map (enc : D → D)), k2, e2, c2⟩ = _
    rw [encD]
    exact gIn_ok (neg := false) hc.1 hc.2
  · cases h
theorem re_zNinA {d : D} {xs : List D} {p : Bool} (ha : RE S fa d ka Ea Ca) (hb : RE S fb xs kb Eb Cb) (h : zInA d xs = some p) : RE S (fBin (gIn true) fa fb) (!p) (some 0) [] [] := re_bin ha hb fun ra rb g1 g2 => by
  obtain ⟨k1, e1, c1, rfl, _⟩ := rd1 g1
  obtain ⟨k2, e2, c2, rfl, _⟩ := rd1 g2
  unfold zInA at h
  split at h
  · rename_i hc
    cases h
    simp only [Bool.and_eq_true] at hc
    refine ⟨_, ?_, gv0⟩
    show gIn true ⟨d, k1, e1, c1⟩ ⟨.lst (xs.map (enc : D → D)), k2, e2, c2⟩ = _
    rw [encD]
    exact gIn_ok (neg := true) hc.1 hc.2
  · cases h
def zAtA (d : D) (i : Int) : Option D := match d with
  | .lst ds => atI ds i
  | .tup ds => atI ds i
  | _ => none
theorem gv_item {d : D} {c1 C : List Nat} (hc : ∀ j ∈ c1, j ∈ C) : Gv (itemR ⟨.non, 0, [], c1⟩ d) d (some 0) C C := by
  unfold itemR
  split
  · exact ⟨rfl, fun m z => by cases z; rfl, fun j hj => (by cases hj), fun j hj => (by cases hj)⟩
  · exact ⟨rfl, fun m z => by cases z; rfl, hc, hc⟩
theorem re_zAtA {d : D} {i : Int} {v : D} (ha : RE S fa d ka Ea Ca) (hb : RE S fb i kb Eb Cb) (h : zAtA d i = some v) : RE S (fBin gIx fa fb) v (some 0) Ca Ca := re_bin ha hb fun ra rb g1 g2 => by
  obtain ⟨k1, e1, c1, rfl, _, _, hc⟩ := rd1 g1
  obtain ⟨k2, e2, c2, rfl, _⟩ := rd1 g2
  refine ⟨itemR ⟨.non, 0, [], c1⟩ v, ?_, gv_item hc⟩
  cases d with
  | lst ds =>
    show gIx ⟨.lst ds, k1, e1, c1⟩ ⟨.int i, k2, e2, c2⟩ = _
    unfold gIx
    simp only
    rw [show atI ds i = some v from h]; rfl
  | tup ds =>
    show gIx ⟨.tup ds, k1, e1, c1⟩ ⟨.int i, k2, e2, c2⟩ = _
    unfold gIx
    simp only
    rw [show atI ds i = some v from h]; rfl
  | non => cases h
  | bl _ => cases h
  | int _ => cases h
  | str _ => cases h
  | exc _ _ _ _ _ => cases h
  | dK _ => cases h
  | dT _ => cases h
  | scr _ _ => cases h
theorem re_listT {t : β} {xs : List α} (ht : enc t = .tup (xs.map enc)) (ha : RE S fa t ka Ea Ca) : RE S (fB gList (fCons fa fNil)) xs (some 1) Ca Ca := re_b1 ha fun ra g1 => by
  obtain ⟨k1, e1, c1, rfl, _, _, hc⟩ := rd1 g1
  exact ⟨⟨.lst (xs.map enc), 1, c1, c1⟩, by rw [ht]; rfl, rfl, fun m z => by cases z; rfl, hc, hc⟩
theorem cv_s (x : α) : enc (some x : Option α) = enc x := rfl
theorem cv_n (x : Unit) : enc (none : Option α) = enc x := rfl
def zTup (xs : List α) : D := .tup (xs.map enc)
theorem re_tuple {xs : List α} (ha : RE S fa xs ka Ea Ca) : RE S (fB gTuple (fCons fa fNil)) (zTup xs) (some 0) Ca Ca := re_b1 ha fun ra g1 => by
  obtain ⟨k1, e1, c1, rfl, _, _, hc⟩ := rd1 g1
  exact ⟨⟨.tup (xs.map enc), 0, c1, c1⟩, rfl, rfl, fun m z => by cases z; rfl, hc, hc⟩
end
/-! ### return (x, e): one's own lists and new ones go along -/
abbrev MA := Nat ⊕ FE
def tMs (W : WK) : List MA → TA
  | [] => tNil
  | .inl i :: ms => tCons (tVar i) (tMs W ms)
  | .inr f :: ms => tCons (rdE W f) (tMs W ms)
def lefts : List MA → List Nat
  | [] => []
  | .inl i :: ms => i :: lefts ms
  | .inr _ :: ms => lefts ms
def getM (m : Nat) (ρ : Ev) : List MA → Option (List D)
  | [] => some []
  | .inl i :: ms => match ρ[i]? with
    | some (some (d, k)) => if scal d = true ∨ k = m then (getM m ρ ms).map fun ds => d :: ds else none
    | _ => none
  | .inr f :: ms => match f ρ with
    | .ok r => if r.e = [] ∧ (scal r.d = true ∨ r.k = m) then (getM m ρ ms).map fun ds => r.d :: ds else none
    | _ => none
theorem mix_run {W : WK} {ρ : Ev} {σ : St} {F : FP} {m : Nat} : ∀ {ms : List MA} {ds : List D}, getM m ρ ms = some ds → (lefts ms).Nodup → ∀ {S0 : PA1} {H : Hp}, EE S0 ρ σ H F → ∀ Q : List V → Hp → Prop,
    (∀ xs H' fp, Same H H' → AllF (Ow (fun a => inS S0 F [] a ∨ a ∈ fp) H' m) ds xs fp → (∀ a ∈ fp, (∃ i ∈ lefts ms, a ∈ F i) ∨ H a = none) → Q xs H') → tMs W ms σ H Q
  | [], ds, h, _, S0, H, E, Q, q => by
    cases h
    exact q [] H [] (Same.refl H) ⟨rfl, rfl⟩ fun a ha => by cases ha
  | .inl i :: ms, ds, h, nd, S0, H, E, Q, q => by
    unfold getM at h
    split at h
    · rename_i d k hi
      split at h
      · rename_i hk
        cases hq : getM m ρ ms with
        | none => rw [hq] at h; cases h
        | some qs =>
          rw [hq] at h
          cases h
          obtain ⟨hn, nd'⟩ := List.nodup_cons.mp nd
          obtain ⟨v, hv, o⟩ := E.rep i d k hi
          obtain ⟨f1, o1, h1⟩ : ∃ f1, Ow (inS S0 F []) H m d v f1 ∧ ∀ a ∈ f1, a ∈ F i := by
            rcases hk with z | z
            · exact ⟨[], (scal_ow z o m).1, fun a ha => by cases ha⟩
            · exact ⟨F i, z ▸ o, fun a ha => ha⟩
          refine ⟨v, hv, mix_run hq nd' E _ fun xs H' fp sm al hf => q (v :: xs) H' (f1 ++ fp) sm ⟨v, xs, f1, fp, rfl, Ow.imp (fun b o hb nn => ⟨sm _ _ hb, fun z => ?_⟩) _ _ _ _ (fun b o _ hb => sm _ _ hb) o1, al.imp fun d w g _ po => Ow.imp (fun b o hb nn => ⟨hb, fun z => ?_⟩) _ _ _ _ (fun b o _ hb => hb) po, rfl, fun a ha hb => ?_⟩ fun a ha => ?_⟩
          · rcases z with z | z
            · exact nn z
            · rcases List.mem_append.mp z with z | z
              · exact nn (.inr ⟨i, by simp, h1 b z⟩)
              · rcases hf b z with ⟨j, _, z⟩ | z
                · exact nn (.inr ⟨j, by simp, z⟩)
                · rw [z] at hb; cases hb
          · rcases z with z | z
            · exact nn (.inl z)
            · rcases List.mem_append.mp z with z | z
              · exact nn (.inl (.inr ⟨i, by simp, h1 b z⟩))
              · exact nn (.inr z)
          · rcases hf a hb with ⟨j, hj, hb⟩ | hb
            · exact hn (E.disj _ _ _ (h1 a ha) hb ▸ hj)
            · obtain ⟨o, ho, _⟩ := E.trk i a (h1 a ha)
              rw [hb] at ho; cases ho
          · rcases List.mem_append.mp ha with ha | ha
            · exact .inl ⟨i, List.mem_cons_self, h1 a ha⟩
            · rcases hf a ha with ⟨j, hj, hb⟩ | hb
              · exact .inl ⟨j, List.mem_cons_of_mem _ hj, hb⟩
              · exact .inr hb
      · cases h
    · cases h
  | .inr f :: ms, ds, h, nd, S0, H, E, Q, q => by
    unfold getM at h
    split at h
    · rename_i r hr
      split at h
      · rename_i hk
        cases hq : getM m ρ ms with
        | none => rw [hq] at h; cases h
        | some qs =>
          rw [hq] at h
          cases h
          obtain ⟨he, hk⟩ := hk
          refine ⟨S0, ρ, F, E, ?_⟩
          rw [hr]
          intro v H1 fp1 s1 n1 vr
          have ow : Ow (fun a => inS S0 F [] a ∨ a ∈ fp1) H1 r.k r.d v fp1 := by
            have := vr.ow
            rwa [he] at this
          obtain ⟨f1, o1, h1⟩ : ∃ f1, Ow (fun a => inS S0 F [] a ∨ a ∈ fp1) H1 m r.d v f1 ∧ ∀ a ∈ f1, a ∈ fp1 := by
            rcases hk with z | z
            · exact ⟨[], (scal_ow z ow m).1, fun a ha => by cases ha⟩
            · exact ⟨fp1, z ▸ ow, fun a ha => ha⟩
          have th := Ow.there _ _ _ _ ow
          have E1 : EE (fun a => S0 a ∨ a ∈ fp1) ρ σ H1 F := E.ext s1 (fun b h => h.imp id fun h => n1 b h) fun b h => h.elim (fun h => (E.grow s1).out b h) (th b)
          refine mix_run hq nd E1 _ fun xs H' fp sm al hf => q (v :: xs) H' (f1 ++ fp) (s1.trans sm) ⟨v, xs, f1, fp, rfl, Ow.imp (fun b o hb nn => ⟨sm _ _ hb, fun z => ?_⟩) _ _ _ _ (fun b o _ hb => sm _ _ hb) o1, al.imp fun d w g _ po => Ow.imp (fun b o hb nn => ⟨hb, fun z => ?_⟩) _ _ _ _ (fun b o _ hb => hb) po, rfl, fun a ha hb => ?_⟩ fun a ha => ?_
          · rcases z with z | z
            · exact nn (.inl z)
            · rcases List.mem_append.mp z with z | z
              · exact nn (.inr (h1 b z))
              · rcases hf b z with ⟨j, _, z⟩ | z
                · exact nn (.inl (.inr ⟨j, by simp, z⟩))
                · rw [z] at hb; cases hb
          · rcases z with z | z
            · exact nn (.inl (z.imp .inl id))
            · rcases List.mem_append.mp z with z | z
              · exact nn (.inl (.inl (.inr (h1 b z))))
              · exact nn (.inr z)
          · rcases hf a hb with ⟨j, hj, hb⟩ | hb
            · obtain ⟨o, ho, _⟩ := E.trk j a hb
              rw [n1 a (h1 a ha)] at ho; cases ho
            · obtain ⟨o, ho, _⟩ := th a (h1 a ha)
              rw [hb] at ho; cases ho
          · rcases List.mem_append.mp ha with ha | ha
            · exact .inr (n1 a (h1 a ha))
            · rcases hf a ha with hb | hb
              · exact .inl hb
              · exact .inr (s1.free hb)
      · cases h
    · cases h
def retMK (m : Nat) (ms : List MA) : Option (List D) → Out
  | some ds => if (lefts ms).Nodup ∧ ds.length ≤ sizeLine then .rt (.tup ds) (m + 2) else .bad
  | none => .bad
def sRetM (m : Nat) (ms : List MA) : FS := fun ρ => retMK m ms (getM (m + 1) ρ ms)
section
variable {X : Cx} {W : WK} {es : List Expr} {x1 : Nat} {p2 pos : Pos}
theorem s_retM {m : Nat} {ms : List MA} {e : Expr} (hp : PE X e (tTup (tMs W ms))) : PS X (.Return (some e) pos) (rdS W (sRetM m ms)) := by
  refine psI (ps_ret hp) fun Dn σ H ⟨S0, H0, ρ, F, E, p⟩ => ?_
  unfold sRetM retMK at p
  split at p
  · rename_i ds hds
    split at p
    · rename_i hc
      obtain ⟨nd, hz⟩ := hc
      refine mix_run hds nd E.ee _ fun xs H' fp s1 al hf => ⟨by rw [← al.length]; exact hz, fun q nq => ?_⟩
      have sm := same_upd (o := .tup xs) nq
      refine p (.ref q) _ fp (E.same.trans (s1.trans sm)) (fun a ha => ?_) ⟨q, xs, rfl, fun z => ?_, upd_same, al.imp fun d w g hg po => Ow.imp (fun b o hb nn => ⟨sm _ _ hb, fun z => nn ?_⟩) _ _ _ _ (fun b o _ hb => sm _ _ hb) po⟩
      · rcases hf a ha with ⟨i, _, h⟩ | h
        · exact E.new i a h
        · exact E.same.free h
      · rcases z with z | z
        · obtain ⟨o, h, _⟩ := E.ee.out q z
          rw [s1.free nq] at h; cases h
        · have := AllF.there (fun d v f h => Ow.there _ d v f h) al q z
          obtain ⟨o, h, _⟩ := this
          rw [nq] at h; cases h
      · rcases z with z | z
        · exact .inl (.inl z)
        · exact .inr z
    · exact p.elim
  · exact p.elim
end
section
variable {τ α : Type} [Enc τ] [Enc α] {S : Spec} {ρ : Ev} {m i : Nat} {ms : List MA} {ds : List D} {kk : Option Nat} {C : List Nat}
theorem sp_retM {v : τ} (hv : enc v = .tup ds) (hn : (lefts ms).Nodup) (hl : ds.length ≤ 1000) (h : ∀ ρ, Env ρ S → getM (m + 1) ρ ms = some ds) : SpS S (sRetM m ms) (Prt v (some (m + 2))) := fun ρ z => by
  refine ⟨m + 2, ?_, fun q hq => by cases hq; rfl⟩
  unfold sRetM
  rw [h ρ z]
  unfold retMK
  rw [hv]
  exact if_pos ⟨hn, szn _ hl⟩
theorem gm_nil : getM (m + 1) ρ [] = some [] := rfl
theorem gm_s [EncS α] {v : α} (z : Env ρ S) (h : S[i]? = some (some (enc v, kk))) (t : getM (m + 1) ρ ms = some ds) : getM (m + 1) ρ (.inl i :: ms) = some (enc v :: ds) := by
  obtain ⟨k, e0, _⟩ := z.2 i _ h
  unfold getM
  rw [e0]
  simp only
  rw [if_pos (.inl (EncS.sc v)), t]; rfl
theorem gm_k {v : α} (z : Env ρ S) (h : S[i]? = some (some (enc v, some (m + 1)))) (t : getM (m + 1) ρ ms = some ds) : getM (m + 1) ρ (.inl i :: ms) = some (enc v :: ds) := by
  obtain ⟨k, e0, hk⟩ := z.2 i _ h
  unfold getM
  rw [e0]
  simp only
  rw [if_pos (.inr (hk _ rfl)), t]; rfl
theorem no_e {e : List Nat} (h : ∀ i ∈ e, i ∈ ([] : List Nat)) : e = [] := by
  cases e with
  | nil => rfl
  | cons j e => exact absurd (h j List.mem_cons_self) (fun z => by cases z)
theorem gm_x [EncS α] {v : α} {f : FE} (z : Env ρ S) (h : RE S f v kk [] C) (t : getM (m + 1) ρ ms = some ds) : getM (m + 1) ρ (.inr f :: ms) = some (enc v :: ds) := by
  obtain ⟨r, e, g⟩ := h ρ z
  obtain ⟨k1, e1, c1, rfl, _, he, _⟩ := rd1 g
  unfold getM
  rw [e]
  simp only
  rw [if_pos ⟨no_e he, .inl (EncS.sc v)⟩, t]; rfl
theorem gm_e {v : α} {f : FE} (z : Env ρ S) (h : RE S f v (some (m + 1)) [] C) (t : getM (m + 1) ρ ms = some ds) : getM (m + 1) ρ (.inr f :: ms) = some (enc v :: ds) := by
  obtain ⟨r, e, g⟩ := h ρ z
  obtain ⟨k1, e1, c1, rfl, hk, he, _⟩ := rd1 g
  unfold getM
  rw [e]
  simp only
  rw [if_pos ⟨no_e he, .inr (hk _ rfl)⟩, t]; rfl
end
end PyL

/-! ### values of any kind read as typed ones -/
namespace PyL
open PySem PySem.Spec L2 Enc
class EncU (α : Type) [Enc α] where
  un : D → Option α
  ok : ∀ (d : D) (a : α), un d = some a → enc a = d
instance : EncU Int := ⟨zInt, fun d a h => by cases d <;> first | (cases h; done) | (cases h; rfl)⟩
instance : EncU Bool := ⟨zBool, fun d a h => by cases d <;> first | (cases h; done) | (cases h; rfl)⟩
instance : EncU Str := ⟨zStr, fun d a h => by cases d <;> first | (cases h; done) | (cases h; rfl)⟩
instance : EncU D := ⟨some, fun d a h => by cases h; rfl⟩
section
variable {α β γ : Type} [Enc α] [Enc β] [Enc γ] [EncU α] [EncU β] [EncU γ]
def unL (α : Type) [Enc α] [EncU α] : List D → Option (List α)
  | [] => some []
  | d :: ds => (EncU.un d).bind fun a => (unL α ds).bind fun xs => some (a :: xs)
theorem unL_ok : ∀ (ds : List D) (xs : List α), unL α ds = some xs → xs.map enc = ds
  | [], xs, h => by cases h; rfl
  | d :: ds, xs, h => by
    unfold unL at h
    cases q : (EncU.un d : Option α) with
    | none => rw [q] at h; cases h
    | some a =>
      rw [q] at h
      cases q2 : unL α ds with
      | none => rw [q2] at h; cases h
      | some ys =>
        rw [q2] at h
        cases h
        rw [List.map_cons, EncU.ok d a q, unL_ok ds ys q2]
def unLst (α : Type) [Enc α] [EncU α] : D → Option (List α)
  | .lst ds => unL α ds
  | _ => none
instance : EncU (List α) := ⟨unLst α, fun d a h => by
  cases d <;> first | (cases h; done) | skip
  rename_i ds
  show D.lst (a.map enc) = D.lst ds
  rw [unL_ok ds a h]⟩
def unT2 (α β : Type) [Enc α] [Enc β] [EncU α] [EncU β] : D → Option (T2 α β)
  | .tup [a, b] => (EncU.un a).bind fun x => (EncU.un b).bind fun y => some ⟨x, y⟩
  | _ => none
instance : EncU (T2 α β) := ⟨unT2 α β, fun d t h => by
  unfold unT2 at h
  split at h
  · rename_i a b
    cases q : (EncU.un a : Option α) with
    | none => rw [q] at h; cases h
    | some x =>
      rw [q] at h
      cases q2 : (EncU.un b : Option β) with
      | none => rw [q2] at h; cases h
      | some y =>
        rw [q2] at h
        cases h
        show D.tup [enc x, enc y] = _
        rw [EncU.ok a x q, EncU.ok b y q2]
  · cases h⟩
def unT3 (α β γ : Type) [Enc α] [Enc β] [Enc γ] [EncU α] [EncU β] [EncU γ] : D → Option (T3 α β γ)
  | .tup [a, b, c] => (EncU.un a).bind fun x => (EncU.un b).bind fun y => (EncU.un c).bind fun z => some ⟨x, y, z⟩
  | _ => none
instance : EncU (T3 α β γ) := ⟨unT3 α β γ, fun d t h => by
  unfold unT3 at h
  split at h
  · rename_i a b c
    cases q : (EncU.un a : Option α) with
    | none => rw [q] at h; cases h
    | some x =>
      rw [q] at h
      cases q2 : (EncU.un b : Option β) with
      | none => rw [q2] at h; cases h
      | some y =>
        rw [q2] at h
        cases q3 : (EncU.un c : Option γ) with
        | none => rw [q3] at h; cases h
        | some z =>
          rw [q3] at h
          cases h
          show D.tup [enc x, enc y, enc z] = _
          rw [EncU.ok a x q, EncU.ok b y q2, EncU.ok c z q3]
  · cases h⟩
end
/-- a value of any kind, read as one of type α -/
def zUn (α : Type) [Enc α] [EncU α] (d : D) : Option α := EncU.un d
theorem re_zUn {α : Type} [Enc α] [EncU α] {S : Spec} {fa : FE} {ka : Option Nat} {Ea Ca : List Nat} {d : D} {v : α} (ha : RE S fa d ka Ea Ca) (h : zUn α d = some v) : RE S fa v ka Ea Ca := re_cv (EncU.ok d v h) ha
theorem zUn_enc {α : Type} [Enc α] [EncU α] {x : α} (h : EncU.un (enc x) = some x) : zUn α (enc x) = some x := h
/-! ### a list whose lists are held no longer -/
def gFlat : R → Res R
  | ⟨.lst ds, _ + 1, e, c⟩ => .ok ⟨.lst ds, 1, e, c⟩
  | _ => .bad
def fFlat (f : FE) : FE := fun ρ => (f ρ).bind gFlat
theorem e_flat {X : Cx} {W : WK} {e : Expr} {f : FE} (h : PE X e (rdE W f)) : PE X e (rdE W (fFlat f)) := peI h fun σ H Q ⟨S0, ρ, F, E, p⟩ => by
  refine ⟨S0, ρ, F, E, ?_⟩
  unfold fFlat at p
  cases q : f ρ with
  | bad => rw [q] at p; exact p
  | exn x => rw [q] at p; exact p
  | ok r =>
    rw [q] at p
    intro v H' fp s n vr
    have p : Post W S0 F σ H Q (gFlat r) := p
    obtain ⟨d, k, e', c⟩ := r
    cases d with
    | lst ds =>
      cases k with
      | zero => exact p.elim
      | succ k =>
        obtain ⟨a, xs, fq, ev, ha, al, ef, nd⟩ := vr.ow
        have aF : a ∈ fp := by rw [ef]; exact List.mem_cons_self
        have fqF : ∀ b ∈ fq, b ∈ fp := fun b hb => by rw [ef]; exact List.mem_cons_of_mem _ hb
        have nin := E.nin n e'
        have l0 : RpL (fun b => inS S0 F e' b ∨ b = a) H' ds xs := al.frzn (fun b z => z.imp id fun z => by rw [z]; exact aF) fun b hb z => z.elim (fun z => nin b (fqF b hb) z) fun z => nd (z ▸ hb)
        exact p v H' [a] s (fun b hb => by rw [List.mem_singleton.mp hb]; exact n a aF) ⟨⟨a, xs, [], ev, ha, all_zero (RpL.imp (fun b o q n => ⟨q, fun z => n (z.imp id fun z => List.mem_singleton.mp z)⟩) _ _ l0), rfl, by simp⟩, vr.it⟩
    | non => exact p.elim
    | bl _ => exact p.elim
    | int _ => exact p.elim
    | str _ => exact p.elim
    | tup _ => exact p.elim
    | dK _ => exact p.elim
    | exc _ _ _ _ _ => exact p.elim
    | dT _ => exact p.elim
    | scr _ _ => exact p.elim
theorem re_flat {α : Type} [Enc α] {S : Spec} {fa : FE} {k : Nat} {Ea Ca : List Nat} {xs : List α} (ha : RE S fa xs (some (k + 1)) Ea Ca) : RE S (fFlat fa) xs (some 1) Ea Ca := fun ρ z => by
  obtain ⟨r, e, g⟩ := ha ρ z
  obtain ⟨k1, e1, c1, rfl, h1, h2, h3⟩ := rd1 g
  have : k1 = k + 1 := h1 _ rfl
  subst this
  refine ⟨⟨enc xs, 1, e1, c1⟩, ?_, rfl, fun m z => by cases z; rfl, h2, h3⟩
  unfold fFlat
  rw [e]
  rfl
/-! ### for i in reversed(range(..)) -/
def revR (a b : Int) : Res IR := if InR a ∧ InR b then .ok ⟨rcD (a + (((b - a).toNat : Nat) : Int) - 1) (-1) (b - a).toNat, [], []⟩ else .bad
def gRevR1 (r : R) : Res IR := match r.d with
  | .int n => revR 0 n
  | _ => .bad
def gRevR2 (r q : R) : Res IR := match r.d, q.d with
  | .int a, .int b => revR a b
  | _, _ => .bad
def fRevR1 (f : FE) : FI := fun ρ => (f ρ).bind gRevR1
def fRevR2 (f g : FE) : FI := fun ρ => (f ρ).bind fun r => (g ρ).bind (gRevR2 r)
instance (x : Int) : Decidable (InR x) := inferInstanceAs (Decidable (_ ∧ _))
section
variable {X : Cx} {W : WK}
theorem revR_ok {W : WK} {S0 : PA1} {F : FP} {σ : St} {H : Hp} {Rk : L2.It → Hp → Prop} {a b : Int} (p : PostI W S0 F σ H Rk (revR a b)) : -(2 ^ 62) ≤ a ∧ a < 2 ^ 62 ∧ -(2 ^ 62) ≤ b ∧ b < 2 ^ 62 ∧ Rk (Itc (a + (((b - a).toNat : Nat) : Int) - 1) (-1) (b - a).toNat) H := by
  unfold revR at p
  split at p
  · rename_i h
    exact ⟨h.1.1, h.1.2, h.2.1, h.2.2, p _ H (Same.refl H) (jok_rngC _ _ _)⟩
  · exact p.elim
theorem i_revR1 {tg a : Expr} {fa : FE} {p p2 pos pos2 : Pos} (hg : Gl X "reversed") (hm : X.mg "reversed" = none) (hg2 : Gl X "range") (hm2 : X.mg "range" = none) (ha : PE X a (rdE W fa)) (na : starEach [a] X.env = (false, eval a X.env) :: starEach [] X.env := by rfl)
    (hs : starEach [.Call (.Name "range" p2) [a] [] pos2] X.env = (false, eval (.Call (.Name "range" p2) [a] [] pos2) X.env) :: starEach [] X.env := by rfl) : PI X tg (.Call (.Name "reversed" p) [.Call (.Name "range" p2) [a] [] pos2] [] pos) (rdI W (fRevR1 fa)) := by
  refine piI (pi_revR hg hm (prg_1 hg2 hm2 ha na) hs) fun σ H Rk ⟨S0, ρ, F, E, p⟩ => ?_
  show rdE W fa σ H _
  refine postI_bind E p fun r v H1 fp _ s1 n1 v1 E1 p1 => ?_
  have z := v1.fz (E.nin n1 _)
  unfold gRevR1 at p1
  split at p1
  · rename_i n e
    exact ⟨n, z.int e, revR_ok p1⟩
  · exact p1.elim
theorem i_revR2 {tg a b : Expr} {fa fb : FE} {p p2 pos pos2 : Pos} (hg : Gl X "reversed") (hm : X.mg "reversed" = none) (hg2 : Gl X "range") (hm2 : X.mg "range" = none) (ha : PE X a (rdE W fa)) (hb : PE X b (rdE W fb)) (na : starEach [a, b] X.env = (false, eval a X.env) :: starEach [b] X.env := by rfl)
    (nb : starEach [b] X.env = (false, eval b X.env) :: starEach [] X.env := by rfl) (hpp : (backTo pos2 (starEach [b] X.env)).any (·.1) = false := by rfl)
    (hs : starEach [.Call (.Name "range" p2) [a, b] [] pos2] X.env = (false, eval (.Call (.Name "range" p2) [a, b] [] pos2) X.env) :: starEach [] X.env := by rfl) : PI X tg (.Call (.Name "reversed" p) [.Call (.Name "range" p2) [a, b] [] pos2] [] pos) (rdI W (fRevR2 fa fb)) := by
  refine piI (pi_revR hg hm (prg_2 hg2 hm2 ha hb na nb hpp) hs) fun σ H Rk ⟨S0, ρ, F, E, p⟩ => ?_
  show rdE W fa σ H _
  refine postI_bind E p fun r v H1 fp _ s1 n1 v1 E1 p1 => ?_
  refine postI_bind E1 p1 fun r2 v2 H2 fp2 _ s2 n2 v2' E2 p2 => ?_
  have z := (v1.fz (E.nin n1 _)).grow s2
  have z2 := v2'.fz (E1.nin n2 _)
  unfold gRevR2 at p2
  split at p2
  · rename_i i j e1 e2
    exact ⟨i, j, z.int e1, z2.int e2, revR_ok p2⟩
  · exact p2.elim
end
def zRevR (a b : Int) : Option (List Int) := if InR a ∧ InR b then some (rgI2 a (b - a).toNat).reverse else none
theorem rcD_rev {a : Int} {n : Nat} : rcD (a + (n : Int) - 1) (-1) n = (rgI2 a n).reverse.map enc := by
  refine List.ext_getElem? fun i => ?_
  unfold rcD rgI2
  by_cases h : i < n
  · rw [List.getElem?_map, List.getElem?_map, List.getElem?_range h, List.getElem?_reverse (by simp; exact h), List.getElem?_map, List.length_map, List.length_range, List.getElem?_range (by omega)]
    show some (D.int (a + (n : Int) - 1 + (i : Int) * (-1))) = some (D.int (a + ((n - 1 - i : Nat) : Int)))
    congr 2
    omega
  · rw [List.getElem?_eq_none (by simp; omega), List.getElem?_eq_none (by simp; omega)]
theorem ri_revR1 {S : Spec} {fa : FE} {a : Int} {ka : Option Nat} {Ea Ca : List Nat} {xs : List Int} (ha : RE S fa a ka Ea Ca) (h : zRevR 0 a = some xs) : RI S (fRevR1 fa) xs [] [] := fun ρ z => by
  obtain ⟨ra, ea, g1⟩ := ha ρ z
  obtain ⟨k1, e1, c1, rfl, _⟩ := rd1 g1
  unfold zRevR at h
  split at h
  · rename_i hc
    cases h
    refine ⟨⟨rcD (0 + (((a - 0).toNat : Nat) : Int) - 1) (-1) (a - 0).toNat, [], []⟩, ?_, rcD_rev, fun j hj => (by cases hj), fun j hj => (by cases hj)⟩
    show (fa ρ).bind gRevR1 = _
    rw [ea]
    show revR 0 a = _
    unfold revR
    rw [if_pos hc]
  · cases h
theorem ri_revR2 {S : Spec} {fa fb : FE} {a b : Int} {ka kb : Option Nat} {Ea Ca Eb Cb : List Nat} {xs : List Int} (ha : RE S fa a ka Ea Ca) (hb : RE S fb b kb Eb Cb) (h : zRevR a b = some xs) : RI S (fRevR2 fa fb) xs [] [] := fun ρ z => by
  obtain ⟨ra, ea, g1⟩ := ha ρ z
  obtain ⟨rb, eb, g2⟩ := hb ρ z
  obtain ⟨k1, e1, c1, rfl, _⟩ := rd1 g1
  obtain ⟨k2, e2, c2, rfl, _⟩ := rd1 g2
  unfold zRevR at h
  split at h
  · rename_i hc
    cases h
    refine ⟨⟨rcD (a + (((b - a).toNat : Nat) : Int) - 1) (-1) (b - a).toNat, [], []⟩, ?_, rcD_rev, fun j hj => (by cases hj), fun j hj => (by cases hj)⟩
    show (fa ρ).bind (fun r => (fb ρ).bind (gRevR2 r)) = _
    rw [ea]
    show (fb ρ).bind (gRevR2 _) = _
    rw [eb]
    show revR a b = _
    unfold revR
    rw [if_pos hc]
  · cases h
end PyL

namespace PyL
open PySem PySem.Spec L2
open Enc (enc)
set_option autoImplicit false
/-! ### the typed operations, answered -/
section
variable {α β σ τ : Type}
theorem zb {a : α} {f : α → Option β} : (some a).bind f = f a := nr rfl
theorem zAnd_t {o : Option Bool} : zAnd true o = o := nr rfl
theorem zAnd_f {o : Option Bool} : zAnd false o = some false := nr rfl
theorem zOr_t {o : Option Bool} : zOr true o = some true := nr rfl
theorem zOr_f {o : Option Bool} : zOr false o = o := nr rfl
theorem zif_t {x y : α} : (if true = true then x else y) = x := if_pos rfl
theorem zif_f {x y : α} : (if false = true then x else y) = y := if_neg (by decide)
theorem zLst_ok {xs : List α} (h : xs.length ≤ 1000000) : zLst xs = some xs := if_pos (small' h)
theorem zApp_ok {xs : List α} {v : α} (h : xs.length ≤ 1000000) : zApp xs v = some (xs ++ [v]) := if_pos (small h)
theorem zMul_c {a b : Int} (h : CMulL a b) : zMul a b = some (a * b) := if_pos h
theorem mulS {a b : Int} (h1 : -1000000000000000000000000 ≤ a) (h2 : a ≤ 1000000000000000000000000) (h3 : -1000000000000000000000000 ≤ b) (h4 : b ≤ 1000000000000000000000000) : CMulL a b :=
  Bd.mulOk (k := 80) (m := 80) (Bd.of 1000000000000000000000001 (by omega) (by decide)) (Bd.of 1000000000000000000000001 (by omega) (by decide)) (by decide)
theorem zMul_ok {a b : Int} (h1 : -1000000000000000000000000 ≤ a) (h2 : a ≤ 1000000000000000000000000) (h3 : -1000000000000000000000000 ≤ b) (h4 : b ≤ 1000000000000000000000000) : zMul a b = some (a * b) := zMul_c (mulS h1 h2 h3 h4)
theorem zMul_b {a b : Int} {k m : Nat} (h : Bd k a) (h' : Bd m b) (hk : k + m ≤ 1000000) : zMul a b = some (a * b) := zMul_c (h.mulOk h' hk)
theorem zMod_ok {a b : Int} (h : 0 < b) : zMod a b = some (a % b) := by
  unfold zMod
  rw [if_neg (by omega), Int.fmod_eq_emod_of_nonneg _ (by omega)]
theorem zDiv_c {a b : Int} (h : 0 < b) (h2 : b.natAbs.log2 < 9000) : zDiv a b = some (a / b) := by
  unfold zDiv
  rw [if_pos ⟨by omega, .inl h2⟩, Int.fdiv_eq_ediv_of_nonneg _ (by omega)]
/-- a division that comes out even -/
theorem zDiv_e {a b q : Int} (h : a = b * q) (hb : b ≠ 0) (h2 : b.natAbs.log2 < 9000 ∨ a.natAbs.log2 < b.natAbs.log2 + 4400) : zDiv a b = some q := by
  unfold zDiv
  rw [if_pos ⟨hb, h2⟩, h, Int.mul_fdiv_cancel_left _ hb]
theorem zDiv_b {a b : Int} {k : Nat} (h : 0 < b) (hb : Bd k b) (hk : k ≤ 9000) (hk0 : 0 < k) : zDiv a b = some (a / b) := zDiv_c h (Nat.lt_of_lt_of_le (hb.log2 hk0) hk)
theorem zDiv_ok {a b : Int} (h : 0 < b) (h2 : b ≤ 1000000000000000000000000) : zDiv a b = some (a / b) := zDiv_b (k := 80) h (Bd.of 1000000000000000000000001 (by omega) (by decide)) (by decide) (by decide)
theorem zRng_ok {n : Nat} (h : n ≤ 1000000) : zRng (n : Int) = some (rgI n) := by
  unfold zRng
  rw [if_pos (InR.of (by omega) (by omega)), Int.toNat_natCast]
theorem zRng_i {n : Int} (h0 : 0 ≤ n) (h : n ≤ 1000000) : zRng n = some (rgI n.toNat) := by
  unfold zRng
  rw [if_pos (InR.of (by omega) (by omega))]
theorem zRng2_i {a b : Int} (h0 : -1000000 ≤ a) (h1 : a ≤ 1000000) (h2 : -1000000 ≤ b) (h3 : b ≤ 1000000) : zRng2 a b = some (rgI2 a (b - a).toNat) := by
  unfold zRng2
  rw [if_pos ⟨InR.of (by omega) (by omega), InR.of (by omega) (by omega)⟩]
theorem zLR_i {n : Int} (h0 : 0 ≤ n) (h : n ≤ 1000000) : zLR n = some (rgI n.toNat) := by
  unfold zLR
  rw [if_pos ⟨InR.of (by omega) (by omega), Nat.le_trans (show n.toNat ≤ 1000000 by omega) (by decide)⟩]
theorem zLR_ok {n : Nat} (h : n ≤ 1000000) : zLR (n : Int) = some (rgI n) := by rw [zLR_i (by omega) (by omega), Int.toNat_natCast]
theorem zMax_ok {ns : List Int} (h : 0 < ns.length) : zMax ns = some (maxL ns) := if_pos h
theorem zMin_ok {ns : List Int} (h : 0 < ns.length) : zMin ns = some (minL ns) := if_pos h
theorem rgI_len {n : Nat} : (rgI n).length = n := by simp [rgI]
theorem rgI_get {n i : Nat} (h : i < n) : (rgI n)[i]? = some (i : Int) := by simp [rgI, h]
theorem rgI_mem {n : Nat} {z : Int} : z ∈ rgI n ↔ ∃ i : Nat, i < n ∧ z = (i : Int) := by
  unfold rgI
  simp only [List.mem_map, List.mem_range]
  exact ⟨fun ⟨i, h, e⟩ => ⟨i, h, e.symm⟩, fun ⟨i, h, e⟩ => ⟨i, h, e.symm⟩⟩
theorem atI_ok {xs : List α} {i : Nat} {v : α} (h : xs[i]? = some v) : atI xs (i : Int) = some v := atI_nat h
theorem atI_z {xs : List α} {z : Int} {v : α} (h0 : 0 ≤ z) (h : xs[z.toNat]? = some v) : atI xs z = some v := by
  have := atI_nat h
  rwa [Int.toNat_of_nonneg h0] at this
theorem atI_D {xs : List Int} {z : Int} (h0 : 0 ≤ z) (h : z < xs.length) : atI xs z = some (xs.getD z.toNat 0) := by
  refine atI_z h0 ?_
  have h1 : z.toNat < xs.length := by omega
  rw [List.getElem?_eq_getElem h1]
  simp [List.getD, h1]
theorem atI_rg {n : Nat} {i : Nat} (h : i < n) : atI (rgI n) (i : Int) = some (i : Int) := atI_nat (rgI_get h)
theorem zMapM_ok {f : α → Option β} {g : α → β} : ∀ {xs : List α}, (∀ x ∈ xs, f x = some (g x)) → zMapM f xs = some (xs.map g)
  | [], _ => rfl
  | x :: xs, h => by
    unfold zMapM
    rw [h x List.mem_cons_self, zMapM_ok fun y hy => h y (List.mem_cons_of_mem _ hy)]; rfl
theorem zMapM_map {γ : Type} {f : α → Option β} {g : γ → α} {h : γ → β} : ∀ {xs : List γ}, (∀ x ∈ xs, f (g x) = some (h x)) → zMapM f (xs.map g) = some (xs.map h)
  | [], _ => rfl
  | x :: xs, e => by
    rw [List.map_cons]
    unfold zMapM
    rw [e x List.mem_cons_self, zb, zMapM_map fun y hy => e y (List.mem_cons_of_mem _ hy)]; rfl
theorem zFilM_ok {t : α → Option Bool} {f : α → Option β} {p : α → Bool} {g : α → β} : ∀ {xs : List α}, (∀ x ∈ xs, t x = some (p x)) → (∀ x ∈ xs, p x = true → f x = some (g x)) → zFilM (fun x => zSel (t x) (f x)) xs = some ((xs.filter p).map g)
  | [], _, _ => rfl
  | x :: xs, h, h' => by
    unfold zFilM zSel
    rw [h x List.mem_cons_self, zb]
    have ih := zFilM_ok (xs := xs) (fun y hy => h y (List.mem_cons_of_mem _ hy)) (fun y hy => h' y (List.mem_cons_of_mem _ hy))
    unfold zSel at ih
    rw [ih]
    cases q : p x with
    | false => simp [q]
    | true => simp [q, h' x List.mem_cons_self q]
/-- a loop, by what holds behind each item -/
theorem zFor_ex {f : α → σ → Option σ} (P : List α → σ → Prop) : ∀ {xs : List α} {s : σ} (ds : List α), P ds s → (∀ es x s, x ∈ xs → P es s → ∃ s', f x s = some s' ∧ P (es ++ [x]) s') → ∃ s', zFor f xs s = some s' ∧ P (ds ++ xs) s'
  | [], s, ds, h, _ => ⟨s, rfl, by rw [List.append_nil]; exact h⟩
  | x :: xs, s, ds, h, st => by
    obtain ⟨s1, e1, h1⟩ := st ds x s List.mem_cons_self h
    obtain ⟨s', e, h'⟩ := zFor_ex P (xs := xs) (s := s1) (ds ++ [x]) h1 fun es y s hy => st es y s (List.mem_cons_of_mem _ hy)
    refine ⟨s', ?_, by rw [List.append_assoc] at h'; exact h'⟩
    unfold zFor
    rw [e1, zb, e]
/-- .. by its place -/
theorem zFor_at {f : α → σ → Option σ} (P : Nat → σ → Prop) : ∀ {xs : List α} {s : σ} (j : Nat), P j s → (∀ i x s, xs[i]? = some x → P (j + i) s → ∃ s', f x s = some s' ∧ P (j + i + 1) s') → ∃ s', zFor f xs s = some s' ∧ P (j + xs.length) s'
  | [], s, j, h, _ => ⟨s, rfl, h⟩
  | x :: xs, s, j, h, st => by
    obtain ⟨s1, e1, h1⟩ := st 0 x s rfl h
    obtain ⟨s', e, h'⟩ := zFor_at P (xs := xs) (s := s1) (j + 1) h1 fun i y s hy hp => by
      have := st (i + 1) y s (by simpa using hy) (by rw [show j + (i + 1) = j + 1 + i by omega]; exact hp)
      rwa [show j + (i + 1) + 1 = j + 1 + i + 1 by omega] at this
    refine ⟨s', ?_, by rw [List.length_cons, show j + (xs.length + 1) = j + 1 + xs.length by omega]; exact h'⟩
    unfold zFor
    rw [e1, zb, e]
/-- over a list whose answer is known at each place -/
theorem zFor_eq {f : α → σ → Option σ} {xs : List α} (S : Nat → σ) (st : ∀ i x, xs[i]? = some x → f x (S i) = some (S (i + 1))) : zFor f xs (S 0) = some (S xs.length) := by
  obtain ⟨s', e, h⟩ := zFor_at (f := f) (fun j s => s = S j) (xs := xs) 0 rfl fun i x s hx hs => ⟨S (i + 1), by rw [hs, Nat.zero_add]; exact st i x hx, by rw [Nat.zero_add]⟩
  rw [Nat.zero_add] at h
  rw [e, h]
theorem zFor_rg {f : Int → σ → Option σ} {n : Nat} (S : Nat → σ) (st : ∀ i : Nat, i < n → f (i : Int) (S i) = some (S (i + 1))) : zFor f (rgI n) (S 0) = some (S n) := by
  have := zFor_eq (f := f) (xs := rgI n) S fun i x hx => by
    have hi : i < n := by have := (List.getElem?_eq_some_iff.mp hx).1; rwa [rgI_len] at this
    rw [rgI_get hi] at hx; cases hx
    exact st i hi
  rwa [rgI_len] at this
theorem zFor_rgP {f : Int → σ → Option σ} {n : Nat} (P : Nat → σ → Prop) {s : σ} (h : P 0 s) (st : ∀ (i : Nat) s, i < n → P i s → ∃ s', f (i : Int) s = some s' ∧ P (i + 1) s') : ∃ s', zFor f (rgI n) s = some s' ∧ P n s' := by
  obtain ⟨s', e, q⟩ := zFor_at (f := f) P (xs := rgI n) 0 h fun i x s hx hs => by
    have hi : i < n := by have := (List.getElem?_eq_some_iff.mp hx).1; rwa [rgI_len] at this
    rw [rgI_get hi] at hx; cases hx
    rw [Nat.zero_add] at hs ⊢
    exact st i s hi hs
  rw [Nat.zero_add, rgI_len] at q
  exact ⟨s', e, q⟩
/-- by a fold -/
theorem zFor_fold {f : α → σ → Option σ} {g : σ → α → σ} (I : σ → Prop) : ∀ {xs : List α} {s : σ}, I s → (∀ x s, x ∈ xs → I s → f x s = some (g s x) ∧ I (g s x)) → zFor f xs s = some (xs.foldl g s) ∧ I (xs.foldl g s)
  | [], s, h, _ => ⟨rfl, h⟩
  | x :: xs, s, h, st => by
    obtain ⟨e, h1⟩ := st x s List.mem_cons_self h
    obtain ⟨e2, h2⟩ := zFor_fold (g := g) I (xs := xs) h1 fun y s hy => st y s (List.mem_cons_of_mem _ hy)
    refine ⟨?_, h2⟩
    unfold zFor
    rw [e, zb, e2]; rfl
/-- a loop that never leaves -/
theorem zForC_go {f : α → σ → Option (Ctl σ τ)} {g : α → σ → Option σ} : ∀ {xs : List α} {s s' : σ}, (∀ x s s', x ∈ xs → g x s = some s' → f x s = some (.go s')) → zFor g xs s = some s' → zForC f xs s = some (.inl s')
  | [], s, s', _, h => by cases h; rfl
  | x :: xs, s, s', hf, h => by
    unfold zFor at h
    obtain ⟨s1, h1, h⟩ := bnd h
    unfold zForC
    rw [hf x s s1 List.mem_cons_self h1, zb]
    exact zForC_go (fun y u u' hy => hf y u u' (List.mem_cons_of_mem _ hy)) h
theorem zForC_unit {f : α → Unit → Option (Ctl Unit τ)} : ∀ {xs : List α}, (∀ x ∈ xs, f x () = some (.go ())) → zForC f xs () = some (.inl ())
  | [], _ => rfl
  | x :: xs, h => by
    unfold zForC
    rw [h x List.mem_cons_self, zb]
    exact zForC_unit fun y hy => h y (List.mem_cons_of_mem _ hy)
/-- .. at one item it returns -/
theorem zForC_ret {f : α → Unit → Option (Ctl Unit τ)} {r : τ} : ∀ {xs : List α}, (∀ x ∈ xs, f x () = some (.go ()) ∨ f x () = some (.ret r)) → (∃ x ∈ xs, f x () = some (.ret r)) → zForC f xs () = some (.inr r)
  | [], _, ⟨_, h, _⟩ => by cases h
  | x :: xs, h, ⟨y, hy, e⟩ => by
    unfold zForC
    rcases h x List.mem_cons_self with q | q
    · rw [q, zb]
      rcases List.mem_cons.mp hy with z | z
      · subst z; rw [e] at q; cases q
      · exact zForC_ret (fun y hy => h y (List.mem_cons_of_mem _ hy)) ⟨y, z, e⟩
    · rw [q, zb]
/-- a judge: false at the first item that does not pass -/
theorem zForC_judge {f : α → Unit → Option (Ctl Unit Bool)} {p : α → Bool} {xs : List α} (h : ∀ x ∈ xs, f x () = some (if p x = true then .go () else .ret false)) : zForC f xs () = some (if xs.all p = true then .inl () else .inr false) := by
  by_cases q : xs.all p = true
  · rw [if_pos q]
    exact zForC_unit fun x hx => by rw [h x hx, if_pos (List.all_eq_true.mp q x hx)]
  · rw [if_neg q]
    refine zForC_ret (fun x hx => ?_) ?_
    · rw [h x hx]; by_cases z : p x = true
      · rw [if_pos z]; exact .inl rfl
      · rw [if_neg z]; exact .inr rfl
    · have : ∃ x ∈ xs, ¬ p x = true := by
        refine Classical.byContradiction fun n => q (List.all_eq_true.mpr fun x hx => ?_)
        exact Classical.byContradiction fun z => n ⟨x, hx, z⟩
      obtain ⟨x, hx, z⟩ := this
      exact ⟨x, hx, by rw [h x hx, if_neg z]⟩
/-- while, by a measure -/
theorem zWhile_ex {t : σ → Option Bool} {f : σ → Option σ} (I : σ → Prop) (m : σ → Nat) (Q : σ → Prop) (st : ∀ s, I s → (t s = some false ∧ Q s) ∨ (t s = some true ∧ ∃ s', f s = some s' ∧ I s' ∧ m s' < m s)) : ∀ (n : Nat) (s : σ), I s → m s < n → ∃ s', zWhile t f n s = some s' ∧ Q s'
  | 0, s, _, h => by omega
  | n + 1, s, h, hm => by
    rcases st s h with ⟨e, q⟩ | ⟨e, s', e2, h2, hm2⟩
    · refine ⟨s, ?_, q⟩
      unfold zWhile
      rw [e, zb]; rfl
    · obtain ⟨s2, e3, q⟩ := zWhile_ex I m Q st n s' h2 (by omega)
      refine ⟨s2, ?_, q⟩
      unfold zWhile
      rw [e, zb, if_pos rfl, e2, zb, e3]
end
theorem zCut_take {α : Type} {xs : List α} (m : Nat) : zCut xs none (some (m : Int)) = xs.take m := by
  unfold zCut
  rw [HT.sIx_none, HT.sIx_nat, List.drop_zero, Nat.sub_zero]
  by_cases h : m ≤ xs.length
  · rw [Nat.min_eq_left h]
  · rw [Nat.min_eq_right (by omega), List.take_of_length_le (Nat.le_refl _), List.take_of_length_le (by omega)]
theorem zCut_drop {α : Type} {xs : List α} (m : Nat) : zCut xs (some (m : Int)) none = xs.drop m := by
  unfold zCut
  rw [HT.sIx_none, HT.sIx_nat]
  by_cases h : m ≤ xs.length
  · rw [Nat.min_eq_left h, List.take_of_length_le (by rw [List.length_drop]; omega)]
  · rw [Nat.min_eq_right (by omega), List.drop_eq_nil_of_le (by omega : xs.length ≤ m), List.drop_length, List.take_nil]
theorem zCut_tz {α : Type} {xs : List α} {z : Int} (h : 0 ≤ z) : zCut xs none (some z) = xs.take z.toNat := by
  have := zCut_take (xs := xs) z.toNat
  rwa [Int.toNat_of_nonneg h] at this
theorem zCut_dz {α : Type} {xs : List α} {z : Int} (h : 0 ≤ z) : zCut xs (some z) none = xs.drop z.toNat := by
  have := zCut_drop (xs := xs) z.toNat
  rwa [Int.toNat_of_nonneg h] at this
/-! the draws -/
structure Drs (L : List Int) (n : Nat) : Prop where
  len : L.length = n
  ok : OkN L
theorem Drs.at {L : List Int} {n : Nat} (h : Drs L n) {z : Int} (h0 : 0 ≤ z) (h1 : z < n) : atI L z = some (L.getD z.toNat 0) := atI_D h0 (by rw [h.len]; exact h1)
theorem Drs.bd {L : List Int} {n : Nat} (h : Drs L n) (i : Nat) : 0 ≤ L.getD i 0 ∧ L.getD i 0 < 1000003 := by
  by_cases hi : i < L.length
  · have : L.getD i 0 ∈ L := by
      rw [show L.getD i 0 = L[i] by simp [List.getD, hi]]
      exact List.getElem_mem hi
    have := h.ok _ this
    omega
  · rw [show L.getD i 0 = 0 by simp [List.getD, List.getElem?_eq_none (Nat.le_of_not_lt hi)]]
    omega
end PyL

namespace PyL
open PySem PySem.Spec L2
open Enc (enc)
set_option autoImplicit false
/-! ### vectors -/
theorem vec_z {n : Nat} {f : Nat → Int} {z : Int} (h0 : 0 ≤ z) (h : z < n) : atI (vec n f) z = some (f z.toNat) := atI_z h0 (vec_get (by omega))
theorem vec_n {n : Nat} {f : Nat → Int} {i : Nat} (h : i < n) : atI (vec n f) (i : Int) = some (f i) := atI_ok (vec_get h)
theorem vec_st {n : Nat} {f : Nat → Int} {z v : Int} (h0 : 0 ≤ z) (h : z < n) : zStore (vec n f) z v = some (vec n (upd1 f z.toNat v)) := by
  unfold zStore
  rw [vec_len]
  have := ixN_nat (n := n) (j := z.toNat) (by omega)
  rw [Int.toNat_of_nonneg h0] at this
  rw [this, zb, vec_set]
theorem rgI_map {n : Nat} {f : Int → Int} : (rgI n).map f = vec n fun i => f (i : Int) := by unfold rgI vec; rw [List.map_map]; rfl
theorem rgI_mapM {n : Nat} {f : Int → Option Int} {g : Nat → Int} (h : ∀ i : Nat, i < n → f (i : Int) = some (g i)) : zMapM f (rgI n) = some (vec n g) := by
  rw [zMapM_ok (g := fun z => g z.toNat) fun x hx => by
    obtain ⟨i, hi, rfl⟩ := rgI_mem.mp hx
    rw [h i hi, Int.toNat_natCast], rgI_map]
  simp only [Int.toNat_natCast]
theorem rgI_mapG {β : Type} {n : Nat} {f : Int → Option β} {g : Nat → β} (h : ∀ i : Nat, i < n → f (i : Int) = some (g i)) : zMapM f (rgI n) = some ((List.range n).map g) := by
  rw [zMapM_ok (g := fun z => g z.toNat) fun x hx => by
    obtain ⟨i, hi, rfl⟩ := rgI_mem.mp hx
    rw [h i hi, Int.toNat_natCast]]
  unfold rgI
  rw [List.map_map]
  congr 1
theorem zRep0 {n : Nat} {c : Int} (h : n ≤ 1000000) : zRep [c] (n : Int) = some (vec n fun _ => c) := by
  unfold zRep
  rw [if_pos ⟨by omega, by omega, by rw [Int.toNat_natCast]; show 1 * n ≤ _; exact small' (by omega)⟩]
  rw [Int.toNat_natCast]
  congr 1
  unfold vec
  rw [List.map_const', List.length_range]
  induction n with
  | zero => rfl
  | succ n ih => rw [List.replicate_succ, List.flatten_cons, ih (by omega), List.replicate_succ]; rfl
/-! ### links -/
abbrev Lnk := T3 Int Int Int
structure Pk (n : Nat) (ls : List Lnk) : Prop where
  few : ls.length ≤ 1000
  ok : ∀ l ∈ ls, 0 ≤ l.a ∧ l.a < n ∧ 0 ≤ l.b ∧ l.b < n ∧ 1 ≤ l.c ∧ l.c ≤ 1000000
theorem Pk.sub {n : Nat} {ls ks : List Lnk} (h : Pk n ls) (hl : ks.length ≤ 1000) (hs : ∀ l ∈ ks, l ∈ ls) : Pk n ks := ⟨hl, fun l hk => h.ok l (hs l hk)⟩
theorem Pk.rev {n : Nat} {ls : List Lnk} (h : Pk n ls) : Pk n ls.reverse := h.sub (by rw [List.length_reverse]; exact h.few) fun l hl => List.mem_reverse.mp hl
theorem Pk.snoc {n : Nat} {ls : List Lnk} {l : Lnk} (h : Pk n ls) (hl : ls.length < 1000) (ho : 0 ≤ l.a ∧ l.a < n ∧ 0 ≤ l.b ∧ l.b < n ∧ 1 ≤ l.c ∧ l.c ≤ 1000000) : Pk n (ls ++ [l]) := ⟨by rw [List.length_append]; show ls.length + 1 ≤ 1000; omega, fun k hk => by
  rcases List.mem_append.mp hk with hk | hk
  · exact h.ok k hk
  · rw [List.mem_singleton.mp hk]; exact ho⟩
theorem Pk.add {n : Nat} {ls : List Lnk} {a b c : Int} (h : Pk n ls) (hl : ls.length < 1000) (h1 : 0 ≤ a) (h2 : a < n) (h3 : 0 ≤ b) (h4 : b < n) (h5 : 1 ≤ c) (h6 : c ≤ 1000000) : Pk n (ls ++ [⟨a, b, c⟩]) := h.snoc hl ⟨h1, h2, h3, h4, h5, h6⟩
theorem Pk.nil {n : Nat} : Pk n [] := ⟨by decide, fun l h => by cases h⟩
theorem Pk.bd {n : Nat} {ls : List Lnk} (h : Pk n ls) {l : Lnk} (hl : l ∈ ls) : Bd 20 l.c := Bd.of 1000001 (by have := h.ok l hl; omega) (by decide)
def sumK (ls : List Lnk) (g : Lnk → Int) : Int := (ls.map g).sum
theorem sumK_nil {g : Lnk → Int} : sumK [] g = 0 := rfl
theorem sumK_cons {l : Lnk} {ls : List Lnk} {g : Lnk → Int} : sumK (l :: ls) g = g l + sumK ls g := by unfold sumK; rw [List.map_cons, List.sum_cons]
theorem sumK_snoc {l : Lnk} {ls : List Lnk} {g : Lnk → Int} : sumK (ls ++ [l]) g = sumK ls g + g l := by unfold sumK; rw [List.map_append, List.sum_append]; simp
theorem sumK_congr {ls : List Lnk} {g h : Lnk → Int} (e : ∀ l ∈ ls, g l = h l) : sumK ls g = sumK ls h := by unfold sumK; rw [List.map_congr_left e]
theorem sumK_add {g h : Lnk → Int} : ∀ {ls : List Lnk}, sumK ls (fun l => g l + h l) = sumK ls g + sumK ls h
  | [] => rfl
  | l :: ls => by rw [sumK_cons, sumK_cons, sumK_cons, sumK_add]; omega
theorem sumK_mul {g : Lnk → Int} {c : Int} : ∀ {ls : List Lnk}, sumK ls (fun l => g l * c) = sumK ls g * c
  | [] => by simp [sumK_nil]
  | l :: ls => by rw [sumK_cons, sumK_cons, sumK_mul, Int.add_mul]
theorem sumK_0 {g : Lnk → Int} : ∀ {ls : List Lnk}, (∀ l ∈ ls, g l = 0) → sumK ls g = 0
  | [], _ => rfl
  | l :: ls, h => by rw [sumK_cons, h l List.mem_cons_self, sumK_0 fun k hk => h k (List.mem_cons_of_mem _ hk)]; rfl
theorem sumK_nn {g : Lnk → Int} : ∀ {ls : List Lnk}, (∀ l ∈ ls, 0 ≤ g l) → 0 ≤ sumK ls g
  | [], _ => Int.le_refl 0
  | l :: ls, h => by
    rw [sumK_cons]
    have := h l List.mem_cons_self
    have := sumK_nn (ls := ls) fun k hk => h k (List.mem_cons_of_mem _ hk)
    omega
/-- of terms from 0 on: above 0 exactly where one is -/
theorem sumK_pos {g : Lnk → Int} : ∀ {ls : List Lnk}, (∀ l ∈ ls, 0 ≤ g l) → (0 < sumK ls g ↔ ∃ l ∈ ls, 0 < g l)
  | [], _ => ⟨fun h => by rw [sumK_nil] at h; omega, fun ⟨l, h, _⟩ => by cases h⟩
  | l :: ls, h => by
    have ih := sumK_pos (ls := ls) fun k hk => h k (List.mem_cons_of_mem _ hk)
    have h1 := h l List.mem_cons_self
    have h2 := sumK_nn (ls := ls) fun k hk => h k (List.mem_cons_of_mem _ hk)
    rw [sumK_cons]
    constructor
    · intro q
      by_cases z : 0 < g l
      · exact ⟨l, List.mem_cons_self, z⟩
      · obtain ⟨k, hk, e⟩ := ih.mp (by omega)
        exact ⟨k, List.mem_cons_of_mem _ hk, e⟩
    · rintro ⟨k, hk, e⟩
      rcases List.mem_cons.mp hk with rfl | hk
      · omega
      · have := ih.mpr ⟨k, hk, e⟩; omega
theorem sumK_bd {g : Lnk → Int} {b : Nat} {ls : List Lnk} (h : ∀ l ∈ ls, Bd b (g l)) (hl : ls.length ≤ 1000) : Bd (b + 10) (sumK ls g) := Bd.sum (fun x hx => by
  obtain ⟨l, hl, rfl⟩ := List.mem_map.mp hx
  exact h l hl) (by rw [List.length_map]; exact Nat.lt_of_le_of_lt hl (by decide))
theorem sumN_sumK {n : Nat} {g : Nat → Lnk → Int} : ∀ {ls : List Lnk}, sumN n (fun t => sumK ls (g t)) = sumK ls fun l => sumN n fun t => g t l
  | [] => sumN_0 fun _ _ => rfl
  | l :: ls => by
    rw [sumK_cons, ← sumN_sumK, ← sumN_add]
    exact sumN_congr fun t _ => sumK_cons
theorem sumN_nn {n : Nat} {f : Nat → Int} (h : ∀ i < n, 0 ≤ f i) : 0 ≤ sumN n f := by
  induction n with
  | zero => exact Int.le_refl 0
  | succ n ih => rw [sumN_succ]; have := ih fun i hi => h i (by omega); have := h n (by omega); omega
theorem sumN_pos {n : Nat} {f : Nat → Int} (h : ∀ i < n, 0 ≤ f i) : 0 < sumN n f ↔ ∃ i, i < n ∧ 0 < f i := by
  induction n with
  | zero => exact ⟨fun q => by rw [sumN_zero] at q; omega, fun ⟨i, hi, _⟩ => by omega⟩
  | succ n ih =>
    have ih := ih fun i hi => h i (by omega)
    have h1 := h n (by omega)
    have h2 := sumN_nn (n := n) (f := f) fun i hi => h i (by omega)
    rw [sumN_succ]
    constructor
    · intro q
      by_cases z : 0 < f n
      · exact ⟨n, by omega, z⟩
      · obtain ⟨i, hi, e⟩ := ih.mp (by omega)
        exact ⟨i, by omega, e⟩
    · rintro ⟨i, hi, e⟩
      by_cases z : i = n
      · subst z; omega
      · have := ih.mpr ⟨i, by omega, e⟩; omega
theorem filter_sum {p : Lnk → Bool} {g : Lnk → Int} : ∀ {ls : List Lnk}, ((ls.filter p).map g).sum = sumK ls fun l => if p l = true then g l else 0
  | [] => rfl
  | l :: ls => by
    rw [sumK_cons, ← filter_sum, List.filter_cons]
    cases p l with
    | false => simp
    | true => simp
/-- one step further -/
def stp (ls : List Lnk) (f : Nat → Int) (t : Nat) : Int := sumK ls fun l => if l.b = (t : Int) then f l.a.toNat * l.c else 0
theorem stp_bd {n b : Nat} {ls : List Lnk} {f : Nat → Int} (h : Pk n ls) (hf : ∀ i < n, Bd b (f i)) (t : Nat) : Bd (b + 30) (stp ls f t) := by
  refine sumK_bd (b := b + 20) (fun l hl => ?_) h.few
  split
  · have := h.ok l hl
    exact (hf _ (by omega)).mul (h.bd hl)
  · exact Bd.zero
theorem stp_nn {n : Nat} {ls : List Lnk} {f : Nat → Int} (h : Pk n ls) (hf : ∀ i < n, 0 ≤ f i) (t : Nat) : 0 ≤ stp ls f t := sumK_nn fun l hl => by
  have := h.ok l hl
  split
  · exact Int.mul_nonneg (hf _ (by omega)) (by omega)
  · exact Int.le_refl 0
theorem stp_pos {n : Nat} {ls : List Lnk} {f : Nat → Int} (h : Pk n ls) (hf : ∀ i < n, 0 ≤ f i) (t : Nat) : 0 < stp ls f t ↔ ∃ l ∈ ls, l.b = (t : Int) ∧ 0 < f l.a.toNat := by
  unfold stp
  rw [sumK_pos fun l hl => by
    have := h.ok l hl
    split
    · exact Int.mul_nonneg (hf _ (by omega)) (by omega)
    · exact Int.le_refl 0]
  constructor
  · rintro ⟨l, hl, q⟩
    have := h.ok l hl
    by_cases e : l.b = (t : Int)
    · rw [if_pos e] at q
      refine ⟨l, hl, e, ?_⟩
      rcases Int.lt_or_le 0 (f l.a.toNat) with z | z
      · exact z
      · have := hf l.a.toNat (by omega)
        rw [show f l.a.toNat = 0 by omega, Int.zero_mul] at q; omega
    · rw [if_neg e] at q; omega
  · rintro ⟨l, hl, e, q⟩
    have := h.ok l hl
    exact ⟨l, hl, by rw [if_pos e]; exact Int.mul_pos q (by omega)⟩
theorem stp_lin {n : Nat} {ls : List Lnk} {k : Nat} {g : Nat → Nat → Int} {t : Nat} : stp ls (fun i => sumN k fun s => g s i) t = sumN k fun s => stp ls (g s) t := by
  unfold stp
  rw [sumN_sumK]
  refine sumK_congr fun l _ => ?_
  split
  · rw [sumN_mul]
  · rw [sumN_0 fun _ _ => rfl]
theorem stp_congr {n : Nat} {ls : List Lnk} {f g : Nat → Int} (h : Pk n ls) (e : ∀ i < n, f i = g i) (t : Nat) : stp ls f t = stp ls g t := sumK_congr fun l hl => by
  have := h.ok l hl
  rw [e l.a.toNat (by omega)]
end PyL

namespace PyL
open PySem PySem.Spec L2
open Enc (enc)
set_option autoImplicit false
/-! ### sorted(x), x a list of pairs of ints -/
def tlt (p q : T2 Int Int) : Bool := SrtO.lexB (p.a, p.b) (q.a, q.b)
def insT (x : T2 Int Int) : List (T2 Int Int) → List (T2 Int Int)
  | [] => [x]
  | y :: r => if tlt y x = true then y :: insT x r else x :: y :: r
def tsort : List (T2 Int Int) → List (T2 Int Int)
  | [] => []
  | x :: r => insT x (tsort r)
theorem tlt_no {p q : T2 Int Int} : tlt p q = false ↔ ¬ (p.a < q.a ∨ (p.a = q.a ∧ p.b < q.b)) := SrtO.lexB_no
theorem tlt_iff {p q : T2 Int Int} : tlt p q = true ↔ (p.a < q.a ∨ (p.a = q.a ∧ p.b < q.b)) := SrtO.lexB_iff
theorem insT_perm (x : T2 Int Int) : ∀ l : List (T2 Int Int), (insT x l).Perm (x :: l)
  | [] => .refl _
  | y :: r => by
    unfold insT
    split
    · exact ((insT_perm x r).cons y).trans (.swap x y r)
    · exact .refl _
theorem tsort_perm : ∀ l : List (T2 Int Int), (tsort l).Perm l
  | [] => .refl _
  | x :: r => (insT_perm x (tsort r)).trans ((tsort_perm r).cons x)
abbrev TSrt (l : List (T2 Int Int)) : Prop := l.Pairwise fun p q => tlt q p = false
theorem insT_sorted (x : T2 Int Int) : ∀ {l : List (T2 Int Int)}, TSrt l → TSrt (insT x l)
  | [], _ => List.pairwise_singleton _ _
  | y :: r, h => by
    obtain ⟨h1, h2⟩ := List.pairwise_cons.mp h
    unfold insT
    split
    · rename_i hx
      refine List.pairwise_cons.mpr ⟨fun z hz => ?_, insT_sorted x h2⟩
      rcases List.mem_cons.mp ((insT_perm x r).mem_iff.mp hz) with e | hz
      · rw [e, tlt_no]; have := tlt_iff.mp hx; omega
      · exact h1 z hz
    · rename_i hx
      have hx : tlt y x = false := by cases h : tlt y x <;> simp_all
      refine List.pairwise_cons.mpr ⟨fun z hz => (List.mem_cons.mp hz).elim (fun e => e ▸ hx) fun hz => ?_, h⟩
      have a := tlt_no.mp hx
      have b := tlt_no.mp (h1 z hz)
      rw [tlt_no]; omega
theorem tsort_sorted : ∀ l : List (T2 Int Int), TSrt (tsort l)
  | [] => .nil
  | x :: r => insT_sorted x (tsort_sorted r)
theorem tsort_uniq : ∀ {a b : List (T2 Int Int)}, a.Perm b → TSrt a → TSrt b → a = b
  | [], b, p, _, _ => (List.nil_perm.mp p).symm
  | x :: a, [], p, _, _ => absurd p.length_eq (by simp)
  | x :: a, y :: b, p, h1, h2 => by
    obtain ⟨g1, g2⟩ := List.pairwise_cons.mp h1
    obtain ⟨k1, k2⟩ := List.pairwise_cons.mp h2
    have e : x = y := by
      have hx : x ∈ y :: b := p.mem_iff.mp List.mem_cons_self
      have hy : y ∈ x :: a := p.mem_iff.mpr List.mem_cons_self
      rcases List.mem_cons.mp hx with e | hx
      · exact e
      · rcases List.mem_cons.mp hy with e | hy
        · exact e.symm
        · have u := tlt_no.mp (g1 y hy)
          have v := tlt_no.mp (k1 x hx)
          obtain ⟨xa, xb⟩ := x
          obtain ⟨ya, yb⟩ := y
          simp only at u v
          have e1 : xa = ya := by omega
          have e2 : xb = yb := by omega
          rw [e1, e2]
    subst e
    rw [tsort_uniq ((List.perm_cons x).mp p) g2 k2]
def dPair : D → Option (T2 Int Int)
  | .tup [.int a, .int b] => some ⟨a, b⟩
  | _ => none
def dPairs : List D → Option (List (T2 Int Int))
  | [] => some []
  | d :: ds => (dPair d).bind fun p => (dPairs ds).bind fun ps => some (p :: ps)
def gSortP := on1 fun r => match r.d with
  | .lst ds => match dPairs ds with
    | some ps => .ok ⟨.lst ((tsort ps).map enc), 1, [], []⟩
    | none => .bad
  | _ => .bad
/-- what stands at a value that is a pair of ints -/
def pairAt (H : Hp) : V → Int × Int
  | .ref t => match H t with
    | some (.tup [.int a, .int b]) => (a, b)
    | _ => (0, 0)
  | _ => (0, 0)
theorem dPair_rp {S : PA1} {H : Hp} {d : D} {v : V} {p : T2 Int Int} (h : dPair d = some p) (r : Rp S H d v) : (∃ t, v = V.ref t ∧ H t = some (.tup [.int (pairAt H v).1, .int (pairAt H v).2])) ∧ pairAt H v = (p.a, p.b) := by
  unfold dPair at h
  split at h
  · rename_i a b
    cases h
    obtain ⟨t, xs, rfl, _, ht, x, r1, rfl, hx, y, r2, e2, hy, e3⟩ := r
    rw [show r2 = [] from e3] at e2
    rw [e2, show x = V.int _ from hx, show y = V.int _ from hy] at ht
    have e : pairAt H (.ref t) = (a, b) := by show (match H t with | some (.tup [.int a, .int b]) => (a, b) | _ => (0, 0)) = (a, b); rw [ht]
    rw [e]
    exact ⟨⟨t, rfl, ht⟩, rfl⟩
  · cases h
theorem dPairs_rp {S : PA1} {H : Hp} : ∀ {ds : List D} {vs : List V} {ps : List (T2 Int Int)}, dPairs ds = some ps → RpL S H ds vs → (∀ v ∈ vs, ∃ t, v = V.ref t ∧ H t = some (.tup [.int (pairAt H v).1, .int (pairAt H v).2])) ∧ vs.map (pairAt H) = ps.map fun p => (p.a, p.b)
  | [], vs, ps, h, r => by cases h; rw [show vs = [] from r]; exact ⟨fun v h => (by cases h), rfl⟩
  | d :: ds, _, ps, h, ⟨x, q, e, p, l⟩ => by
    unfold dPairs at h
    cases hp : dPair d with
    | none => rw [hp] at h; cases h
    | some p0 =>
      rw [hp] at h
      cases hps : dPairs ds with
      | none => rw [hps] at h; cases h
      | some qs =>
        rw [hps] at h
        cases h
        obtain ⟨i1, i2⟩ := dPair_rp hp p
        obtain ⟨j1, j2⟩ := dPairs_rp hps l
        subst e
        refine ⟨fun v hv => (List.mem_cons.mp hv).elim (fun e => e ▸ i1) (j1 v), ?_⟩
        rw [List.map_cons, List.map_cons, i2, j2]
theorem rp_pairs {S0 : PA1} {ρ : Ev} {σ : St} {H : Hp} {F : FP} (E : EE S0 ρ σ H F) : ∀ {ys : List V} {ps : List (T2 Int Int)}, (∀ v ∈ ys, ∃ t, v = V.ref t ∧ H t = some (.tup [.int (pairAt H v).1, .int (pairAt H v).2])) → (ys.map (pairAt H) = ps.map fun p => (p.a, p.b)) → RpL (inS S0 F []) H (ps.map enc) ys
  | [], [], _, _ => rfl
  | [], _ :: _, _, e => by simp at e
  | _ :: _, [], _, e => by simp at e
  | y :: ys, p :: ps, h, e => by
    rw [List.map_cons, List.map_cons] at e
    obtain ⟨e1, e2⟩ := List.cons.inj e
    obtain ⟨t, rfl, ht⟩ := h y List.mem_cons_self
    rw [e1] at ht
    exact ⟨_, _, rfl, ⟨t, _, rfl, fun z => (E.inTr z).notTup ht, ht, _, _, rfl, rfl, _, _, rfl, rfl, rfl⟩, rp_pairs E (fun v hv => h v (List.mem_cons_of_mem _ hv)) e2⟩
theorem ok_sortP {K : PySem.W.Frag} : BOk (rSortedPO K) gSortP := by
  intro S0 ρ σ H F W rs vs Q E l p
  obtain ⟨r, v, rfl, z, p⟩ := on1_ok l p
  split at p
  · rename_i ds e
    split at p
    · rename_i ps hp
      obtain ⟨a, xs, rfl, ha, lx⟩ := z.lst e
      obtain ⟨h1, h2⟩ := dPairs_rp hp lx
      refine ⟨a, xs, pairAt H, rfl, SqL.of ha, h1, fun ys b hs hb nb => ?_⟩
      refine post_lst E p (rp_pairs E (fun v hv => h1 v (hb.perm.mem_iff.mp hv)) ?_) b nb
      have e1 : ((ys.map (pairAt H)).map fun q => (⟨q.1, q.2⟩ : T2 Int Int)) = tsort ps := by
        refine tsort_uniq ?_ ?_ (tsort_sorted ps)
        · refine ((hb.perm.map (pairAt H)).map _).trans ?_
          rw [h2, List.map_map]
          have : (ps.map ((fun q : Int × Int => (⟨q.1, q.2⟩ : T2 Int Int)) ∘ fun p => (p.a, p.b))) = ps := by
            conv => rhs; rw [← List.map_id ps]
            exact List.map_congr_left fun p _ => rfl
          rw [this]
          exact (tsort_perm ps).symm
        · unfold TSrt
          rw [List.pairwise_map, List.pairwise_map]
          exact hs
      rw [← e1, List.map_map]
      conv => lhs; rw [← List.map_id (ys.map (pairAt H))]
      exact List.map_congr_left fun p _ => rfl
    · exact p.elim
  · exact p.elim
/-! ### (a, b) <= (c, d) -/
def gLeT : G2 := fun ra rb => match dPair ra.d, dPair rb.d with
  | some p, some q => okB (!tlt q p)
  | _, _ => .bad
theorem lexAt_le (a b c d : Int) : Ob.lexAt (fun j => decide ([a, b].getD j 0 = [c, d].getD j 0)) (fun j => decide ([a, b].getD j 0 ≤ [c, d].getD j 0)) (decide (([a, b] : List Int).length ≤ ([c, d] : List Int).length)) 0 (min ([a, b] : List Int).length ([c, d] : List Int).length) = !tlt ⟨c, d⟩ ⟨a, b⟩ := by
  show Ob.lexAt _ _ true 0 2 = _
  rw [Ob.lexAt_succ, Ob.lexAt_succ, Ob.lexAt_zero]
  show (if decide (a = c) = true then (if decide (b = d) = true then true else decide (b ≤ d)) else decide (a ≤ c)) = _
  cases h : tlt (⟨c, d⟩ : T2 Int Int) ⟨a, b⟩ with
  | true =>
    have := tlt_iff.mp h
    simp only at this
    by_cases q1 : a = c
    · rw [if_pos (decide_eq_true q1)]
      by_cases q2 : b = d
      · omega
      · rw [if_neg (by simpa using q2), decide_eq_false (by omega)]; rfl
    · rw [if_neg (by simpa using q1), decide_eq_false (by omega)]; rfl
  | false =>
    have := tlt_no.mp h
    simp only at this
    by_cases q1 : a = c
    · rw [if_pos (decide_eq_true q1)]
      by_cases q2 : b = d
      · rw [if_pos (decide_eq_true q2)]; rfl
      · rw [if_neg (by simpa using q2), decide_eq_true (by omega)]; rfl
    · rw [if_neg (by simpa using q1), decide_eq_true (by omega)]; rfl
theorem ok_leT {K : PySem.W.Frag} : OpOk (rLeT K) gLeT := by
  intro S0 ρ σ H F W ra rb x y Q E hx hy p
  unfold gLeT at p
  split at p
  · rename_i p1 q1 e1 e2
    obtain ⟨⟨t, rfl, ht⟩, et⟩ := dPair_rp e1 hx.rp
    obtain ⟨⟨u, rfl, hu⟩, eu⟩ := dPair_rp e2 hy.rp
    rw [et] at ht
    rw [eu] at hu
    refine ⟨t, u, [p1.a, p1.b], [q1.a, q1.b], rfl, rfl, SqT.of ht, SqT.of hu, ?_⟩
    rw [lexAt_le]
    exact okB_post p
  · exact p.elim
/-! ### list(d), the keys tuples -/
def gListT := on1 fun r => match r.d with
  | .dT kvs => .ok ⟨.lst (kvs.map fun kv => .tup (kv.1.map keyD)), 1, [], []⟩
  | _ => .bad
theorem rpL_keys {S : PA1} {H : Hp} : ∀ {ks : List Key}, RpL S H (ks.map keyD) (ks.map kV)
  | [] => rfl
  | k :: ks => ⟨_, _, rfl, by cases k <;> rfl, rpL_keys⟩
theorem rp_isKeys {S0 : PA1} {ρ : Ev} {σ : St} {H : Hp} {F : FP} (E : EE S0 ρ σ H F) {kvs : List (List Key × V)} {bs : List Addr} (h : IsKeys H kvs bs) : RpL (inS S0 F []) H (kvs.map fun kv => D.tup (kv.1.map keyD)) (bs.map V.ref) := by
  unfold IsKeys at h
  induction h with
  | nil => rfl
  | cons h t ih => exact ⟨_, _, rfl, ⟨_, _, rfl, fun z => (E.inTr z).notTup h, h, rpL_keys⟩, ih⟩
theorem ok_listT : BOk (fun xs H Q => ∃ d kvs, xs = [V.ref d] ∧ Rd H d (.dT kvs) ∧ ∀ p bs, H p = none → IsKeys H kvs bs → Q (.ref p) (upd H p (.lst (bs.map V.ref)))) gListT := by
  intro S0 ρ σ H F W rs vs Q E l p
  obtain ⟨r, v, rfl, z, p⟩ := on1_ok l p
  split at p
  · rename_i kvs e
    have rp := z.rp
    rw [e] at rp
    obtain ⟨a, rfl, _, ha⟩ := rp
    exact ⟨a, kvs, rfl, .inl ha, fun b bs nb ik => post_lst E p (rp_isKeys E ik) b nb⟩
  · exact p.elim
section
variable {S S' : Spec} {fa fb fc : FE} {i : Nat} {ka kb kc kk : Option Nat} {Ea Ca Eb Cb Ec Cc E C : List Nat}
theorem dPairs_enc : ∀ ps : List (T2 Int Int), dPairs (ps.map enc) = some ps
  | [] => rfl
  | p :: ps => by
    show (dPair (enc p)).bind _ = _
    rw [show dPair (enc p) = some p from rfl]
    show (dPairs (ps.map enc)).bind _ = _
    rw [dPairs_enc ps]; rfl
theorem re_sortP {ps : List (T2 Int Int)} (ha : RE S fa ps ka Ea Ca) : RE S (fB gSortP (fCons fa fNil)) (tsort ps) (some 1) [] [] := re_b1 ha fun ra g1 => by
  obtain ⟨k1, e1, c1, rfl, _⟩ := rd1 g1
  refine ⟨⟨.lst ((tsort ps).map enc), 1, [], []⟩, ?_, rfl, fun m z => by cases z; rfl, fun j hj => (by cases hj), fun j hj => (by cases hj)⟩
  show gSortP [⟨.lst (ps.map enc), k1, e1, c1⟩] = _
  unfold gSortP on1; simp only [dPairs_enc]
theorem re_leT {p q : T2 Int Int} (ha : RE S fa p ka Ea Ca) (hb : RE S fb q kb Eb Cb) : RE S (fBin gLeT fa fb) (!tlt q p) (some 0) [] [] := re_bin ha hb fun ra rb g1 g2 => by
  obtain ⟨k1, e1, c1, rfl, _⟩ := rd1 g1
  obtain ⟨k2, e2, c2, rfl, _⟩ := rd1 g2
  exact ⟨_, rfl, gv0⟩
theorem re_dkeysT {ν : Type} [Enc ν] [EncV ν] {d : Dct (T2 Int Int) ν} (ha : RE S fa d ka Ea Ca) : RE S (fB gListT (fCons fa fNil)) (d.l.map (·.1)) (some 1) [] [] := re_b1 ha fun ra g1 => by
  obtain ⟨k1, e1, c1, rfl, _⟩ := rd1 g1
  refine ⟨⟨enc (d.l.map (·.1)), 1, [], []⟩, ?_, rfl, fun m q => by cases q; rfl, fun j hj => (by cases hj), fun j hj => (by cases hj)⟩
  show Res.ok (⟨D.lst (((d.l.map fun p => (p.1, EncV.tv p.2)).map fun p => (([.inl p.1.a, .inl p.1.b] : List Key), p.2)).map fun kv => D.tup (kv.1.map keyD)), 1, [], []⟩ : R) = Res.ok ⟨D.lst ((d.l.map (·.1)).map enc), 1, [], []⟩
  rw [List.map_map, List.map_map, List.map_map]
  rfl
end
end PyL

namespace PyL
open PySem PySem.Spec PyProof.Rows L2
open Enc (enc)
set_option autoImplicit false
/-! ### len(set(x)), x a list of ints -/
def dd {α : Type} [DecidableEq α] : List α → List α
  | [] => []
  | n :: ns => n :: (dd ns).filter (fun m => !decide (m = n))
abbrev ddI : List Int → List Int := dd
theorem dd_mem {α : Type} [DecidableEq α] : ∀ {ns : List α} {m : α}, m ∈ dd ns ↔ m ∈ ns
  | [], m => Iff.rfl
  | n :: ns, m => by
    unfold dd
    rw [List.mem_cons, List.mem_cons, List.mem_filter, dd_mem]
    by_cases q : m = n <;> simp [q]
theorem dd_nodup {α : Type} [DecidableEq α] : ∀ ns : List α, (dd ns).Nodup
  | [] => .nil
  | n :: ns => by
    unfold dd
    refine List.nodup_cons.mpr ⟨fun h => ?_, (dd_nodup ns).filter _⟩
    simp at h
theorem dd_len {α : Type} [DecidableEq α] : ∀ ns : List α, (dd ns).length ≤ ns.length
  | [] => Nat.le_refl 0
  | n :: ns => by
    unfold dd
    have := List.length_filter_le (fun m => !decide (m = n)) (dd ns)
    have := dd_len ns
    rw [List.length_cons, List.length_cons]; omega
theorem ddI_mem {ns : List Int} {m : Int} : m ∈ ddI ns ↔ m ∈ ns := dd_mem
theorem ddI_nodup (ns : List Int) : (ddI ns).Nodup := dd_nodup ns
theorem nodup_same_len {a b : List Int} (ha : a.Nodup) (hb : b.Nodup) (h : ∀ m, m ∈ a ↔ m ∈ b) : a.length = b.length := ((List.perm_ext_iff_of_nodup ha hb).mpr h).length_eq
theorem fm_ok (ns : List Int) : ∀ i, i ≤ ns.length → (firstMet (fun i => ns.getD i 0) i).Nodup ∧ ∀ m, m ∈ firstMet (fun i => ns.getD i 0) i ↔ m ∈ ns.take i
  | 0, _ => ⟨by show ([] : List Int).Nodup; exact .nil, fun m => by rw [List.take_zero]; exact Iff.rfl⟩
  | i + 1, hi => by
    obtain ⟨h1, h2⟩ := fm_ok ns i (by omega)
    have e2 : ns.take (i + 1) = ns.take i ++ [ns.getD i 0] := by
      rw [List.take_add_one, List.getElem?_eq_getElem (by omega), List.getD_eq_getElem?_getD, List.getElem?_eq_getElem (by omega)]; rfl
    rw [PyProof.Rows.firstMet_succ, e2]
    show List.Nodup (if (firstMet (fun i => ns.getD i 0) i).any (· == ns.getD i 0) then _ else _) ∧ ∀ m, m ∈ (if (firstMet (fun i => ns.getD i 0) i).any (· == ns.getD i 0) then _ else _) ↔ _
    generalize firstMet (fun i => ns.getD i 0) i = l at h1 h2
    generalize ns.getD i 0 = v
    by_cases q : l.any (· == v) = true
    · rw [if_pos q]
      obtain ⟨y, hy, ey⟩ := List.any_eq_true.mp q
      have ey : y = v := eq_of_beq ey
      subst ey
      refine ⟨h1, fun m => ?_⟩
      rw [List.mem_append, ← h2, List.mem_singleton]
      exact ⟨.inl, fun h => h.elim id fun e => e ▸ hy⟩
    · rw [if_neg q]
      refine ⟨List.nodup_append.mpr ⟨h1, by simp, fun a ha b hb e => q (List.any_eq_true.mpr ⟨a, ha, by rw [List.mem_singleton.mp hb] at e; rw [e]; exact beq_self_eq_true _⟩)⟩, fun m => ?_⟩
      rw [List.mem_append, List.mem_append, h2]
theorem fm_len (ns : List Int) : (firstMet (fun i => ns.getD i 0) ns.length).length = (ddI ns).length := by
  obtain ⟨h1, h2⟩ := fm_ok ns ns.length (Nat.le_refl _)
  exact nodup_same_len h1 (ddI_nodup ns) fun m => by rw [h2, List.take_length, ddI_mem]
def tLenSetA (K : PySem.W.Frag) (ta : TE) : TE := fun σ H Q => ta σ H fun x H1 => ∃ (l : Addr) (ns : List Int), x = .ref l ∧ SqL K H1 l (ns.map V.int) ∧ ns.length ≤ 4000 ∧ Q (.int ((ddI ns).length : Nat)) H1
theorem pe_lenSetA {X : Cx} {a : Expr} {ta : TE} {p p2 q pos : Pos} (hg : Gl X "len") (hm : X.mg "len" = none) (hg2 : Gl X "set") (hm2 : X.mg "set" = none) (ha : PE X a ta) (hc : X.calm = true := by rfl)
    (na : starEach [a] X.env = (false, eval a X.env) :: starEach [] X.env := by rfl) : PE X (.Call (.Name "len" p) [.Call (.Name "set" p2) [a] [] q] [] pos) (tLenSetA X.K ta) := by
  refine ⟨fun pins s σ H Q I h => ?_⟩
  refine Call_ (ld_blt I hg hm boot_len ?_)
  refine PyProof.Rows.callWith_builtin1 (PyProof.Rows.args_cons ?_ rfl) rfl rfl
  refine Call_ (ld_blt I hg2 hm2 PyProof.Rows.boot_set ?_)
  refine PyProof.Rows.callWith_type1 (PyProof.Rows.args_cons (thn (ha.run pins s σ H _ I h) fun v s1 ⟨x, H1, I1, r1, q1⟩ => PyProof.Rows.args_nil ?_) na) na rfl
  obtain ⟨l, ns, rfl, hq, hl, q1⟩ := q1
  cases r1
  obtain ⟨its, r, pl, hz⟩ := I1.list hq
  have hlen : its.toArray.size = ns.length := by rw [List.size_toArray, ← r.length, List.length_map]
  refine call_set_list (I1.ok.hd hc) pl.isList (by simpa using RZ.intsAre_vals r) (by rw [hlen]; unfold scanBound; omega) fun h' tk hS hk => ?_
  refine PyProof.Rows.args_nil ?_
  rw [hlen, fm_len] at hS
  obtain ⟨o, es, ep, t, ho, hex, hd, _, _, _, hf, hn⟩ := hS
  have I2 : Inv X pins σ H1 { s1 with heap := h', toks := tk } := I1.kept fun b o e => hk b o (Heap.lt_size e) e
  have hdl : (ddI ns).length ≤ ns.length := dd_len ns
  have hsb : (4000 : Nat) < scanBound := by unfold scanBound; omega
  exact call_len_set ho hex hd hf (by rw [hn]; have := sizeLine_eq; omega) ⟨.int (ddI ns).length, H1, I2.tok _, ⟨_, by rw [hn]⟩, q1⟩
def gLenSet (r : R) : Res R := match r.d with
  | .lst ds => match intsOf ds with
    | some ns => if ns.length ≤ 4000 then okI ((ddI ns).length : Nat) else .bad
    | none => .bad
  | _ => .bad
def fLenSet (f : FE) : FE := fun ρ => (f ρ).bind gLenSet
section
variable {X : Cx} {W : WK} {a b : Expr} {fa fb : FE} {p p2 q pos pos2 : Pos}
theorem e_lenSet (hc : X.calm = true) (hg : Gl X "len") (hm : X.mg "len" = none) (hg2 : Gl X "set") (hm2 : X.mg "set" = none) (ha : PE X a (rdE W fa)) (na : starEach [a] X.env = (false, eval a X.env) :: starEach [] X.env := by rfl) : PE X (.Call (.Name "len" p) [.Call (.Name "set" p2) [a] [] q] [] pos) (rdE W (fLenSet fa)) :=
  peI (pe_lenSetA hg hm hg2 hm2 ha hc na) fun σ H Q ⟨S0, ρ, F, E, q⟩ => post_bind E q fun r v H1 fp s1 n1 v1 E1 p1 => by
    have z := v1.fz (E.nin n1 _)
    unfold gLenSet at p1
    split at p1
    · rename_i ds e
      split at p1
      · rename_i ns hn
        split at p1
        · rename_i hl
          obtain ⟨l, xs, rfl, ha, lx⟩ := z.lst e
          rw [lx.ofInts hn] at ha
          exact ⟨l, ns, rfl, SqL.of ha, hl, by exact okI_post p1⟩
        · exact p1.elim
      · exact p1.elim
    · exact p1.elim
end
section
variable {S S' : Spec} {fa fb fc : FE} {i : Nat} {ka kb kc kk : Option Nat} {Ea Ca Eb Cb Ec Cc E C : List Nat}
theorem re_lenSet {ns : List Int} (ha : RE S fa ns ka Ea Ca) (h : ns.length ≤ 4000) : RE S (fLenSet fa) ((ddI ns).length : Int) (some 0) [] [] := re_un ha fun ra g1 => by
  obtain ⟨k1, e1, c1, rfl, _⟩ := rd1 g1
  exact ⟨_, by show gLenSet ⟨.lst (ns.map .int), k1, e1, c1⟩ = _; unfold gLenSet; simp only [ints_map]; rw [if_pos h]; rfl, gv0⟩
end
def zLenSet (ns : List Int) : Option Int := if ns.length ≤ 4000 then some ((ddI ns).length : Int) else none
section
variable {S S' : Spec} {fa fb fc : FE} {i : Nat} {ka kb kc kk : Option Nat} {Ea Ca Eb Cb Ec Cc E C : List Nat}
theorem re_zLenSet {ns : List Int} {v : Int} (ha : RE S fa ns ka Ea Ca) (h : zLenSet ns = some v) : RE S (fLenSet fa) v (some 0) [] [] := by
  unfold zLenSet at h
  split at h
  · rename_i hl
    cases h
    exact re_lenSet ha hl
  · cases h
end
theorem re_flatN {α : Type} [Enc α] {S : Spec} {A : FA} {v : α} {ds : List D} {m : Option Nat} {E : List Nat} (hv : enc v = .lst ds) (hl : ds.length ≤ 1000) (h : RA S A ds m E) : RE S (fFlat (fLst A)) v (some 1) E E := fun ρ z => by
  obtain ⟨r, e, a, b, c, d⟩ := re_lstN hv hl h ρ z
  obtain ⟨dd, k, e1, c1⟩ := r
  have a : dd = enc v := a
  subst a
  obtain ⟨rs, e2, a2, b2, c2⟩ := h ρ z
  have hl' : rs.length ≤ 1000 := by have := congrArg List.length a2; rw [List.length_map] at this; omega
  refine ⟨⟨.lst ds, 1, esL rs, esL rs⟩, ?_, hv.symm, fun m z => by cases z; rfl, c2, c2⟩
  show ((A ρ).bind dispL).bind gFlat = _
  rw [e2]
  show (dispL rs).bind gFlat = _
  unfold dispL
  rw [if_pos (by rw [sizeLine_eq]; omega), a2]
  rfl
/-! ### sorted(set(x)), x a list of pairs of ints from 0 to 63 -/
def inB (p : T2 Int Int) : Bool := decide (0 ≤ p.a ∧ p.a < 64 ∧ 0 ≤ p.b ∧ p.b < 64)
def gSortSet (r : R) : Res R := match r.d with
  | .lst ds => match dPairs ds with
    | some ps => if ps.length < 64 ∧ ps.all inB = true then .ok ⟨.lst ((tsort (dd ps)).map enc), 1, [], []⟩ else .bad
    | none => .bad
  | _ => .bad
def fSortSet (f : FE) : FE := fun ρ => (f ρ).bind gSortSet
def adr : V → Addr
  | .ref t => t
  | _ => 0
theorem pairAt_same {H H' : Hp} {t : Addr} {a b : Int} (h : H t = some (.tup [.int a, .int b])) (e : H' t = H t) : pairAt H' (.ref t) = pairAt H (.ref t) := by
  unfold pairAt
  simp only
  rw [e]
theorem code2 (x y : Int) : TS.code 64 [x, y] = x * 64 + y := by
  show x * 64 ^ 1 + (y * 64 ^ 0 + 0) = _
  omega
section
variable {X : Cx} {W : WK} {a b : Expr} {fa fb : FE} {p p2 q pos pos2 : Pos}
theorem e_sortSet (hc : X.calm = true) (hu : X.A.units + 64 < cLine) (hg : Gl X "sorted") (hm : X.mg "sorted" = none) (hg2 : Gl X "set") (hm2 : X.mg "set" = none) (ha : PE X a (rdE W fa)) (na : starEach [a] X.env = (false, eval a X.env) :: starEach [] X.env := by rfl)
    (nb : starEach [.Call (.Name "set" p2) [a] [] q] X.env = (false, eval (.Call (.Name "set" p2) [a] [] q) X.env) :: starEach [] X.env := by rfl) : PE X (.Call (.Name "sorted" p) [.Call (.Name "set" p2) [a] [] q] [] pos) (rdE W (fSortSet fa)) :=
  peI (pe_callB (cr_sortedT hc) hg hm PyProof.Rows.boot_sorted (pa_cons (pe_callTy (cr_setOfT hc hu) hg2 hm2 PyProof.Rows.boot_set (pa_cons ha pa_nil na) (by decide) (by decide) na rfl) pa_nil nb) (by decide) (by decide) nb rfl) fun σ H Q ⟨S0, ρ, F, E, qq⟩ => post_bind E qq fun r v H1 fp s1 n1 v1 E1 p1 => by
    have z := v1.fz (E.nin n1 _)
    unfold gSortSet at p1
    split at p1
    · rename_i ds e
      split at p1
      · rename_i ps hp
        split at p1
        · rename_i hl
          obtain ⟨l, xs, rfl, ha, lx⟩ := z.lst e
          obtain ⟨h1, h2⟩ := dPairs_rp hp lx
          have hxl : xs.length = ps.length := by have := congrArg List.length h2; simpa using this
          have hin : ∀ v ∈ xs, 0 ≤ (pairAt H1 v).1 ∧ (pairAt H1 v).1 < 64 ∧ 0 ≤ (pairAt H1 v).2 ∧ (pairAt H1 v).2 < 64 := fun v hv => by
            have : pairAt H1 v ∈ ps.map fun p => (p.a, p.b) := by rw [← h2]; exact List.mem_map_of_mem hv
            obtain ⟨p, hp, e⟩ := List.mem_map.mp this
            have := List.all_eq_true.mp hl.2 p hp
            unfold inB at this
            rw [← e]
            exact of_decide_eq_true this
          let kf : V → Addr × List Int := fun v => (adr v, [(pairAt H1 v).1, (pairAt H1 v).2])
          have hk : ∀ v ∈ xs, V.ref (kf v).1 = v := fun v hv => by
            obtain ⟨t, rfl, _⟩ := h1 v hv; rfl
          refine ⟨l, xs.map kf, rfl, ?_, ?_, by rw [List.length_map]; omega, ?_⟩
          · rw [List.map_map]
            have : xs.map ((fun p : Addr × List Int => V.ref p.1) ∘ kf) = xs := by
              conv => rhs; rw [← List.map_id xs]
              exact List.map_congr_left hk
            rw [this]; exact SqL.of ha
          · intro p hp
            obtain ⟨v, hv, rfl⟩ := List.mem_map.mp hp
            obtain ⟨t, rfl, ht⟩ := h1 v hv
            exact SqT.of ht
          · intro A L nA hL1 hL2
            have smA : Same H1 (upd H1 A (SetTO X.prog X.w A L)) := same_upd nA
            generalize hH2 : upd H1 A (SetTO X.prog X.w A L) = H2 at smA
            have fL : ∀ p ∈ L, ∃ v ∈ xs, kf v = p := fun p hp => List.mem_map.mp (hL1 p hp)
            refine ⟨A, L, 2, 64, rfl, by rw [← hH2]; exact upd_same, fun p hp => ?_, by decide, fun p hp => ?_, ?_⟩
            · obtain ⟨v, hv, rfl⟩ := fL p hp
              obtain ⟨t, rfl, ht⟩ := h1 v hv
              exact SqT.of (smA _ _ ht)
            · obtain ⟨v, hv, rfl⟩ := fL p hp
              have := hin v hv
              refine ⟨rfl, fun m hm => ?_⟩
              have hm : m ∈ [(pairAt H1 v).1, (pairAt H1 v).2] := hm
              have hm : m = (pairAt H1 v).1 ∨ m = (pairAt H1 v).2 := by simpa using hm
              rcases hm with rfl | rfl <;> omega
            · intro L' B pm nd fw pw nB
              have E2 := E1.grow smA
              have p2 := p1.grow smA
              have fL' : ∀ p ∈ L', ∃ v ∈ xs, kf v = p := fun p hp => fL p (pm.mem_iff.mp hp)
              have hys : ∀ y ∈ L'.map fun q => V.ref q.1, ∃ t, y = V.ref t ∧ H2 t = some (.tup [.int (pairAt H2 y).1, .int (pairAt H2 y).2]) := fun y hy => by
                obtain ⟨p, hp, rfl⟩ := List.mem_map.mp hy
                obtain ⟨v, hv, rfl⟩ := fL' p hp
                obtain ⟨t, rfl, ht⟩ := h1 v hv
                have h2t := smA _ _ ht
                refine ⟨t, rfl, ?_⟩
                show _ = some (HO.tup [.int (pairAt H2 (V.ref t)).1, .int (pairAt H2 (V.ref t)).2])
                rw [pairAt_same ht (h2t.trans ht.symm)]; exact h2t
              have hpa : ∀ p ∈ L', pairAt H2 (V.ref p.1) = (p.2.getD 0 0, p.2.getD 1 0) := fun p hp => by
                obtain ⟨v, hv, rfl⟩ := fL' p hp
                obtain ⟨t, rfl, ht⟩ := h1 v hv
                have h2t := smA _ _ ht
                show pairAt H2 (V.ref t) = _
                rw [pairAt_same ht (h2t.trans ht.symm)]; rfl
              have h2e : ∀ p ∈ L', p.2 = [p.2.getD 0 0, p.2.getD 1 0] := fun p hp => by
                obtain ⟨v, hv, rfl⟩ := fL' p hp; rfl
              refine post_lst E2 p2 (rp_pairs E2 hys ?_) B nB
              let gp : Addr × List Int → T2 Int Int := fun p => ⟨p.2.getD 0 0, p.2.getD 1 0⟩
              have e1 : L'.map gp = tsort (dd ps) := by
                have ndg : (L'.map gp).Nodup := by
                  have : (L'.map (·.2)) = (L'.map gp).map fun t => [t.a, t.b] := by
                    rw [List.map_map]; exact List.map_congr_left h2e
                  rw [this] at nd
                  exact List.Pairwise.imp (fun h e => h (by rw [e])) (List.pairwise_map.mp nd)
                refine tsort_uniq ?_ ?_ (tsort_sorted _)
                · refine List.Perm.trans ?_ (tsort_perm _).symm
                  refine (List.perm_ext_iff_of_nodup ndg (dd_nodup ps)).mpr fun t => ?_
                  rw [dd_mem]
                  constructor
                  · intro ht
                    obtain ⟨p, hp, rfl⟩ := List.mem_map.mp ht
                    obtain ⟨v, hv, rfl⟩ := fL' p hp
                    have : pairAt H1 v ∈ ps.map fun p => (p.a, p.b) := by rw [← h2]; exact List.mem_map_of_mem hv
                    obtain ⟨p, hp, e⟩ := List.mem_map.mp this
                    show (⟨(pairAt H1 v).1, (pairAt H1 v).2⟩ : T2 Int Int) ∈ ps
                    rw [← e]; exact hp
                  · intro ht
                    have : (t.a, t.b) ∈ xs.map (pairAt H1) := by rw [h2]; exact List.mem_map.mpr ⟨t, ht, rfl⟩
                    obtain ⟨v, hv, e⟩ := List.mem_map.mp this
                    have := hL2 (kf v) (List.mem_map_of_mem hv)
                    obtain ⟨p, hp, ep⟩ := List.mem_map.mp this
                    refine List.mem_map.mpr ⟨p, pm.mem_iff.mpr hp, ?_⟩
                    show (⟨p.2.getD 0 0, p.2.getD 1 0⟩ : T2 Int Int) = t
                    rw [ep]
                    show (⟨(pairAt H1 v).1, (pairAt H1 v).2⟩ : T2 Int Int) = t
                    rw [e]
                · unfold TSrt
                  rw [List.pairwise_map]
                  refine List.Pairwise.imp_of_mem (fun {x y} hx hy h => ?_) pw
                  have hx2 := h2e x hx
                  have hy2 := h2e y hy
                  rw [hx2, hy2, code2, code2] at h
                  have bx : 0 ≤ x.2.getD 0 0 ∧ x.2.getD 0 0 < 64 ∧ 0 ≤ x.2.getD 1 0 ∧ x.2.getD 1 0 < 64 := by obtain ⟨v, hv, rfl⟩ := fL' x hx; exact hin v hv
                  have by' : 0 ≤ y.2.getD 0 0 ∧ y.2.getD 0 0 < 64 ∧ 0 ≤ y.2.getD 1 0 ∧ y.2.getD 1 0 < 64 := by obtain ⟨v, hv, rfl⟩ := fL' y hy; exact hin v hv
                  rw [tlt_no]
                  show ¬ (y.2.getD 0 0 < x.2.getD 0 0 ∨ (y.2.getD 0 0 = x.2.getD 0 0 ∧ y.2.getD 1 0 < x.2.getD 1 0))
                  omega
              rw [← e1, List.map_map, List.map_map]
              exact List.map_congr_left hpa
        · exact p1.elim
      · exact p1.elim
    · exact p1.elim
end
theorem u64 {A : Around} (h : A.units + 65 < cLine) : A.units + 64 < cLine := by omega
def zSortSet (ps : List (T2 Int Int)) : Option (List (T2 Int Int)) := if ps.length < 64 ∧ ps.all inB = true then some (tsort (dd ps)) else none
section
variable {S S' : Spec} {fa fb fc : FE} {i : Nat} {ka kb kc kk : Option Nat} {Ea Ca Eb Cb Ec Cc E C : List Nat}
theorem re_zSortSet {ps v : List (T2 Int Int)} (ha : RE S fa ps ka Ea Ca) (h : zSortSet ps = some v) : RE S (fSortSet fa) v (some 1) [] [] := by
  unfold zSortSet at h
  split at h
  · rename_i hl
    cases h
    refine re_un ha fun ra g1 => ?_
    obtain ⟨k1, e1, c1, rfl, _⟩ := rd1 g1
    refine ⟨⟨.lst ((tsort (dd ps)).map enc), 1, [], []⟩, ?_, rfl, fun m q => by cases q; rfl, fun j hj => (by cases hj), fun j hj => (by cases hj)⟩
    show gSortSet ⟨.lst (ps.map enc), k1, e1, c1⟩ = _
    unfold gSortSet
    simp only [dPairs_enc]
    rw [if_pos hl]
  · cases h
end
/-! ### x[j] = v, v a list of one's own -/
def storeOutO (i : Nat) (r q : R) (ρ : Ev) : Out := match ρ[i]?, q.d with
  | some (some (.lst ds, k + 1)), .int z => match ixN ds.length z with
    | some j => if i ∈ r.e then .bad else if keepK k r then .nx ((frzL r.e ρ).set i (some (.lst (ds.set j r.d), k + 1))) else .bad
    | none => .bad
  | _, _ => .bad
def sStoreO (i : Nat) (fi f : FE) : FS := ownL i (stE f fun r => stE fi fun q => storeOutO i r q)
section
variable {X : Cx} {W : WK} {e ei : Expr} {fe fi : FE} {pos spos npos : Pos} {x : Str}
theorem s_storeO (i : Nat) (he : PE X e (rdE W fe)) (hp : PS X (.Assign [.Subscript (.Name x npos) ei spos] e pos) (tAsg (rdE W fe) (L2.gSub (tVar i) (rdE W fi) rSetL))) : PS X (.Assign [.Subscript (.Name x npos) ei spos] e pos) (rdS W (sStoreO i fi fe)) := by
  refine psI hp fun Dn σ H ⟨S0, H0, ρ, F, E, p⟩ => ?_
  obtain ⟨⟨ds, k, hi⟩, p⟩ := ownL_ok p
  obtain ⟨a, xs, fq, hv, ha, al, ef, nd⟩ := E.list hi
  refine ps_bind E p fun r v H1 fp s n vr E1 p1 => ⟨.ref a, hv, ps_bind E1 p1 fun q w H2 fp2 s2 n2 vq E2 p2 => ?_⟩
  have hl := al.length
  have aF : a ∈ F i := by rw [ef]; exact List.mem_cons_self
  have fqF : ∀ b ∈ fq, b ∈ F i := fun b hb => by rw [ef]; exact List.mem_cons_of_mem _ hb
  unfold storeOutO at p2
  rw [hi] at p2
  split at p2
  · rename_i ds' k' z e1 e2
    cases e1
    split at p2
    · rename_i j hj
      have zq := (vq.fz (E1.ee.nin n2 _)).int e2
      have s12 := s.trans s2
      split at p2
      · exact p2.elim
      · rename_i nie
        refine ⟨a, xs, z, j, rfl, zq, s12 _ _ ha, by rw [← hl]; exact hj, ?_⟩
        have hjl : j < ds.length := by
          have := (ixN_seq hj).2.1
          exact this
        have aS : inS S0 F r.e a := .inr ⟨i, nie, aF⟩
        split at p2
        · rename_i hk
          have hk1 : scal r.d = true ∨ r.k = k := by
            unfold keepK at hk
            simp only [Bool.and_eq_true, Bool.or_eq_true, beq_iff_eq] at hk
            exact hk.2
          have nfp : ∀ b ∈ fp, b ≠ a ∧ b ∉ fq := fun b hb => by
            have nb := n b hb
            refine ⟨fun z => (by rw [z, ha] at nb; cases nb), fun z => ?_⟩
            obtain ⟨o, q, _⟩ := E.ee.trk i b (fqF b z)
            rw [nb] at q; cases q
          obtain ⟨y, f, hy, py, hf, go⟩ := al.at (List.getElem?_eq_getElem hjl)
          have kp : ∀ b o, b ≠ a → H b = some o → upd H2 a (.lst (xs.set j v)) b = some o := fun b o hb q => by rw [upd_ne hb]; exact s12 _ _ q
          have kp1 : ∀ b o, b ≠ a → H1 b = some o → upd H2 a (.lst (xs.set j v)) b = some o := fun b o hb q => by rw [upd_ne hb]; exact s2 _ _ q
          have ow : Ow (fun b => inS S0 F (i :: r.e) b ∨ b ∈ a :: (fq ++ fp)) (upd H2 a (.lst (xs.set j v))) r.k r.d v fp := by
            refine Ow.imp (fun b o q nn => ⟨kp1 b o (fun z => nn (.inl (z ▸ aS))) q, fun z => ?_⟩) _ _ _ _ (fun b o hb q => kp1 b o (nfp b hb).1 q) vr.ow
            rcases z with z | z
            · exact nn (.inl (inS_mono (fun j h => List.mem_cons_of_mem _ h) z))
            · rcases List.mem_cons.mp z with z | z
              · exact nn (.inl (z ▸ aS))
              · rcases List.mem_append.mp z with z | z
                · exact nn (.inl (.inr ⟨i, nie, fqF b z⟩))
                · exact nn (.inr z)
          have rv : Ow (fun b => inS S0 F (i :: r.e) b ∨ b ∈ a :: (fq ++ fp)) (upd H2 a (.lst (xs.set j v))) k r.d v fp := by
            rcases hk1 with z | z
            · obtain ⟨o2, e2⟩ := scal_ow (S' := fun b => inS S0 F (i :: r.e) b ∨ b ∈ a :: (fq ++ fp)) (H' := upd H2 a (.lst (xs.set j v))) z ow k
              have e3 : fp = [] := e2
              rw [e3] at o2 ⊢
              exact o2
            · rw [← z]; exact ow
          obtain ⟨F', E'⟩ : ∃ F', ER S0 H0 ((frzL r.e ρ).set i (some (.lst (ds.set j r.d), k + 1))) σ (upd H2 a (.lst (xs.set j v))) F' := by
            have himp : ∀ (d : D) (w : V) (g : List Addr), (∀ b ∈ g, b ∈ fq) → (∀ b ∈ g, b ∉ f) → Ow (inS S0 F []) H k d w g → Ow (fun b => inS S0 F (i :: r.e) b ∨ b ∈ a :: (fq ++ fp)) (upd H2 a (.lst (xs.set j v))) k d w g := fun d w g hg _ po => by
              refine Ow.imp (fun b o q nn => ⟨kp b o (fun z => nn (z ▸ (.inr ⟨i, by simp, aF⟩))) q, fun z => ?_⟩) k d w g (fun b o hb q => kp b o (fun z => nd (z ▸ hg b hb)) q) po
              rcases z with z | z
              · exact nn (inS_sub z)
              · rcases List.mem_cons.mp z with z | z
                · exact nn (z ▸ .inr ⟨i, by simp, aF⟩)
                · rcases List.mem_append.mp z with z | z
                  · exact nn (.inr ⟨i, by simp, fqF b z⟩)
                  · rw [n b z] at q; cases q
            obtain ⟨fq', al', hfq'⟩ := go (Ow (fun b => inS S0 F (i :: r.e) b ∨ b ∈ a :: (fq ++ fp)) (upd H2 a (.lst (xs.set j v))) k) r.d v fp himp rv (fun b hb => .inr (nfp b hb).2)
            have sub : ∀ b ∈ fq', b ∈ fp ∨ b ∈ fq := fun b hb => (hfq' b hb).imp id fun z => z.1
            refine ⟨_, E.mutate (d' := .lst (ds.set j r.d)) (k' := k + 1) (fp' := a :: fq') (o' := .lst (xs.set j v)) hi hv nie s12 aF trivial (fun b hb => ?_) ?_⟩
            · rcases List.mem_cons.mp hb with z | z
              · exact .inl (z ▸ aF)
              · exact (sub b z).elim (fun z => .inr (n b z)) fun z => .inl (fqF b z)
            · refine ⟨a, xs.set j v, fq', rfl, upd_same, ?_, rfl, fun z => (sub a z).elim (fun z => (nfp a z).1 rfl) nd⟩
              refine al'.imp fun d w g hg po => Ow.imp (fun b o q nn => ⟨q, fun z => nn (z.imp id fun z => ?_)⟩) k d w g (fun _ _ _ q => q) po
              rcases List.mem_cons.mp z with z | z
              · rw [z]; exact List.mem_cons_self
              · exact List.mem_cons_of_mem _ (List.mem_append.mpr ((sub b z).symm))
          exact p2 _ _ _ E'
        · exact p2.elim
    · exact p2.elim
  · exact p2.elim
end
section
variable {α : Type} [Enc α] {S S' : Spec} {fe fi : FE} {i : Nat} {kk k1 : Option Nat} {E C E1 C1 : List Nat}
theorem sp_storeO {xs ys : List α} {v : α} {n : Int} {k : Nat} (hx : S[i]? = some (some (enc xs, some (k + 2)))) (h : RE S fe v (some (k + 1)) E C) (hn : RE S fi n k1 E1 C1) (hi : i ∉ E) (ht : zStore xs n v = some ys) (hS : (frzS E S).set i (some (enc ys, some (k + 2))) = S') : SpS S (sStoreO i fi fe) (Pnx S') := fun ρ z => by
  obtain ⟨k0, e0, hk0⟩ := z.2 i _ hx
  have hk0 : k0 = k + 2 := hk0 _ rfl
  subst hk0
  obtain ⟨r, e, a, b, c, _⟩ := h ρ z
  obtain ⟨q, e', g⟩ := hn ρ z
  obtain ⟨kq, eq, cq, rfl, _⟩ := rd1 g
  obtain ⟨j, hj, ht⟩ := bnd ht
  cases ht
  have e0 : ρ[i]? = some (some (.lst (xs.map enc), k + 2)) := e0
  have hj' : ixN (xs.map enc).length n = some j := by rw [List.length_map]; exact hj
  have rk : r.k = k + 1 := b _ rfl
  have fin : sStoreO i fi fe ρ = .nx ((frzL r.e ρ).set i (some (.lst ((xs.map enc).set j r.d), k + 2))) := by
    unfold sStoreO ownL stE
    rw [e0, e]
    show (match fi ρ with | .ok q => storeOutO i r q ρ | .exn x => _ | .bad => _) = _
    rw [e']
    show storeOutO i r ⟨.int n, kq, eq, cq⟩ ρ = _
    unfold storeOutO
    rw [e0]
    simp only
    rw [hj']
    simp only
    rw [if_neg fun q => hi (c i q), if_pos (by unfold keepK; rw [rk]; simp)]
  refine ⟨_, fin, ?_⟩
  rw [← hS, a, map_set']
  exact (z.frz c).set i fun m q => by cases q; rfl
end
/-! ### return None, where lists of one's own are returned as well -/
def sRetNK (m : Nat) : FS := fun _ => .rt .non m
theorem ow_non {S : PA1} {H : Hp} : ∀ m, Ow S H m .non .non []
  | 0 => ⟨rfl, rfl⟩
  | _ + 1 => ⟨rfl, rfl⟩
section
variable {X : Cx} {W : WK} {e : Expr} {pos : Pos}
theorem s_retNK (m : Nat) : PS X (.Return none pos) (rdS W (sRetNK m)) := psI ps_retN fun Dn σ H ⟨S0, H0, ρ, F, E, p⟩ => p .non H [] E.same (fun a ha => by cases ha) (ow_non m)
theorem s_retNKc (m : Nat) (he : PE X e (rdE W (fC .non))) : PS X (.Return (some e) pos) (rdS W (sRetNK m)) :=
  psI (ps_ret he) fun Dn σ H ⟨S0, H0, ρ, F, E, p⟩ => ⟨S0, ρ, F, E.ee, fun v H' fp s n vr => by
    have hv : v = .non := vr.ow.1
    subst hv
    exact p .non H' [] (E.same.trans s) (fun a ha => by cases ha) (ow_non m)⟩
end
theorem sp_retNK {S : Spec} {m : Nat} : SpS S (sRetNK m) (Prt () (some m)) := fun ρ z => ⟨m, rfl, fun k q => by cases q; rfl⟩
theorem hx_opt {α : Type} [Enc α] {S : Spec} {i : Nat} {o : Option α} {v : α} {kk : Option Nat} (h : o = some v) (e : S[i]? = some (some (enc o, kk))) : S[i]? = some (some (enc v, kk)) := by subst h; exact e
end PyL

namespace PyL
open PySem PySem.Spec L2
open Enc (enc)
set_option autoImplicit false
/-! ### list comprehensions with two for -/
def compL2 (tg : FG) (it1 : FI) (tg1 : FG) (tt1 : FT) (te : FE) (vs1 : List Nat) (ρ : Ev) : List D → Res (List R)
  | [] => .ok []
  | d :: ds => match tg d ρ with
    | none => .bad
    | some ρ2 => (noX (it1 ρ2)).bind fun s => if s.c.isEmpty = true then (compL tg1 tt1 te (wipeE ρ2 vs1) s.ds).bind fun r1 => (compL2 tg it1 tg1 tt1 te vs1 ρ ds).bind fun rs => .ok (r1 ++ rs) else .bad
def fComp2 (dep : Nat) (it : FI) (tg : FG) (it1 : FI) (tg1 : FG) (tt1 : FT) (te : FE) (vs vs1 : List Nat) : FE := fun ρ => (it ρ).bind fun s => (compL2 tg it1 tg1 tt1 te vs1 (wipeE (frzL s.c ρ) vs) s.ds).bind (dispC dep s.c)
theorem EE.turn {S0 S1 : PA1} {ρ : Ev} {σ : St} {H H' : Hp} {F : FP} (E : EE S0 ρ σ H F) (k : ∀ b o, H b = some o → ¬ S0 b → H' b = some o) (h1 : ∀ a, S1 a → S0 a ∨ H a = none) (h2 : ∀ a, S1 a → TrM H' a) : EE S1 ρ σ H' F where
  len := E.len
  rep := fun i d k' h => by
    obtain ⟨v, e, o⟩ := E.rep i d k' h
    refine ⟨v, e, Ow.imp (fun b o q n => ⟨k b o q fun z => n (.inl z), fun z => n ?_⟩) k' d v _ (fun b o hb q => k b o q (E.apart i b hb)) o⟩
    rcases z with z | z
    · rcases h1 b z with z | z
      · exact .inl z
      · rw [z] at q; cases q
    · exact .inr z
  disj := E.disj
  trk := fun i a h => by
    obtain ⟨o, q, t⟩ := E.trk i a h
    exact ⟨o, k a o q (E.apart i a h), t⟩
  out := h2
  apart := fun i a h z => by
    rcases h1 a z with z | z
    · exact E.apart i a h z
    · obtain ⟨o, q, _⟩ := E.trk i a h
      rw [z] at q; cases q
/-- the inner loop -/
theorem comp_loopI {S0 S1 : PA1} {ρ2 : Ev} {F' F2 : FP} {σ2 : St} {H1 H4 : Hp} {e1 : List Nat} {J1 : L2.It} {ds1 : List D} {tg1 : FG} {tt1 : FT} {te : FE} {vs1 : List Nat} {done r1 : List R} {acc0 : List V} {fp0 : List Addr} {Dp : Addr} {Nx : Hp → Prop} (E : EE S1 ρ2 σ2 H4 F2) (j1 : JOk (inS S1 F2 e1) (inS S1 F2 []) J1 ds1 H4)
    (hc : compL tg1 tt1 te (wipeE ρ2 vs1) ds1 = .ok r1) (hz : done.length + r1.length ≤ sizeLine) (sm : Same H1 H4) (hD : H4 Dp = some (.lst acc0)) (nD : H1 Dp = none) (nDf : Dp ∉ fp0) (nfp : ∀ a ∈ fp0, H1 a = none) (vl : VRO S0 F' (Dp :: fp0) H4 done acc0 fp0)
    (hS1 : ∀ e a, inS S0 F' e a → inS S1 F2 e a) (hD1 : ∀ a ∈ Dp :: fp0, S1 a)
    (hN : ∀ H' acc fp, Same H1 H' → H' Dp = some (.lst acc) → Dp ∉ fp → (∀ a ∈ fp, H1 a = none) → VRO S0 F' (Dp :: fp) H' (done ++ r1) acc fp → Nx H') :
    ∃ W1 : Nat → Nat → Hp → Prop, (∃ m, W1 0 m H4) ∧ ∀ j k H, W1 j k H →
      (J1.stop j H ∧ Nx H) ∨ (J1.go j H ∧ ∃ Nx1 : Hp → Prop, (∀ H', Nx1 H' → ∃ k', k' < k ∧ W1 (j + 1) k' H') ∧ ∀ x H', J1.yld j H x H' → rdG vs1 tg1 x (L2.wipe σ2 vs1) H' fun σ3 H5 => L2.wipe σ3 vs1 = L2.wipe σ2 vs1 ∧ rdT W0 tt1 σ3 H5 fun b H6 =>
        if b = true then rdE W0 te σ3 H6 fun y H7 => ∃ acc, H7 Dp = some (.lst acc) ∧ acc.length < sizeLine ∧ Nx1 (upd H7 Dp (.lst (acc ++ [y]))) else Nx1 H6) := by
  refine ⟨fun j k H => k = ds1.length - j ∧ j ≤ ds1.length ∧ (∀ b o, b ≠ Dp → H4 b = some o → H b = some o) ∧ ∃ d1 left acc fpn, r1 = d1 ++ left ∧ compL tg1 tt1 te (wipeE ρ2 vs1) (ds1.drop j) = .ok left ∧ H Dp = some (.lst acc) ∧ Dp ∉ fpn ∧ (∀ a ∈ fpn, H4 a = none) ∧ VRO S0 F' (Dp :: (fp0 ++ fpn)) H (done ++ d1) acc (fp0 ++ fpn),
    ⟨ds1.length, by simp, Nat.zero_le _, fun _ _ _ q => q, [], r1, acc0, [], rfl, hc, hD, by simp, by simp, by simpa using vl⟩, ?_⟩
  rintro j k H ⟨rfl, hi, kp, d1, left, acc, fpn, ers, hl, hD0, nDn, nfn, vl0⟩
  have SD : S1 Dp := hD1 Dp List.mem_cons_self
  have ks : KeepS (inS S1 F2 e1) H4 H := fun b o q n => kp b o (fun z => n (.inl (z ▸ SD))) q
  obtain ⟨j2, j3⟩ := j1 H ks j
  by_cases hlt : j < ds1.length
  · refine .inr ⟨(j3 _ (List.getElem?_eq_getElem hlt)).1, fun H' => (∀ b o, b ≠ Dp → H4 b = some o → H' b = some o) ∧ ∃ d1 left acc fpn, r1 = d1 ++ left ∧ compL tg1 tt1 te (wipeE ρ2 vs1) (ds1.drop (j + 1)) = .ok left ∧ H' Dp = some (.lst acc) ∧ Dp ∉ fpn ∧ (∀ a ∈ fpn, H4 a = none) ∧ VRO S0 F' (Dp :: (fp0 ++ fpn)) H' (done ++ d1) acc (fp0 ++ fpn),
      fun H' h => ⟨ds1.length - (j + 1), by omega, rfl, hlt, h⟩, fun x H' y => ?_⟩
    obtain ⟨s2, rx⟩ := (j3 _ (List.getElem?_eq_getElem hlt)).2 x H' y
    rw [List.drop_eq_getElem_cons hlt] at hl
    unfold compL at hl
    have hD2 : H' Dp = some (.lst acc) := s2 _ _ hD0
    have vl2 : VRO S0 F' (Dp :: (fp0 ++ fpn)) H' (done ++ d1) acc (fp0 ++ fpn) := vl0.imp (fun _ _ _ q n => ⟨s2 _ _ q, n⟩) fun _ _ _ q => s2 _ _ q
    have kp2 : ∀ b o, b ≠ Dp → H4 b = some o → H' b = some o := fun b o h q => s2 _ _ (kp b o h q)
    have keepOut : ∀ a, S1 a → TrM H' a := fun a h => by
      obtain ⟨o, q, t⟩ := E.out a h
      by_cases z : a = Dp
      · rw [z]; exact ⟨_, hD2, trivial⟩
      · exact ⟨o, kp2 a o z q, t⟩
    have E2 : EE (fun a => S1 a ∨ a ∈ fpn) ρ2 σ2 H' F2 := E.turn (fun b o q n => kp2 b o (fun z => n (z ▸ SD)) q) (fun a h => h.elim .inl fun h => .inr (nfn a h)) fun a h => h.elim (keepOut a) fun h => vl2.there a (List.mem_append_right _ h)
    have E3 := E2.wipe vs1
    have rx3 : Rp (inS (fun a => (S1 a ∨ a ∈ fpn) ∨ ∃ i ∈ vs1, a ∈ F2 i) (cutF vs1 F2) []) H' ds1[j] x := by
      refine rx _ (fun b o q n => ⟨kp b o (fun z => n (.inl (z ▸ SD))) q, fun z => ?_⟩) fun b z => ?_
      · rcases z with ((z | z) | ⟨i, _, z⟩) | ⟨i, _, z⟩
        · exact n (.inl z)
        · have := nfn b z; rw [this] at q; cases q
        · exact n (.inr ⟨i, by simp, z⟩)
        · exact n (.inr ⟨i, by simp, (cutF_mem.mp z).2⟩)
      · have E2H : EE (fun a => S1 a ∨ a ∈ fpn) ρ2 σ2 H F2 := E.turn (fun b o q n => kp b o (fun z => n (z ▸ SD)) q) (fun a h => h.elim .inl fun h => .inr (nfn a h)) fun a h => h.elim (fun h => by
          obtain ⟨o, q, t⟩ := E.out a h
          by_cases z : a = Dp
          · rw [z]; exact ⟨_, hD0, trivial⟩
          · exact ⟨o, kp a o z q, t⟩) fun h => vl0.there a (List.mem_append_right _ h)
        obtain ⟨o, ho, _⟩ := (E2H.wipe vs1).inTr z
        exact ⟨o, ho⟩
    cases ht : tg1 ds1[j] (wipeE ρ2 vs1) with
    | none => rw [ht] at hl; cases hl
    | some ρ3 =>
      rw [ht] at hl
      simp only at hl
      refine ⟨_, _, _, ds1[j], E3, fun k hk => by simp [cutF, hk], rx3, ρ3, ht, fun σ3 E4 hl2 ha2 => ⟨(wipe_same hl2 ha2).trans wipe_wipe, ?_⟩⟩
      refine ⟨_, ρ3, _, E4, ?_⟩
      cases hb : tt1 ρ3 with
      | bad => rw [hb] at hl; cases hl
      | exn _ => rw [hb] at hl; cases hl
      | ok b =>
        intro H6 s3
        rw [hb] at hl
        have hl : (if b = true then (noX (te ρ3)).bind fun r => (compL tg1 tt1 te (wipeE ρ2 vs1) (ds1.drop (j + 1))).bind fun rs => .ok (r :: rs) else compL tg1 tt1 te (wipeE ρ2 vs1) (ds1.drop (j + 1))) = .ok left := hl
        cases b with
        | false =>
          rw [if_neg Bool.false_ne_true] at hl ⊢
          exact ⟨fun b o h q => s3 _ _ (kp2 b o h q), d1, left, acc, fpn, ers, hl, s3 _ _ hD2, nDn, nfn, vl2.imp (fun _ _ _ q n => ⟨s3 _ _ q, n⟩) fun _ _ _ q => s3 _ _ q⟩
        | true =>
          rw [if_pos rfl] at hl ⊢
          have E5 := E4.grow s3
          refine ⟨_, ρ3, _, E5, ?_⟩
          cases he : te ρ3 with
          | bad => rw [he] at hl; cases hl
          | exn _ => rw [he] at hl; cases hl
          | ok r =>
            intro y H7 f s4 nf vy
            rw [he] at hl
            have hl : (compL tg1 tt1 te (wipeE ρ2 vs1) (ds1.drop (j + 1))).bind (fun rs => .ok (r :: rs)) = .ok left := hl
            cases hr : compL tg1 tt1 te (wipeE ρ2 vs1) (ds1.drop (j + 1)) with
            | bad => rw [hr] at hl; cases hl
            | exn _ => rw [hr] at hl; cases hl
            | ok left' =>
              rw [hr] at hl
              cases hl
              have sm4 : Same H' H7 := s3.trans s4
              have hD4 : H7 Dp = some (.lst acc) := sm4 _ _ hD2
              have nfH : ∀ a ∈ f, H' a = none := fun a ha => s3.free (nf a ha)
              have nDf' : Dp ∉ f := fun z => by have := nfH Dp z; rw [hD2] at this; cases this
              have nf4 : ∀ a ∈ f, H4 a = none := fun a ha => by
                cases q : H4 a with
                | none => rfl
                | some o =>
                  have := nfH a ha
                  rw [kp2 a o (fun z => nDf' (z ▸ ha)) q] at this; cases this
              have fpf : ∀ a ∈ fp0 ++ fpn, a ∉ f := fun a ha z => by
                obtain ⟨o, ho, _⟩ := vl2.there a ha
                have := nfH a z
                rw [ho] at this; cases this
              have lenA : acc.length = done.length + d1.length := by rw [vl2.length, List.length_append]
              refine ⟨acc, hD4, ?_, ?_⟩
              · rw [lenA]
                rw [ers] at hz
                simp at hz
                omega
              · have su : ∀ b o, b ≠ Dp → H7 b = some o → upd H7 Dp (.lst (acc ++ [y])) b = some o := fun b o hb q => by rw [upd_ne hb]; exact q
                have nDa : Dp ∉ fp0 ++ fpn := fun z => (List.mem_append.mp z).elim nDf nDn
                refine ⟨fun b o h q => su b o h (sm4 _ _ (kp2 b o h q)), d1 ++ [r], left', acc ++ [y], fpn ++ f, by rw [ers]; simp, rfl, upd_same, by simp [nDn, nDf'], fun a ha => (List.mem_append.mp ha).elim (nfn a) (nf4 a), ?_⟩
                rw [← List.append_assoc, ← List.append_assoc]
                have neD : ∀ a ∈ fp0 ++ fpn, a ≠ Dp := fun a ha z => nDa (z ▸ ha)
                refine VRO.snoc ?_ (vl2.imp (fun e b o q n => ⟨su b o (fun z => n (.inr (by rw [z]; exact List.mem_cons_self))) (sm4 _ _ q), fun z => n ?_⟩) fun b o hb q => su b o (neD b hb) (sm4 _ _ q)) fpf
                · refine Ow.imp (fun b o q n => ⟨su b o (fun z => n (.inl (.inl (.inl (.inl (z ▸ SD)))))) q, fun z => n ?_⟩) _ _ _ _ (fun b o hb q => su b o (fun z => nDf' (z ▸ hb)) q) vy.ow
                  rcases z with z | z
                  · exact .inl (inS_wipe ((hS1 _ _ z).elim (fun z => .inl (.inl z)) .inr))
                  · rcases List.mem_cons.mp z with z | z
                    · exact .inl (.inl (.inl (.inl (z ▸ SD))))
                    · rcases List.mem_append.mp z with z | z
                      · rcases List.mem_append.mp z with z | z
                        · exact .inl (.inl (.inl (.inl (hD1 b (List.mem_cons_of_mem _ z)))))
                        · exact .inl (.inl (.inl (.inr z)))
                      · exact .inr z
                · rcases z with z | z
                  · exact .inl z
                  · rcases List.mem_cons.mp z with z | z
                    · exact .inr (by rw [z]; exact List.mem_cons_self)
                    · rcases List.mem_append.mp z with z | z
                      · exact .inr (List.mem_cons_of_mem _ z)
                      · have := nfH b z
                        rw [q] at this; cases this
  · have e : j = ds1.length := by omega
    subst e
    rw [List.drop_length] at hl
    cases hl
    rw [List.append_nil] at ers
    subst ers
    have sm' : Same H1 H := fun b o q => kp b o (ne_of_none q nD) (sm _ _ q)
    exact .inl ⟨j2 (Nat.le_refl _), hN H acc (fp0 ++ fpn) sm' hD0 (fun z => (List.mem_append.mp z).elim nDf nDn) (fun a ha => (List.mem_append.mp ha).elim (nfp a) fun z => sm.free (nfn a z)) vl0⟩
/-- the loop of a comprehension with two for -/
theorem comp_loop2 {S0 : PA1} {ρ : Ev} {F : FP} {σ : St} {H1 : Hp} {c e : List Nat} {J : L2.It} {ds : List D} {tg tg1 : FG} {it1 : FI} {tt1 : FT} {te : FE} {vs vs1 : List Nat} {rs : List R} {Qd : Addr → Hp → Prop} (E : EE S0 ρ σ H1 F) (j : JOk (inS S0 F e) (inS S0 F c) J ds H1)
    (hc : compL2 tg it1 tg1 tt1 te vs1 (wipeE (frzL c ρ) vs) ds = .ok rs) (hz : rs.length ≤ sizeLine) (hq : ∀ Dp H acc fp, Same H1 H → H1 Dp = none → (∀ a ∈ fp, H1 a = none) → H Dp = some (.lst acc) → Dp ∉ fp → VRO S0 (cutF c F) (Dp :: fp) H rs acc fp → Qd Dp H) (Dp : Addr) (nD : H1 Dp = none) :
    ∃ W : Nat → Nat → Hp → Prop, (∃ m, W 0 m (upd H1 Dp (.lst []))) ∧ ∀ i m H, W i m H →
      (J.stop i H ∧ Qd Dp H) ∨ (J.go i H ∧ ∃ Nx : Hp → Prop, (∀ H', Nx H' → ∃ m', m' < m ∧ W (i + 1) m' H') ∧ ∀ x H', J.yld i H x H' → rdG vs tg x (L2.wipe σ vs) H' fun σ2 H2 => L2.wipe σ2 vs = L2.wipe σ vs ∧ rdT W0 fYes σ2 H2 fun b H3 =>
        if b = true then rdI W0 it1 σ2 H3 fun J1 H4 => ∃ W1 : Nat → Nat → Hp → Prop, (∃ m, W1 0 m H4) ∧ ∀ j k H, W1 j k H →
          (J1.stop j H ∧ Nx H) ∨ (J1.go j H ∧ ∃ Nx1 : Hp → Prop, (∀ H', Nx1 H' → ∃ k', k' < k ∧ W1 (j + 1) k' H') ∧ ∀ x H', J1.yld j H x H' → rdG vs1 tg1 x (L2.wipe σ2 vs1) H' fun σ3 H5 => L2.wipe σ3 vs1 = L2.wipe σ2 vs1 ∧ rdT W0 tt1 σ3 H5 fun b H6 =>
            if b = true then rdE W0 te σ3 H6 fun y H7 => ∃ acc, H7 Dp = some (.lst acc) ∧ acc.length < sizeLine ∧ Nx1 (upd H7 Dp (.lst (acc ++ [y]))) else Nx1 H6)
        else Nx H3) := by
  have E1 : EE S0 (frzL c ρ) σ H1 (cutF c F) := E.frzL c
  refine ⟨fun i m H => m = ds.length - i ∧ i ≤ ds.length ∧ Same H1 H ∧ ∃ done left acc fp, rs = done ++ left ∧ compL2 tg it1 tg1 tt1 te vs1 (wipeE (frzL c ρ) vs) (ds.drop i) = .ok left ∧ H Dp = some (.lst acc) ∧ Dp ∉ fp ∧ (∀ a ∈ fp, H1 a = none) ∧ VRO S0 (cutF c F) (Dp :: fp) H done acc fp,
    ⟨ds.length, by simp, Nat.zero_le _, same_upd nD, [], rs, [], [], rfl, hc, upd_same, by simp, by simp, ⟨rfl, rfl⟩⟩, ?_⟩
  rintro i m H ⟨rfl, hi, sm, done, left, acc, fp, ers, hl, hD, nDf, nfp, vl⟩
  obtain ⟨j1, j2⟩ := j H (KeepS.of sm) i
  by_cases hlt : i < ds.length
  · refine .inr ⟨(j2 _ (List.getElem?_eq_getElem hlt)).1, fun H' => Same H1 H' ∧ ∃ done left acc fp, rs = done ++ left ∧ compL2 tg it1 tg1 tt1 te vs1 (wipeE (frzL c ρ) vs) (ds.drop (i + 1)) = .ok left ∧ H' Dp = some (.lst acc) ∧ Dp ∉ fp ∧ (∀ a ∈ fp, H1 a = none) ∧ VRO S0 (cutF c F) (Dp :: fp) H' done acc fp,
      fun H' h => ⟨ds.length - (i + 1), by omega, rfl, hlt, h⟩, fun x H' y => ?_⟩
    obtain ⟨s2, rx⟩ := (j2 _ (List.getElem?_eq_getElem hlt)).2 x H' y
    rw [List.drop_eq_getElem_cons hlt] at hl
    unfold compL2 at hl
    have sm2 : Same H1 H' := sm.trans s2
    have hD2 : H' Dp = some (.lst acc) := s2 _ _ hD
    have vl2 : VRO S0 (cutF c F) (Dp :: fp) H' done acc fp := vl.imp (fun _ _ _ q n => ⟨s2 _ _ q, n⟩) fun _ _ _ q => s2 _ _ q
    have E2 : EE (fun a => S0 a ∨ a ∈ Dp :: fp) (frzL c ρ) σ H' (cutF c F) := E1.ext sm2 (fun a h => h.elim .inl fun h => .inr ((List.mem_cons.mp h).elim (fun z => z ▸ nD) (nfp a))) fun a h => h.elim (fun h => (E1.out a h).grow sm2) fun h => (List.mem_cons.mp h).elim (fun z => z ▸ ⟨_, hD2, trivial⟩) (vl2.there a)
    have E3 := E2.wipe vs
    have rx3 : Rp (inS (fun a => (S0 a ∨ a ∈ Dp :: fp) ∨ ∃ i ∈ vs, a ∈ cutF c F i) (cutF vs (cutF c F)) []) H' ds[i] x := by
      refine rx _ (fun b o q n => ⟨sm _ _ q, fun z => ?_⟩) fun b z => ?_
      · rcases z with ((z | z) | ⟨k, _, z⟩) | ⟨k, _, z⟩
        · exact n (.inl z)
        · rcases List.mem_cons.mp z with z | z
          · exact ne_of_none q nD z
          · exact ne_of_none q (nfp b z) rfl
        · obtain ⟨z1, z2⟩ := cutF_mem.mp z
          exact n (.inr ⟨k, z1, z2⟩)
        · obtain ⟨z1, z2⟩ := cutF_mem.mp (cutF_mem.mp z).2
          exact n (.inr ⟨k, z1, z2⟩)
      · have E2H : EE (fun a => S0 a ∨ a ∈ Dp :: fp) (frzL c ρ) σ H (cutF c F) := E1.ext sm (fun a h => h.elim .inl fun h => .inr ((List.mem_cons.mp h).elim (fun z => z ▸ nD) (nfp a))) fun a h => h.elim (fun h => (E1.out a h).grow sm) fun h => (List.mem_cons.mp h).elim (fun z => z ▸ ⟨_, hD, trivial⟩) (vl.there a)
        obtain ⟨o, ho, _⟩ := (E2H.wipe vs).inTr z
        exact ⟨o, ho⟩
    cases ht : tg ds[i] (wipeE (frzL c ρ) vs) with
    | none => rw [ht] at hl; cases hl
    | some ρ2 =>
      rw [ht] at hl
      simp only at hl
      refine ⟨_, _, _, ds[i], E3, fun k hk => by simp [cutF, hk], rx3, ρ2, ht, fun σ2 E4 hl2 ha2 => ⟨(wipe_same hl2 ha2).trans wipe_wipe, ?_⟩⟩
      refine ⟨_, ρ2, _, E4, ?_⟩
      intro H3 s3
      rw [if_pos rfl]
      have E5 := E4.grow s3
      refine ⟨_, ρ2, _, E5, ?_⟩
      cases hs : it1 ρ2 with
      | bad => rw [hs] at hl; cases hl
      | exn _ => rw [hs] at hl; cases hl
      | ok s =>
        intro J1 H4 s4 jk
        rw [hs] at hl
        have hl : (if s.c.isEmpty = true then (compL tg1 tt1 te (wipeE ρ2 vs1) s.ds).bind fun r1 => (compL2 tg it1 tg1 tt1 te vs1 (wipeE (frzL c ρ) vs) (ds.drop (i + 1))).bind fun rs => .ok (r1 ++ rs) else .bad) = .ok left := hl
        split at hl
        · rename_i hem
          have hem : s.c = [] := by simpa using hem
          rw [hem] at jk
          cases h1 : compL tg1 tt1 te (wipeE ρ2 vs1) s.ds with
          | bad => rw [h1] at hl; cases hl
          | exn _ => rw [h1] at hl; cases hl
          | ok r1 =>
            rw [h1] at hl
            have hl : (compL2 tg it1 tg1 tt1 te vs1 (wipeE (frzL c ρ) vs) (ds.drop (i + 1))).bind (fun rs => .ok (r1 ++ rs)) = .ok left := hl
            cases hr : compL2 tg it1 tg1 tt1 te vs1 (wipeE (frzL c ρ) vs) (ds.drop (i + 1)) with
            | bad => rw [hr] at hl; cases hl
            | exn _ => rw [hr] at hl; cases hl
            | ok left' =>
              rw [hr] at hl
              cases hl
              have s34 : Same H' H4 := s3.trans s4
              refine comp_loopI (E5.grow s4) jk h1 (by
                have := congrArg List.length ers
                rw [List.length_append, List.length_append] at this
                omega) (sm2.trans s34) (s34 _ _ hD2) nD nDf nfp (vl2.imp (fun _ _ _ q n => ⟨s34 _ _ q, n⟩) fun _ _ _ q => s34 _ _ q) (fun e a z => inS_wipe (z.elim (fun z => .inl (.inl z)) .inr)) (fun a ha => .inl (.inr ha)) fun H9 acc9 fp9 a1 a2 a3 a4 a5 => ⟨a1, done ++ r1, left', acc9, fp9, by rw [ers]; simp, rfl, a2, a3, a4, a5⟩
        · cases hl
  · have e : i = ds.length := by omega
    subst e
    rw [List.drop_length] at hl
    cases hl
    rw [List.append_nil] at ers
    subst ers
    exact .inl ⟨j1 (Nat.le_refl _), hq Dp H acc fp sm nD nfp hD nDf vl⟩
theorem compL_nx {tg : FG} {tt : FT} {te : FE} : ∀ (ds : List D) (ρ : Ev) x, compL tg tt te ρ ds ≠ .exn x := by
  intro ds
  induction ds with
  | nil => intro ρ x h; cases h
  | cons d ds ih =>
    intro ρ x h
    unfold compL at h
    cases ht : tg d ρ with
    | none => rw [ht] at h; cases h
    | some ρ2 =>
      rw [ht] at h
      simp only at h
      cases hb : tt ρ2 with
      | bad => rw [hb] at h; cases h
      | exn _ => rw [hb] at h; cases h
      | ok b =>
        rw [hb] at h
        have h : (if b = true then (noX (te ρ2)).bind fun r => (compL tg tt te ρ ds).bind fun rs => .ok (r :: rs) else compL tg tt te ρ ds) = .exn x := h
        cases b with
        | false => rw [if_neg Bool.false_ne_true] at h; exact ih ρ x h
        | true =>
          rw [if_pos rfl] at h
          cases he : te ρ2 with
          | bad => rw [he] at h; cases h
          | exn _ => rw [he] at h; cases h
          | ok r =>
            rw [he] at h
            have h : (compL tg tt te ρ ds).bind (fun rs => .ok (r :: rs)) = .exn x := h
            cases hr : compL tg tt te ρ ds with
            | bad => rw [hr] at h; cases h
            | exn y => exact ih ρ y hr
            | ok rs => rw [hr] at h; cases h
theorem rd_lc2 {dep : Nat} {W : WK} {it it1 : FI} {tg tg1 : FG} {tt1 : FT} {te : FE} {vs vs1 : List Nat} {σ : St} {H : Hp} {Q : VK} (h : rdE W (fComp2 dep it tg it1 tg1 tt1 te vs vs1) σ H Q) : tLc2 (rdI W it) (rdG vs tg) (rdT W0 fYes) (rdI W0 it1) (rdG vs1 tg1) (rdT W0 tt1) (rdE W0 te) vs vs1 σ H Q := by
  obtain ⟨S0, ρ, F, E, p⟩ := h
  refine ⟨S0, ρ, F, E, ?_⟩
  unfold fComp2 at p
  cases q : it ρ with
  | bad => rw [q] at p; exact p.elim
  | exn x => rw [q] at p; exact p
  | ok s =>
    rw [q] at p
    intro J H1 sm j Dp nD
    have p : Post W S0 F σ H Q ((compL2 tg it1 tg1 tt1 te vs1 (wipeE (frzL s.c ρ) vs) s.ds).bind (dispC dep s.c)) := p
    have nx : ∀ (ds : List D) (ρ : Ev) x, compL2 tg it1 tg1 tt1 te vs1 ρ ds ≠ .exn x := by
      intro ds
      induction ds with
      | nil => intro ρ x h; cases h
      | cons d ds ih =>
        intro ρ x h
        unfold compL2 at h
        cases ht : tg d ρ with
        | none => rw [ht] at h; cases h
        | some ρ2 =>
          rw [ht] at h
          simp only at h
          cases hb : it1 ρ2 with
          | bad => rw [hb] at h; cases h
          | exn _ => rw [hb] at h; cases h
          | ok s =>
            rw [hb] at h
            have h : (if s.c.isEmpty = true then (compL tg1 tt1 te (wipeE ρ2 vs1) s.ds).bind fun r1 => (compL2 tg it1 tg1 tt1 te vs1 ρ ds).bind fun rs => .ok (r1 ++ rs) else .bad) = .exn x := h
            split at h
            · cases h1 : compL tg1 tt1 te (wipeE ρ2 vs1) s.ds with
              | bad => rw [h1] at h; cases h
              | exn y => exact (compL_nx _ _ _ h1).elim
              | ok r1 =>
                rw [h1] at h
                have h : (compL2 tg it1 tg1 tt1 te vs1 ρ ds).bind (fun rs => .ok (r1 ++ rs)) = .exn x := h
                cases hr : compL2 tg it1 tg1 tt1 te vs1 ρ ds with
                | bad => rw [hr] at h; cases h
                | exn y => exact ih ρ y hr
                | ok rs => rw [hr] at h; cases h
            · cases h
    cases hc : compL2 tg it1 tg1 tt1 te vs1 (wipeE (frzL s.c ρ) vs) s.ds with
    | bad => rw [hc] at p; exact p.elim
    | exn x => exact (nx _ _ _ hc).elim
    | ok rs =>
      rw [hc] at p
      have p : Post W S0 F σ H Q (dispC dep s.c rs) := p
      unfold dispC at p
      split at p
      · rename_i hz
        refine comp_loop2 (Qd := fun Dp H => Q (.ref Dp) H) (E.grow sm) j hc hz (fun Dp H2 acc fp s2 nD nfp hD nDf vl => ?_) Dp nD
        have s12 := sm.trans s2
        have n0 : ∀ a ∈ fp, H a = none := fun a ha => sm.free (nfp a ha)
        have nD0 : H Dp = none := sm.free nD
        have cv : ∀ {e : List Nat} {a : Addr}, inS S0 F (s.c ++ e) a → inS S0 (cutF s.c F) e a := fun h => inS_cut.mpr h
        have hE : ∀ r ∈ rs, ∀ i ∈ r.e, i ∈ esL rs := fun r h => esL_mem h
        have nfpE : ∀ e, ∀ a ∈ Dp :: fp, ¬ inS S0 F e a := fun e a ha z => E.fresh z ((List.mem_cons.mp ha).elim (fun q => q ▸ nD0) (n0 a))
        -- owned so deep
        have key : ∃ fq, (∀ a ∈ fq, H a = none) ∧ Ow (fun a => inS S0 F (s.c ++ esL rs) a ∨ a ∈ fq) H2 (hDep dep rs + 1) (.lst (rs.map (·.d))) (.ref Dp) fq := by
          by_cases hd : hDep dep rs = 0
          · refine ⟨[Dp], fun a ha => by rw [List.mem_singleton.mp ha]; exact nD0, ?_⟩
            rw [hd]
            exact ⟨Dp, acc, [], rfl, hD, all_zero (vl.rp (E := esL rs) (fun a z => z.elim (fun z => .inl (cv z)) fun z => .inr (by rw [List.mem_singleton.mp z]; exact List.mem_cons_self)) (fun a ha z => z.elim (nfpE _ a (List.mem_cons_of_mem _ ha)) fun z => nDf ((List.mem_singleton.mp z) ▸ ha)) hE), rfl, by simp⟩
          · refine ⟨Dp :: fp, fun a ha => (List.mem_cons.mp ha).elim (fun q => q ▸ nD0) (n0 a), Dp, acc, fp, rfl, hD, ?_, rfl, nDf⟩
            have al := vl.all (m := hDep dep rs) (E := esL rs) (fun r h => (hDep_sc r h).elim .inl fun z => z.elim .inr fun z => absurd z hd) hE
            exact al.mono (fun b o q n => ⟨q, fun z => n (z.elim (fun z => .inl (cv z)) .inr)⟩) (Same.refl _)
        obtain ⟨fq, nq, o⟩ := key
        have nqE : ∀ e, ∀ a ∈ fq, ¬ inS S0 F e a := fun e a ha z => E.fresh z (nq a ha)
        simp only at p
        split at p
        · rename_i ha
          have E2 := E.grow s12
          have tr := Ow.there _ _ _ _ o
          exact p _ H2 fq s12 nq (VR.of (Ow.af (fun a z => z.elim (fun z => E2.inTr z) (tr a)) _ _ _ _ ha o) (nqE _))
        · exact p _ H2 fq s12 nq (VR.of o (nqE _))
      · exact p.elim

section
variable {X : Cx} {W : WK}
theorem e_comp2 {dep : Nat} {elt tg iter tg1 iter1 : Expr} {ifs1 : List Expr} {scope : Scope} {own : List (Str × Nat)} {vs1 : List Nat} {pos : Pos} {it it1 : FI} {g g1 : FG} {tt1 : FT} {te : FE} (hc : X.calm = true) (hN : X.N.Nodup) (hi : PI X tg iter (rdI W it)) (ok : BlkOk X.N X.env.scope scope own) (hv : ∀ i ∈ vs1, i ∈ own.map (·.2))
    (hg : ∀ (s : Shared) (H : Hp) (C : Addr) (cl : List (Str × Addr)) (fp : List Addr), PG (X.blk s H scope (compEnvC scope cl C X.env) fp) tg (rdG (own.map (·.2)) g))
    (hi1 : ∀ (s : Shared) (H : Hp) (C : Addr) (cl : List (Str × Addr)) (fp : List Addr), PI (X.blk s H scope (compEnvC scope cl C X.env) fp) tg1 iter1 (rdI W0 it1))
    (hg1 : ∀ (s : Shared) (H : Hp) (C : Addr) (cl : List (Str × Addr)) (fp : List Addr), PG (X.blk s H scope (compEnvC scope cl C X.env) fp) tg1 (rdG vs1 g1)) (ht1 : ∀ (s : Shared) (H : Hp) (C : Addr) (cl : List (Str × Addr)) (fp : List Addr), PTs (X.blk s H scope (compEnvC scope cl C X.env) fp) ifs1 (rdT W0 tt1))
    (he : ∀ (s : Shared) (H : Hp) (C : Addr) (cl : List (Str × Addr)) (fp : List Addr), PE (X.blk s H scope (compEnvC scope cl C X.env) fp) elt (rdE W0 te)) (hs : ∀ x, foldedSetIterable iter X.env x = pure x := by intro _; rfl) (hs1 : ∀ env x, foldedSetIterable iter1 env x = pure x := by intro _ _; rfl) :
    PE X (.ListComp elt [⟨tg, iter, [], 0⟩, ⟨tg1, iter1, ifs1, 0⟩] scope pos) (rdE W (fComp2 dep it g it1 g1 tt1 te (own.map (·.2)) vs1)) :=
  peI (pe_lc2 hc hN hi ok hv hg (fun _ _ _ _ _ => ts_nil) hi1 hg1 ht1 he hs hs1) fun _ _ _ h => rd_lc2 h
end
theorem s_setLc2 {X : Cx} {W : WK} {i dep : Nat} {y : Str} {py : Pos} {elt tg iter tg1 iter1 : Expr} {ifs1 : List Expr} {scope : Scope} {own : List (Str × Nat)} {vs1 : List Nat} {pos spos : Pos} {it it1 : FI} {g g1 : FG} {tt1 : FT} {te : FE} (hc : X.calm = true) (hN : X.N.Nodup) (hy : X.N[i]? = some y) (hyl : X.env.scope.names.lookup y = some .local)
    (hsw : swapsWith (.ListComp elt [⟨tg, iter, [], 0⟩, ⟨tg1, iter1, ifs1, 0⟩] scope pos) (some (.Name y py)) spos.line X.env = pure true) (hi : PI X tg iter (rdI W it)) (ok : BlkOk X.N X.env.scope scope own) (hv : ∀ i ∈ vs1, i ∈ own.map (·.2))
    (hg : ∀ (s : Shared) (H : Hp) (C : Addr) (cl : List (Str × Addr)) (fp : List Addr), PG (X.blk s H scope (compEnvC scope cl C X.env) fp) tg (rdG (own.map (·.2)) g))
    (hi1 : ∀ (s : Shared) (H : Hp) (C : Addr) (cl : List (Str × Addr)) (fp : List Addr), PI (X.blk s H scope (compEnvC scope cl C X.env) fp) tg1 iter1 (rdI W0 it1))
    (hg1 : ∀ (s : Shared) (H : Hp) (C : Addr) (cl : List (Str × Addr)) (fp : List Addr), PG (X.blk s H scope (compEnvC scope cl C X.env) fp) tg1 (rdG vs1 g1)) (ht1 : ∀ (s : Shared) (H : Hp) (C : Addr) (cl : List (Str × Addr)) (fp : List Addr), PTs (X.blk s H scope (compEnvC scope cl C X.env) fp) ifs1 (rdT W0 tt1))
    (he : ∀ (s : Shared) (H : Hp) (C : Addr) (cl : List (Str × Addr)) (fp : List Addr), PE (X.blk s H scope (compEnvC scope cl C X.env) fp) elt (rdE W0 te)) (hs : ∀ x, foldedSetIterable iter X.env x = pure x := by intro _; rfl) (hs1 : ∀ env x, foldedSetIterable iter1 env x = pure x := by intro _ _; rfl) :
    PS X (.Assign [.Name y py] (.ListComp elt [⟨tg, iter, [], 0⟩, ⟨tg1, iter1, ifs1, 0⟩] scope pos) spos) (rdS W (sSet i (fComp2 dep it g it1 g1 tt1 te (own.map (·.2)) vs1))) :=
  psI (ps_setLc2 hc hN hy hyl hsw hi ok hv hg (fun _ _ _ _ _ => ts_nil) hi1 hg1 ht1 he hs hs1) fun Dn σ H ⟨S0, H0, ρ, F, E, p⟩ => rd_lc2 (ps_bind E p fun r v H1 fp s n vr E1 p1 => set_post E s n vr p1)
/-! ### typed -/
def zFlt {α β : Type} (f : α → Option (List β)) : List α → Option (List β)
  | [] => some []
  | x :: xs => (f x).bind fun ys => (zFlt f xs).bind fun zs => some (ys ++ zs)
theorem GvL.app {kk : Option Nat} {E C : List Nat} : ∀ {rs qs : List R} {ds es : List D}, GvL kk E C rs ds → GvL kk E C qs es → GvL kk E C (rs ++ qs) (ds ++ es)
  | [], _, [], _, _, h => h
  | r :: rs, _, d :: ds, _, h, h' => ⟨h.1, GvL.app h.2 h'⟩
  | [], _, _ :: _, _, h, _ => h.elim
  | _ :: _, _, [], _, h, _ => h.elim
section
variable {S : Spec} {α β γ : Type} [Enc α] [Enc β] [Enc γ] {kk : Option Nat} {E C Ei Ci : List Nat}
theorem compL2_t {tg tg1 : FG} {it1 : FI} {tt1 : FT} {te : FE} {vs1 : List Nat} {ρ : Ev} {f : α → Option (List γ)} : ∀ {xs : List α} {ys : List γ}, (∀ x ∈ xs, ∀ l, f x = some l → ∃ ρ2 s rs, tg (enc x) ρ = some ρ2 ∧ it1 ρ2 = .ok s ∧ s.c = [] ∧ compL tg1 tt1 te (wipeE ρ2 vs1) s.ds = .ok rs ∧ GvL kk E C rs (l.map enc)) → zFlt f xs = some ys →
    ∃ rs, compL2 tg it1 tg1 tt1 te vs1 ρ (xs.map enc) = .ok rs ∧ GvL kk E C rs (ys.map enc)
  | [], ys, _, h => by cases h; exact ⟨[], rfl, trivial⟩
  | x :: xs, ys, hb, h => by
    unfold zFlt at h
    obtain ⟨l, hl, h⟩ := bnd h
    obtain ⟨zs, hz, h⟩ := bnd h
    cases h
    obtain ⟨ρ2, s, r1, e1, e2, e3, e4, g⟩ := hb x List.mem_cons_self l hl
    obtain ⟨rs, e5, g5⟩ := compL2_t (fun y hy => hb y (List.mem_cons_of_mem _ hy)) hz
    refine ⟨r1 ++ rs, ?_, by rw [List.map_append]; exact g.app g5⟩
    rw [List.map_cons]
    unfold compL2
    rw [e1]
    simp only [e2, noX, bd_ok, e3, List.isEmpty_nil, if_true, e4, e5]
/-- a comprehension with two for, whose items are wholly new -/
theorem re_c2F [EncF γ] {dep : Nat} {it it1 : FI} {tg tg1 : FG} {tt1 : FT} {te : FE} {vs vs1 : List Nat} {xs : List α} {ys zs : List γ} {E1 : List Nat} {fi : α → Option (List β)} {fm : α → β → Option (Option γ)} {Sx : α → Spec} {Sy : α → β → Spec} (hd : EncF.dp γ ≤ dep) (hk : (∀ y : γ, scal (enc y) = true) ∨ kk = some dep) (hi : RI S it xs Ei Ci)
    (h1 : ∀ x, BG tg vs x (frzS Ci S) (Sx x)) (hi1 : ∀ x l, fi x = some l → RI (Sx x) it1 l E1 []) (h2 : ∀ x y, BG tg1 vs1 y (Sx x) (Sy x y)) (hb : ∀ x y o, fm x y = some o → RT (Sy x y) tt1 o.isSome ∧ ∀ z, o = some z → RE (Sy x y) te z kk E C)
    (e1 : zFlt (fun x => (fi x).bind fun l => zFilM (fm x) l) xs = some ys) (e2 : zLst ys = some zs) : RE S (fComp2 dep it tg it1 tg1 tt1 te vs vs1) zs (some (dep + 1)) [] [] := by
  unfold zLst at e2
  split at e2
  · rename_i hl
    cases e2
    intro ρ z
    obtain ⟨s, q1, q2, q3, q4⟩ := hi ρ z
    obtain ⟨rs, q5, gl⟩ := compL2_t (tg := tg) (it1 := it1) (tg1 := tg1) (tt1 := tt1) (te := te) (vs1 := vs1) (ρ := wipeE (frzL s.c ρ) vs) (kk := kk) (E := E) (C := C) (fun x hx l hl => by
      obtain ⟨m, hm, hl⟩ := bnd hl
      obtain ⟨ρ2, b1, b2⟩ := h1 x _ (z.frz q4)
      obtain ⟨s1, c1, c2, c3, c4⟩ := hi1 x m hm ρ2 b2
      have c5 : s1.c = [] := by
        cases h : s1.c with
        | nil => rfl
        | cons a t => have := c4 a (by rw [h]; exact List.mem_cons_self); cases this
      obtain ⟨r1, d1, d2⟩ := compL_t (tg := tg1) (tt := tt1) (te := te) (ρ := wipeE ρ2 vs1) (kk := kk) (E := E) (C := C) (fm := fm x) (xs := m) (ys := l) (fun y hy o ho => by
        obtain ⟨t1, t2⟩ := hb x y o ho
        obtain ⟨ρ3, u1, u2⟩ := h2 x y ρ2 b2
        exact ⟨ρ3, u1, t1 ρ3 u2, fun w hw => t2 w hw ρ3 u2⟩) hl
      exact ⟨ρ2, s1, r1, b1, c1, c5, by rw [c2]; exact d1, d2⟩) e1
    obtain ⟨a1, a2, a3⟩ := gl.all
    refine ⟨⟨enc ys, dep + 1, [], []⟩, ?_, rfl, fun m z => by cases z; rfl, fun j hj => (by cases hj), fun j hj => (by cases hj)⟩
    have e : fComp2 dep it tg it1 tg1 tt1 te vs vs1 ρ = dispC dep s.c rs := by
      show (it ρ).bind _ = _
      rw [q1, bd_ok, q2, q5, bd_ok]
    rw [e]
    have hl' : rs.length ≤ sizeLine := by have := congrArg List.length a1; rw [List.length_map, List.length_map] at this; omega
    have hh : hDep dep rs = dep := hdep_of fun r hr => by
      obtain ⟨d, hd, g⟩ := a2 r hr
      rcases hk with hk | hk
      · obtain ⟨y, _, rfl⟩ := List.mem_map.mp hd
        exact .inl (by rw [g.1]; exact hk y)
      · exact .inr (g.2.1 dep hk)
    unfold dispC
    rw [if_pos hl']
    simp only [hh, a1]
    exact if_pos (af_lst fun d hd' => by
      obtain ⟨y, _, rfl⟩ := List.mem_map.mp hd'
      exact af_up _ (EncF.ok y) hd)
  · cases e2
theorem ri_to {it : FI} {xs ys : List α} {E C : List Nat} (h : RI S it xs E C) (e : some xs = some ys) : RI S it ys E C := by cases e; exact h
theorem re_2f [EncF γ] {dep : Nat} {it it1 : FI} {tg tg1 : FG} {tt1 : FT} {te : FE} {vs vs1 : List Nat} {xs : List α} {ys zs : List γ} {E1 : List Nat} {fi : α → Option (List β)} {t : α → β → Option Bool} {h : α → β → Option γ} {Sx : α → Spec} {Sy : α → β → Spec} (hd : EncF.dp γ ≤ dep) (hk : (∀ y : γ, scal (enc y) = true) ∨ kk = some dep) (hi : RI S it xs Ei Ci)
    (h1 : ∀ x, BG tg vs x (frzS Ci S) (Sx x)) (hi1 : ∀ x l, fi x = some l → RI (Sx x) it1 l E1 []) (h2 : ∀ x y, BG tg1 vs1 y (Sx x) (Sy x y)) (ht : ∀ x y b, t x y = some b → RT (Sy x y) tt1 b) (he : ∀ x y z, h x y = some z → RE (Sy x y) te z kk E C)
    (e1 : zFlt (fun x => (fi x).bind fun l => zFilM (fun y => zSel (t x y) (h x y)) l) xs = some ys) (e2 : zLst ys = some zs) : RE S (fComp2 dep it tg it1 tg1 tt1 te vs vs1) zs (some (dep + 1)) [] [] :=
  re_c2F hd hk hi h1 hi1 h2 (fun x y o e => by
    obtain ⟨b, hb, e⟩ := bnd e
    rcases tif e with ⟨rfl, e⟩ | ⟨rfl, e⟩
    · obtain ⟨w, hw, e⟩ := bnd e
      cases e
      exact ⟨ht x y _ hb, fun z hz => by cases hz; exact he x y w hw⟩
    · cases e
      exact ⟨ht x y _ hb, fun z hz => (by cases hz)⟩) e1 e2
theorem re_2m [EncF γ] {dep : Nat} {it it1 : FI} {tg tg1 : FG} {te : FE} {vs vs1 : List Nat} {xs : List α} {ys zs : List γ} {E1 : List Nat} {fi : α → Option (List β)} {h : α → β → Option γ} {Sx : α → Spec} {Sy : α → β → Spec} (hd : EncF.dp γ ≤ dep) (hk : (∀ y : γ, scal (enc y) = true) ∨ kk = some dep) (hi : RI S it xs Ei Ci)
    (h1 : ∀ x, BG tg vs x (frzS Ci S) (Sx x)) (hi1 : ∀ x l, fi x = some l → RI (Sx x) it1 l E1 []) (h2 : ∀ x y, BG tg1 vs1 y (Sx x) (Sy x y)) (he : ∀ x y z, h x y = some z → RE (Sy x y) te z kk E C)
    (e1 : zFlt (fun x => (fi x).bind fun l => zMapM (fun y => h x y) l) xs = some ys) (e2 : zLst ys = some zs) : RE S (fComp2 dep it tg it1 tg1 fYes te vs vs1) zs (some (dep + 1)) [] [] :=
  re_c2F (fm := fun x y => (h x y).bind fun z => some (some z)) hd hk hi h1 hi1 h2 (fun x y o e => by
    obtain ⟨w, hw, e⟩ := bnd e
    cases e
    exact ⟨re_yes, fun z hz => by cases hz; exact he x y w hw⟩) (by rw [← e1]; congr 1; funext x; congr 1; funext l; exact zFilM_map) e2
end
end PyL

set_option maxHeartbeats 2000000
/-! x[i].append(v) in a list of lists of one's own, v a scalar -/
namespace PyL
open PySem PySem.Spec L2
open Enc (enc)
set_option autoImplicit false
def app2Out (i : Nat) (q r : R) (ρ : Ev) : Out := match ρ[i]?, q.d with
  | some (some (.lst ds, k + 2)), .int z => match ixN ds.length z with
    | some j => match ds[j]? with
      | some (.lst es) => if scal r.d = true ∧ es.length < sizeLine then .nx (ρ.set i (some (.lst (ds.set j (.lst (es ++ [r.d]))), k + 2))) else .bad
      | _ => .bad
    | none => .bad
  | _, _ => .bad
def sApp2 (i : Nat) (fi f : FE) : FS := own2 i (stE fi fun q => rowOk i q (stE f fun r => app2Out i q r))
section
variable {X : Cx} {W : WK} {st : Stmt} {fi fe : FE}
theorem s_app2 (i : Nat) (hp : PS X st (tDrop (tBM X.K "list" rAppend (tOp (rIxL X.K) (tVar i) (rdE W fi)) (tCons (rdE W fe) tNil)))) : PS X st (rdS W (sApp2 i fi fe)) := by
  refine psI hp fun Dn σ H ⟨S0, H0, ρ, F, E, p⟩ => ?_
  obtain ⟨⟨ds, k, hi⟩, p⟩ := own2_ok p
  obtain ⟨a, xs, fq, hv, ha, al, ef, nd⟩ := E.list hi
  refine ⟨.ref a, hv, ps_bind E p fun q w H2 fp2 s2 n2 vq E2 p2 => ?_⟩
  have hl := al.length
  have aF : a ∈ F i := by rw [ef]; exact List.mem_cons_self
  have fqF : ∀ b ∈ fq, b ∈ F i := fun b hb => by rw [ef]; exact List.mem_cons_of_mem _ hb
  have zq := vq.fz (E.ee.nin n2 _)
  obtain ⟨⟨z, j, es, ez, hj, hes⟩, p2⟩ := rowOk_ok hi p2
  obtain ⟨y, f, hy, py, hf, go⟩ := al.at hes
  obtain ⟨b, ys, fr, rfl, hb, al2, ef2, nd2⟩ := py
  have hj' : ixN xs.length z = some j := by rw [← hl]; exact hj
  refine ⟨a, xs, z, .ref b, rfl, zq.int ez, SqL.of (s2 _ _ ha), by unfold atI; rw [hj']; exact hy, .inl ⟨rfl, ys, SqL.of (s2 _ _ hb)⟩, ps_bind E2 p2 fun r v H3 fp3 s3 n3 vr E3 p3 => ?_⟩
  unfold app2Out at p3
  rw [hi, ez] at p3
  simp only [hj, hes] at p3
  split at p3
  · rename_i hs
    have s13 := s2.trans s3
    refine ⟨b, ys, v, rfl, rfl, s13 _ _ hb, by rw [← al2.length]; exact hs.2, ?_⟩
    have bf : b ∈ f := by rw [ef2]; exact List.mem_cons_self
    have bF : b ∈ F i := fqF b (hf b bf)
    have nab : a ≠ b := fun z => nd (z ▸ hf b bf)
    have kp : ∀ c o, c ≠ b → H c = some o → upd H3 b (.lst (ys ++ [v])) c = some o := fun c o hc q => by rw [upd_ne hc]; exact s13 _ _ q
    have rv : ∀ S' H', Ow S' H' k r.d v [] := fun S' H' => (scal_ow hs.1 vr.ow k).1
    have Sx : ∀ c, inS S0 F (i :: []) c ∨ c ∈ F i → inS S0 F [] c := fun c z => z.elim inS_sub fun z => .inr ⟨i, by simp, z⟩
    have al3 : AllF (Ow (fun c => inS S0 F (i :: []) c ∨ c ∈ F i) (upd H3 b (.lst (ys ++ [v]))) k) (es ++ [r.d]) (ys ++ [v]) (fr ++ []) :=
      AllF.snoc (rv _ _) (al2.imp fun d w g hg po => Ow.imp (fun c o q nn => ⟨kp c o (fun z => nn (z ▸ (.inr ⟨i, by simp, bF⟩))) q, fun z => nn (Sx c z)⟩) k d w g (fun c o hc q => kp c o (fun z => nd2 (z ▸ hg c hc)) q) po) fun c _ => by simp
    rw [List.append_nil] at al3
    obtain ⟨fq', al4, hfq'⟩ := go (Ow (fun c => inS S0 F (i :: []) c ∨ c ∈ F i) (upd H3 b (.lst (ys ++ [v]))) (k + 1)) (.lst (es ++ [r.d])) (.ref b) (b :: fr) (fun d w g hg hn po => Ow.imp (fun c o q nn => ⟨kp c o (fun z => nn (z ▸ (.inr ⟨i, by simp, bF⟩))) q, fun z => nn (Sx c z)⟩) (k + 1) d w g (fun c o hc q => kp c o (fun z => hn c hc (z ▸ bf)) q) po) ⟨b, ys ++ [v], fr, rfl, upd_same, al3, rfl, nd2⟩ (fun c hc => .inl (by rw [ef2]; exact hc))
    have sub4 : ∀ c ∈ fq', c ∈ fq := fun c hc => (hfq' c hc).elim (fun z => (List.mem_cons.mp z).elim (fun z => z ▸ hf b bf) fun z => hf c (by rw [ef2]; exact List.mem_cons_of_mem _ z)) fun z => z.1
    have same_set : xs.set j (.ref b) = xs := by
      apply List.ext_getElem?
      intro m
      by_cases hm : m = j
      · subst hm
        rw [List.getElem?_set_self (List.getElem?_eq_some_iff.mp hy).1, hy]
      · rw [List.getElem?_set_ne (Ne.symm hm)]
    rw [same_set] at al4
    obtain ⟨F', E'⟩ : ∃ F', ER S0 H0 ((PyL.frzL [] ρ).set i (some (.lst (ds.set j (.lst (es ++ [r.d]))), k + 2))) σ (upd H3 b (.lst (ys ++ [v]))) F' := by
      refine ⟨_, E.mutate (d' := .lst (ds.set j (.lst (es ++ [r.d])))) (k' := k + 2) (e := []) (fp' := a :: fq') (o' := .lst (ys ++ [v])) hi hv (by simp) s13 bF trivial (fun c hc => .inl ((List.mem_cons.mp hc).elim (fun z => z ▸ aF) fun z => fqF c (sub4 c z))) ?_⟩
      refine ⟨a, xs, fq', rfl, by rw [upd_ne nab]; exact s13 _ _ ha, ?_, rfl, fun z => nd (sub4 a z)⟩
      exact al4.imp fun d w g hg po => Ow.imp (fun c o q nn => ⟨q, fun z => nn (z.imp id fun z => (List.mem_cons.mp z).elim (fun (z : c = a) => z ▸ aF) fun z => fqF c (sub4 c z))⟩) (k + 1) d w g (fun _ _ _ q => q) po
    exact p3 _ _ _ E'
  · exact p3.elim
end
section
variable {α β : Type} [Enc α] [Enc β] {S S' : Spec} {fi fe : FE} {i k : Nat} {kk k1 : Option Nat} {E C E1 C1 : List Nat}
def zApp2 {α : Type} (rows : List (List α)) (n : Int) (v : α) : Option (List (List α)) := (ixN rows.length n).bind fun j => rows[j]?.bind fun r => if r.length < sizeLine then some (rows.set j (r ++ [v])) else none
theorem sp_app2 {rows rows' : List (List α)} {v : α} {n : Int} (hx : S[i]? = some (some (enc rows, some (k + 2)))) (h : RE S fe v kk E C) (hs : scal (enc v) = true) (hn : RE S fi n k1 E1 C1) (ht : zApp2 rows n v = some rows') (hS : S.set i (some (enc rows', some (k + 2))) = S') : SpS S (sApp2 i fi fe) (Pnx S') := fun ρ z => by
  obtain ⟨k0, e0, hk0⟩ := z.2 i _ hx
  have hk0 : k0 = k + 2 := hk0 _ rfl
  subst hk0
  have e0 : ρ[i]? = some (some (.lst (rows.map enc), k + 2)) := e0
  obtain ⟨r, e, a, _⟩ := h ρ z
  obtain ⟨q, e2, a2, _⟩ := hn ρ z
  have a2 : q.d = .int n := a2
  unfold zApp2 at ht
  obtain ⟨j, hj, ht⟩ := bnd ht
  obtain ⟨row, hr, ht⟩ := bnd ht
  split at ht
  · rename_i hl
    cases ht
    have hj : ixN (rows.map (enc : List α → D)).length n = some j := by rw [List.length_map]; exact hj
    have hr : (rows.map (enc : List α → D))[j]? = some (.lst (row.map enc)) := by rw [List.getElem?_map, hr]; rfl
    have hl : (row.map (enc : α → D)).length < sizeLine := by rw [List.length_map]; exact hl
    refine ⟨ρ.set i (some (.lst ((rows.map enc).set j (.lst (row.map enc ++ [r.d]))), k + 2)), ?_, ?_⟩
    · unfold sApp2 own2
      simp only [e0]
      rw [stE_def e2]
      unfold rowOk
      simp only [e0, a2, hj, hr]
      rw [stE_def e]
      unfold app2Out
      simp only [e0, a2, hj, hr]
      rw [if_pos ⟨by rw [a]; exact hs, hl⟩]
    · have e1 : D.lst ((rows.map enc).set j (.lst (row.map enc ++ [r.d]))) = enc (rows.set j (row ++ [v])) := by
        rw [a]
        show _ = D.lst _
        rw [List.map_set]
        refine congrArg D.lst (congrArg _ ?_)
        show D.lst (row.map enc ++ [enc v]) = D.lst ((row ++ [v]).map enc)
        rw [List.map_append]; rfl
      rw [e1, ← hS]
      exact z.set i fun m q => by cases q; rfl
  · cases ht
end
end PyL

/-! sorted(set(x)), x a list of ints -/
namespace PyL
open PySem PySem.Spec PyProof.Rows L2
open Enc (enc)
section
variable {P : Program} {w : World} {A : Around} {E : Value → Shared → Prop} {s : Shared}
/-- a set object with nothing in it -/
abbrev bare0 (w : World) : Obj := { cls := .type "set", dict := none, data := .set #[] 0 (.fresh 0 0 (!w.params.followText "set-order")) }
/-- what filling the empty set at S from ns leaves: the set of ns, all else as it was -/
def Filled (w : World) (s : Shared) (S : Addr) (ns : List Int) (s2 : Shared) : Prop :=
  ∃ h' tk c, s2 = { s with heap := h', toks := tk } ∧ SetR w h' S (fun j => decide (j ∈ ns)) c ∧ c ≤ ns.length ∧ ∀ b o, b ≠ S → s.heap.get? b = some o → h'.get? b = some o
set_option maxHeartbeats 3200000 in
/-- the set's own __init__ with a list of ints -/
theorem fill_list {S l : Addr} {items : Array Value} (ns : List Int) (hh : A.handled = none) (hS : s.heap.get? S = some (bare0 w)) (hl : s.heap.IsList l items) (hit : IntsAre items.toList ns) (hb : ns.length + 1 < scanBound) :
    codeAny (model P w) A (.call (.builtin "set.__init__") ⟨[.ref S, .ref l], []⟩) (wants (fun r s2 => r = .none ∧ Filled w s S ns s2) E) s := by
  have hsz : items.size = ns.length := by rw [← Array.length_toList]; exact IntsAre.length hit
  refine codeAny_mono (codeAny_call_builtin (R := wants (fun r s2 => r = .none ∧ Filled w s S ns s2) E) F.called_set.init.plain F.entry_set_init (check_set_init_1 ⟨_, hS, rfl⟩ ?_)) fun r s2 h => h
  have hl0 := hl
  obtain ⟨⟨cls, dd, da, sl⟩, ho, hc, n, hd⟩ := hl
  simp only at hc hd
  subst hc hd
  have d1 := F.sub_list_set
  have d2 := F.sub_list_frozenset
  have d3 : (Value.type "list" == Value.type "dict") = false := by decide
  have nSl : S ≠ l := fun e => by
    rw [e, ho] at hS
    have e2 : Value.type "list" = Value.type "set" := congrArg Obj.cls (Option.some.inj hS)
    injection e2 with e2
    exact absurd e2 (by decide)
  unfold Builtin.«set.__init__» noKeywords Builtin.Frozenset.updateFrom
  generalize hPI : pyIter = PI
  wp_walk
  subst hPI
  refine wpAny_pyIter_list hl0 (wpAny_bind (wpAny_runValue ?_))
  have old : ∀ {b : Addr} {o : Obj}, s.heap.get? b = some o → b ≠ s.heap.objs.size := fun e => Nat.ne_of_lt (Heap.lt_size e)
  have W := Walks.list (prog := P) (w := w) (A := A.in1.in1) (by simp [hh]) s.heap.objs.size l (old ho) items
  refine set_update_ints W.toS S (fun h => ?_) ns hsz hb (fun i v hv => ?_) items.size 0 _ (by omega) (Nat.zero_le _) ?h1
    ?h0 fun s' c hm hc hR => ?_
  case h1 => exact ⟨⟨_, Heap.get?_push_size _ rfl, rfl, rfl⟩, hl0.push _⟩
  case h0 => exact ⟨0, Nat.le_refl 0, setR_new_at (Heap.get?_push_of_some _ hS)⟩
  · rcases List.mem_cons.mp h with e | e
    · exact old hS e
    · exact nSl (List.mem_singleton.mp e)
  · have hi : i < ns.length := by rw [← hsz]; exact (Array.getElem?_eq_some_iff.mp hv).1
    obtain ⟨t, e⟩ := IntsAre.int_at hit i v (by rw [Array.getElem?_toList]; exact hv)
    refine ⟨ns[i], t, List.getElem?_eq_getElem hi, ?_⟩
    rw [e, List.getD_eq_getElem?_getD, List.getElem?_eq_getElem hi] <;> rfl
  · obtain ⟨h', g2, d', tk, os'⟩ := s'
    cases (show g2 = s.gens from hm.gens)
    cases (show d' = s.drawn from hm.drawn)
    cases (show os' = s.os from hm.os)
    refine wpAny_pure (show wpAny _ _ (ret Value.none) _ _ _ from wpAny_pure ⟨rfl, h', tk, c, rfl, hR, by omega, fun b o nb e => ?_⟩)
    refine hm.heap b o (fun h => ?_) (Heap.get?_push_of_some _ e)
    rcases List.mem_cons.mp h with e2 | e2
    · exact nb e2
    · exact old e (List.mem_singleton.mp e2)
set_option maxHeartbeats 3200000 in
/-- set(x), x a list of ints -/
theorem call_set_listI {l : Addr} {items : Array Value} (ns : List Int) {Q : Value → Shared → Prop} (hh : A.handled = none) (hl : s.heap.IsList l items) (hit : IntsAre items.toList ns) (hb : ns.length + 1 < scanBound)
    (h : ∀ (h' : Heap) (tk c : Nat), SetR w h' s.heap.objs.size (fun j => decide (j ∈ ns)) c → c ≤ ns.length → (∀ b o, s.heap.get? b = some o → h'.get? b = some o) → Q (.ref s.heap.objs.size) { s with heap := h', toks := tk }) :
    wpAny (model P w) A (call (.type "set") [.ref l]) Q E s := by
  obtain ⟨c, tl, hmro⟩ := F.called_set.mro
  have m1 := F.called_set.made
  have m2 := F.called_set.sub
  have m3 := F.called_set.notType
  have m4 := F.called_set.canCreate
  have m5 := F.typeCall_set_1 (.ref l)
  refine wpAny_call (codeAny_of_tree (show wpAny _ _ (callAny (.type "set") _) _ _ _ from wpAny_pure ⟨Code.quiet_builtin _ (by decide +kernel), codeAny_builtin F.entry_type_call ?_⟩))
  rw [Around.under_plain (weight_type_call_type "set" [.ref l] []) rfl]
  repeat (any_goals (first | assumption | wp_step))
  refine codeAny_mono (code_set_led1 (.ref l) (E := E) (Q₁ := fun v t => v = .ref s.heap.objs.size ∧ t = { s with heap := s.heap.push (bare0 w) }) ⟨rfl, rfl⟩) fun r s1 hr => ?_
  match r, hr with
  | .error e, hr => exact hr
  | .ok (.ret v), hr =>
    obtain ⟨rfl, rfl⟩ := hr
    have hS : (s.heap.push (bare0 w)).get? s.heap.objs.size = some (bare0 w) := Heap.get?_push_size _ rfl
    have hT : Shared.TypeIs { s with heap := s.heap.push (bare0 w) } (.ref s.heap.objs.size) "set" := ⟨_, hS, rfl⟩
    have i1 := F.called_set.init.lookup
    have i2 := F.called_set.init.bind (.ref s.heap.objs.size)
    have hl2 : (s.heap.push (bare0 w)).IsList l items := hl.push _
    repeat (any_goals (first | assumption | wp_step))
    refine codeAny_mono (fill_list (E := E) (s := { s with heap := s.heap.push (bare0 w) }) ns (by simp [hh]) hS hl2 hit hb) fun r2 s2 hr2 => ?_
    match r2, hr2 with
    | .error e, hr2 => exact hr2
    | .ok (.ret v), hr2 =>
      obtain ⟨rfl, h', tk, c, rfl, hR, hc, kk⟩ := hr2
      repeat (any_goals (first | assumption | wp_step))
      exact h _ _ _ hR hc fun b o e => kk b o (Nat.ne_of_lt (Heap.lt_size e)) (Heap.get?_push_of_some _ e)
end

set_option autoImplicit false
section
variable {X : Cx}
def rSetOfI (K : PySem.W.Frag) (w : World) : List V → Hp → VK → Prop := fun xs H Q => ∃ (l : Addr) (ns : List Int), xs = [V.ref l] ∧ SqL K H l (ns.map V.int) ∧ ns.length < 64 ∧
  ∀ a c, H a = none → c ≤ ns.length → Q (.ref a) (upd H a (SetO w a (fun j => decide (j ∈ ns)) c))
theorem cr_setOfI (hc : X.calm = true) : CallR X (.type "set") (rSetOfI X.K X.w) := by
  intro pins s σ H xs us Q I r h
  obtain ⟨l, ns, rfl, hs, hl, q⟩ := h
  rw [Vals.ref1 r]
  obtain ⟨its, rv, pl, hz⟩ := I.list hs
  have hi : IntsAre its.toArray.toList ns := ints_of_vals rv
  refine call_set_listI ns (I.ok.hd hc) pl.isList hi (by unfold scanBound; omega) fun h' tk c R hcn k => ?_
  exact ⟨.ref _, upd H s.heap.objs.size (SetO X.w s.heap.objs.size (fun j => decide (j ∈ ns)) c), I.laid (t' := tk) k (Nat.le_refl _) (setO_new R), rfl, q _ c (I.hok.fresh (Nat.le_refl _)) hcn⟩
end
def gSortSetI (r : R) : Res R := match r.d with
  | .lst ds => match intsOf ds with
    | some ns => if ns.length < 64 then .ok ⟨.lst ((isort (ddI ns)).map .int), 1, [], []⟩ else .bad
    | none => .bad
  | _ => .bad
def fSortSetI (f : FE) : FE := fun ρ => (f ρ).bind gSortSetI
section
variable {X : Cx} {W : WK} {a b : Expr} {fa fb : FE} {p p2 q pos pos2 : Pos}
theorem e_sortSetI (hc : X.calm = true) (hg : Gl X "sorted") (hm : X.mg "sorted" = none) (hg2 : Gl X "set") (hm2 : X.mg "set" = none) (ha : PE X a (rdE W fa)) (na : starEach [a] X.env = (false, eval a X.env) :: starEach [] X.env := by rfl)
    (nb : starEach [.Call (.Name "set" p2) [a] [] q] X.env = (false, eval (.Call (.Name "set" p2) [a] [] q) X.env) :: starEach [] X.env := by rfl) : PE X (.Call (.Name "sorted" p) [.Call (.Name "set" p2) [a] [] q] [] pos) (rdE W (fSortSetI fa)) :=
  peI (pe_callB (cr_sortedSet hc) hg hm PyProof.Rows.boot_sorted (pa_cons (pe_callTy (cr_setOfI hc) hg2 hm2 PyProof.Rows.boot_set (pa_cons ha pa_nil na) (by decide) (by decide) na rfl) pa_nil nb) (by decide) (by decide) nb rfl) fun σ H Q ⟨S0, ρ, F, E, qq⟩ => post_bind E qq fun r v H1 fp s1 n1 v1 E1 p1 => by
    have z := v1.fz (E.nin n1 _)
    unfold gSortSetI at p1
    split at p1
    · rename_i ds e
      split at p1
      · rename_i ns hn
        split at p1
        · rename_i hl
          obtain ⟨l, xs, rfl, ha, lx⟩ := z.lst e
          rw [lx.ofInts hn] at ha
          refine ⟨l, ns, rfl, SqL.of ha, hl, fun A c nA hc2 => ?_⟩
          have smA : Same H1 (upd H1 A (SetO X.w A (fun j => decide (j ∈ ns)) c)) := same_upd nA
          refine ⟨A, _, c, rfl, upd_same, by omega, fun ms B pw hm hlen nB => ?_⟩
          have E2 := E1.grow smA
          have p2 := p1.grow smA
          have e1 : ms = isort (ddI ns) := by
            refine sorted_uniq (List.Perm.trans ?_ (isort_perm _).symm) (pw.imp fun h => Int.le_of_lt h) (isort_sorted _)
            refine (List.perm_ext_iff_of_nodup (pw.imp fun h => Int.ne_of_lt h) (ddI_nodup ns)).mpr fun m => ?_
            rw [hm, ddI_mem, decide_eq_true_eq]
          subst e1
          exact post_lst E2 p2 (RpL.ints _) B nB
        · exact p1.elim
      · exact p1.elim
    · exact p1.elim
end
def zSortSetI (ns : List Int) : Option (List Int) := if ns.length < 64 then some (isort (ddI ns)) else none
section
variable {S S' : Spec} {fa fb fc : FE} {i : Nat} {ka kb kc kk : Option Nat} {Ea Ca Eb Cb Ec Cc E C : List Nat}
theorem re_zSortSetI {ns v : List Int} (ha : RE S fa ns ka Ea Ca) (h : zSortSetI ns = some v) : RE S (fSortSetI fa) v (some 1) [] [] := by
  unfold zSortSetI at h
  split at h
  · rename_i hl
    cases h
    refine re_un ha fun ra g1 => ?_
    obtain ⟨k1, e1, c1, rfl, _⟩ := rd1 g1
    refine ⟨⟨.lst ((isort (ddI ns)).map .int), 1, [], []⟩, ?_, rfl, fun m q => by cases q; rfl, fun j hj => (by cases hj), fun j hj => (by cases hj)⟩
    show gSortSetI ⟨.lst (ns.map .int), k1, e1, c1⟩ = _
    unfold gSortSetI
    simp only [ints_map]
    rw [if_pos hl]
  · cases h
end
/-! ### bool(x) -/
def gBool := on1 fun r => match r.d with
  | .int i => okB (i != 0)
  | .bl k => okB k
  | _ => .bad
theorem ok_bool : BOk (fun xs H Q => (∃ i, xs = [.int i] ∧ Q (.bl (i != 0)) H) ∨ ∃ k, xs = [.bl k] ∧ Q (.bl k) H) gBool := by
  intro S0 ρ σ H F W rs vs Q E l p
  obtain ⟨r, v, rfl, z, p⟩ := on1_ok l p
  · skip
    split at p
    · rename_i i e
      exact .inl ⟨i, by rw [z.int e], okB_post p⟩
    · rename_i i e
      exact .inr ⟨i, by rw [z.bl e], okB_post p⟩
    · exact p.elim
section
variable {S : Spec} {fa : FE} {ka : Option Nat} {Ea Ca : List Nat}
theorem re_boolI {a : Int} (ha : RE S fa a ka Ea Ca) : RE S (fB gBool (fCons fa fNil)) (a != 0) (some 0) [] [] := re_b1 ha fun ra g1 => by
  obtain ⟨k1, e1, c1, rfl, _⟩ := rd1 g1
  exact ⟨_, rfl, gv0⟩
theorem re_boolB {a : Bool} (ha : RE S fa a ka Ea Ca) : RE S (fB gBool (fCons fa fNil)) a (some 0) [] [] := re_b1 ha fun ra g1 => by
  obtain ⟨k1, e1, c1, rfl, _⟩ := rd1 g1
  exact ⟨_, rfl, gv0⟩
end
end PyL

/-! sorted(x), x a list of lists of ints -/
namespace PyL
open PySem PySem.Spec L2
open Enc (enc)
set_option autoImplicit false
/-! ### one row after another -/
def lle : List Int → List Int → Bool
  | [], _ => true
  | _ :: _, [] => false
  | x :: xs, y :: ys => if x = y then lle xs ys else decide (x < y)
def insL (x : List Int) : List (List Int) → List (List Int)
  | [] => [x]
  | y :: r => if lle x y = true then x :: y :: r else y :: insL x r
def lsort : List (List Int) → List (List Int)
  | [] => []
  | x :: r => insL x (lsort r)
theorem lle_eq : ∀ xs ys : List Int, lle xs ys = decide (xs ≤ ys)
  | [], ys => by
    have : ([] : List Int) ≤ ys := List.nil_le ys
    rw [decide_eq_true this]; unfold lle; rfl
  | x :: xs, [] => by
    have : ¬ (x :: xs) ≤ ([] : List Int) := fun h => h (List.nil_lt_cons x xs)
    rw [decide_eq_false this]; rfl
  | x :: xs, y :: ys => by
    show (if x = y then lle xs ys else decide (x < y)) = _
    by_cases h : x = y
    · subst h
      rw [if_pos rfl, lle_eq xs ys]
      exact decide_eq_decide.mpr (by simp [List.cons_le_cons_iff])
    · rw [if_neg h]
      refine decide_eq_decide.mpr ?_
      simp only [List.cons_le_cons_iff, h, false_and, or_false]
theorem lle_total (a b : List Int) : (lle a b || lle b a) = true := by
  rw [lle_eq, lle_eq]
  rcases List.le_total a b with h | h
  · rw [decide_eq_true h]; rfl
  · rw [decide_eq_true h, Bool.or_true]
theorem lle_trans (a b c : List Int) (h1 : lle a b = true) (h2 : lle b c = true) : lle a c = true := by
  rw [lle_eq, decide_eq_true_eq] at *
  exact List.le_trans h1 h2
theorem lle_anti {a b : List Int} (h1 : lle a b = true) (h2 : lle b a = true) : a = b := by
  rw [lle_eq, decide_eq_true_eq] at *
  exact List.le_antisymm h1 h2
abbrev LSrt (l : List (List Int)) : Prop := l.Pairwise fun p q => lle p q = true
theorem insL_perm (x : List Int) : ∀ l : List (List Int), (insL x l).Perm (x :: l)
  | [] => .refl _
  | y :: r => by
    unfold insL
    split
    · exact .refl _
    · exact ((insL_perm x r).cons y).trans (.swap x y r)
theorem lsort_perm : ∀ l : List (List Int), (lsort l).Perm l
  | [] => .refl _
  | x :: r => (insL_perm x (lsort r)).trans ((lsort_perm r).cons x)
theorem insL_sorted (x : List Int) : ∀ {l : List (List Int)}, LSrt l → LSrt (insL x l)
  | [], _ => List.pairwise_singleton _ _
  | y :: r, h => by
    obtain ⟨h1, h2⟩ := List.pairwise_cons.mp h
    unfold insL
    split
    · rename_i hx
      exact List.pairwise_cons.mpr ⟨fun z hz => (List.mem_cons.mp hz).elim (fun e => e ▸ hx) fun hz => lle_trans _ _ _ hx (h1 z hz), h⟩
    · rename_i hx
      have hy : lle y x = true := by
        have := lle_total x y
        cases q : lle x y with
        | true => exact absurd q hx
        | false => rw [q] at this; exact this
      refine List.pairwise_cons.mpr ⟨fun z hz => ?_, insL_sorted x h2⟩
      rcases List.mem_cons.mp ((insL_perm x r).mem_iff.mp hz) with e | hz
      · rw [e]; exact hy
      · exact h1 z hz
theorem lsort_sorted : ∀ l : List (List Int), LSrt (lsort l)
  | [] => .nil
  | x :: r => insL_sorted x (lsort_sorted r)
theorem lsort_uniq : ∀ {a b : List (List Int)}, a.Perm b → LSrt a → LSrt b → a = b
  | [], b, p, _, _ => (List.nil_perm.mp p).symm
  | x :: a, [], p, _, _ => absurd p.length_eq (by simp)
  | x :: a, y :: b, p, h1, h2 => by
    obtain ⟨g1, g2⟩ := List.pairwise_cons.mp h1
    obtain ⟨k1, k2⟩ := List.pairwise_cons.mp h2
    have e : x = y := by
      rcases List.mem_cons.mp (p.mem_iff.mp List.mem_cons_self) with e | hx
      · exact e
      · rcases List.mem_cons.mp (p.mem_iff.mpr (List.mem_cons_self (a := y) (l := b))) with e | hy
        · exact e.symm
        · exact lle_anti (g1 y hy) (k1 x hx)
    subst e
    rw [lsort_uniq ((List.perm_cons x).mp p) g2 k2]
theorem merge_lsort (bs : List (List Int)) : bs.mergeSort (fun p q => decide (p ≤ q)) = lsort bs := by
  have e : (fun p q : List Int => decide (p ≤ q)) = lle := funext fun p => funext fun q => (lle_eq p q).symm
  rw [e]
  exact lsort_uniq ((List.mergeSort_perm bs lle).trans (lsort_perm bs).symm) (List.pairwise_mergeSort lle_trans lle_total bs) (lsort_sorted bs)
/-! ### the rule -/
/-- a row at y, one of xs -/
def RowAt (H : Hp) (xs : List V) (y : V) (b : List Int) : Prop := ∃ t, y = V.ref t ∧ H t = some (.lst (b.map V.int)) ∧ y ∈ xs
def rSortedL (K : PySem.W.Frag) : List V → Hp → VK → Prop := fun vs H Q => ∃ (a : Addr) (xs : List V) (bs : List (List Int)), vs = [V.ref a] ∧ SqL K H a xs ∧ PySem.W.EachIs (RowAt H xs) xs bs ∧
  ∀ ys p, PySem.W.EachIs (RowAt H xs) ys (lsort bs) → H p = none → Q (.ref p) (upd H p (.lst ys))
theorem each_refs {H : Hp} {xs0 : List V} : ∀ {xs : List V} {bs : List (List Int)}, PySem.W.EachIs (RowAt H xs0) xs bs → ∀ x ∈ xs, ∃ a, x = V.ref a
  | _, _, .nil, x, h => by cases h
  | _, _, .cons ⟨t, e, _⟩ r, x, h => (List.mem_cons.mp h).elim (fun q => ⟨t, q.trans e⟩) (each_refs r x)
theorem reads_ints {h : Heap} : ∀ {ns : List Int} {us : List Value}, Vals (ns.map V.int) us → ∃ as, ReadsAll h us (ns.map .int) as
  | [], _, r => by cases r; exact ⟨_, .nil⟩
  | n :: ns, _, r => by
    cases r with
    | cons r1 r2 =>
      obtain ⟨as, q⟩ := reads_ints r2
      obtain ⟨t, rfl⟩ := r1
      exact ⟨_, .cons (.int n t) q⟩
section
variable {X : Cx}
theorem row_reads {pins : List (Addr × Obj)} {σ : St} {H : Hp} {s : Shared} (I : Inv X pins σ H s) {t : Addr} {b : List Int} (ht : H t = some (.lst (b.map V.int))) : ∃ as, Reads s.heap (.ref t) (.list (b.map .int)) as := by
  obtain ⟨its, rv, hl, _⟩ := I.list (SqL.of ht)
  obtain ⟨as, q⟩ := reads_ints (h := s.heap) rv
  obtain ⟨o, h1, h2, n, h3⟩ := hl.isList
  exact ⟨_, .list h1 h2 h3 q⟩
theorem each_values {pins : List (Addr × Obj)} {σ : St} {H : Hp} {s : Shared} (I : Inv X pins σ H s) {xs0 : List V} : ∀ {us : List Value} {bs : List (List Int)}, PySem.W.EachIs (RowAt H xs0) (us.map backV) bs → (∀ u ∈ us, ∃ a, u = Value.ref a) →
    PySem.W.EachIs (fun v b => RowAt H xs0 (backV v) b ∧ ∃ a, v = Value.ref a) us bs ∧ PySem.W.EachIs (fun v b => ∃ as, Reads s.heap v (PyData.list (b.map .int)) as) us bs
  | [], bs, h, _ => by cases h; exact ⟨.nil, .nil⟩
  | u :: us, bs, h, hu => by
    cases h with
    | cons h1 h2 =>
      obtain ⟨r1, r2⟩ := each_values I h2 fun v hv => hu v (List.mem_cons_of_mem _ hv)
      obtain ⟨a, rfl⟩ := hu u List.mem_cons_self
      obtain ⟨t, e, ht, _⟩ := id h1
      obtain rfl : a = t := by cases e; rfl
      exact ⟨.cons ⟨h1, _, rfl⟩ r1, .cons (row_reads I ht) r2⟩
theorem each_back {H : Hp} {xs0 : List V} : ∀ {us : List Value} {bs : List (List Int)}, PySem.W.EachIs (fun v b => RowAt H xs0 (backV v) b ∧ ∃ a, v = Value.ref a) us bs → PySem.W.EachIs (RowAt H xs0) (us.map backV) bs ∧ ∀ u ∈ us, ∃ a, u = Value.ref a
  | _, _, .nil => ⟨.nil, fun u h => by cases h⟩
  | _, _, .cons ⟨h1, h2⟩ r => by
    obtain ⟨r1, r2⟩ := each_back r
    exact ⟨.cons h1 r1, fun u h => (List.mem_cons.mp h).elim (fun e => e ▸ h2) (r2 u)⟩
theorem u62_3 {A : Around} (h : A.units + 62 < cLine) : A.units + 3 < cLine := by omega
theorem cr_sortedL (hu : X.A.units + 3 < cLine) : CallR X (.builtin "sorted") (rSortedL X.K) := by
  intro pins s σ H vs us Q I r h
  obtain ⟨a, xs, bs, rfl, hs, hx, q⟩ := h
  obtain ⟨its, rv, hl, hz⟩ := I.list hs
  obtain ⟨u, rfl, ru⟩ := vals1 r
  obtain rfl : u = Value.ref a := ru
  obtain ⟨e1, e2⟩ := refs_back rv (each_refs hx)
  rw [e1] at hx
  obtain ⟨h1, h2⟩ := each_values I (xs0 := xs) (by rw [← e1]; rw [← e1] at hx; exact hx) e2
  have hlen : its.length = bs.length := PySem.W.EachIs.length h2
  refine PySem.W.sorted_data (enc := fun b : List Int => PyData.list (b.map .int)) hl.isList h1 h2
    (PySem.W.AllAlike.of fun x y => by simp only [PySem.W.alike]; exact PySem.W.alike_ints x y)
    (PySem.W.Sortable.others fun b => ⟨fun z => PyData.noConfusion z, fun _ z => PyData.noConfusion z⟩) (by rw [← hlen, ← rv.length]; exact hz) (fun b _ => ?_) fun out ho hr => ?_
  · have hd : (PyData.list (b.map .int)).depth = 1 := by simp [PyData.depth, PySem.W.depth_ints]
    rw [hd]; omega
  · have em : (bs.mergeSort (PySem.W.dataLe false fun b : List Int => PyData.list (b.map .int))) = lsort bs := by
      rw [PySem.W.dataLe_rows (fun b : List Int => b)]
      exact merge_lsort bs
    rw [em] at hr
    obtain ⟨r1, r2⟩ := each_back hr
    refine ⟨.ref _, upd H (s.heap.objs.size + 1) (.lst (out.map backV)), I.laid (t' := s.toks) (fun b o e => PyProof.Rows.sortedAll_old e) (Nat.le_succ _) ⟨?_, out, ?_⟩, rfl, q _ _ r1 (I.hok.fresh (Nat.le_succ _))⟩
    · rw [List.length_map, ho, ← hlen, ← rv.length]; exact hz
    · obtain ⟨n, hn⟩ := PyProof.Rows.sortedAll_at s.heap its out.toArray
      exact ⟨n, vals_back r2, hn⟩
end
/-! ### at the data level -/
def rowOf : D → Option (List Int)
  | .lst es => intsOf es
  | _ => none
def rowsOf : List D → Option (List (List Int))
  | [] => some []
  | d :: ds => (rowOf d).bind fun b => (rowsOf ds).bind fun bs => some (b :: bs)
def gSortL := on1 fun r => match r.d with
  | .lst ds => match rowsOf ds with
    | some bs => .ok ⟨.lst ((lsort bs).map enc), 1, r.c, r.c⟩
    | none => .bad
  | _ => .bad
theorem rows_each {S : PA1} {H : Hp} {xs0 : List V} : ∀ {ds : List D} {xs : List V} {bs : List (List Int)}, rowsOf ds = some bs → RpL S H ds xs → (∀ x ∈ xs, x ∈ xs0) → PySem.W.EachIs (RowAt H xs0) xs bs ∧ ∀ x ∈ xs, ∀ t, x = V.ref t → ¬ S t
  | [], xs, bs, h, r, _ => by cases h; rw [show xs = [] from r]; exact ⟨.nil, fun x h => by cases h⟩
  | d :: ds, _, bs, h, ⟨x, q, e, p, l⟩, hm => by
    subst e
    unfold rowsOf at h
    cases hd : rowOf d with
    | none => rw [hd] at h; cases h
    | some b =>
      rw [hd] at h
      cases hds : rowsOf ds with
      | none => rw [hds] at h; cases h
      | some cs =>
        rw [hds] at h
        cases h
        obtain ⟨j1, j2⟩ := rows_each hds l fun y hy => hm y (List.mem_cons_of_mem _ hy)
        cases d with
        | lst es =>
          obtain ⟨t, zs, rfl, nS, ht, lz⟩ := p
          have ez : zs = b.map V.int := lz.ofInts hd
          rw [ez] at ht
          refine ⟨.cons ⟨t, rfl, ht, hm _ List.mem_cons_self⟩ j1, fun y hy t' e => ?_⟩
          rcases List.mem_cons.mp hy with rfl | hy
          · cases e; exact nS
          · exact j2 y hy t' e
        | _ => cases hd
theorem each_rows {S : PA1} {H : Hp} {xs0 : List V} (hn : ∀ x ∈ xs0, ∀ t, x = V.ref t → ¬ S t) : ∀ {ys : List V} {bs : List (List Int)}, PySem.W.EachIs (RowAt H xs0) ys bs → RpL S H (bs.map enc) ys
  | _, _, .nil => rfl
  | _, _, .cons ⟨t, e, ht, hm⟩ r => by
    subst e
    refine ⟨_, _, rfl, ⟨t, _, rfl, hn _ hm t rfl, ht, ?_⟩, each_rows hn r⟩
    exact RpL.ints _
theorem ok_sortL {K : PySem.W.Frag} : BOk (rSortedL K) gSortL := by
  intro S0 ρ σ H F W rs vs Q E l p
  obtain ⟨r, v, rfl, z, p⟩ := on1_ok l p
  split at p
  · rename_i ds e
    split at p
    · rename_i bs hp
      obtain ⟨a, xs, rfl, ha, lx⟩ := z.lst e
      obtain ⟨h1, h2⟩ := rows_each (xs0 := xs) hp lx fun x h => h
      exact ⟨a, xs, bs, rfl, SqL.of ha, h1, fun ys b hr nb => post_lst E p (each_rows h2 hr) b nb⟩
    · exact p.elim
  · exact p.elim
section
variable {S S' : Spec} {fa fb fc : FE} {i : Nat} {ka kb kc kk : Option Nat} {Ea Ca Eb Cb Ec Cc E C : List Nat}
theorem rowsOf_enc : ∀ bs : List (List Int), rowsOf (bs.map enc) = some bs
  | [] => rfl
  | b :: bs => by
    show (rowOf (enc b)).bind _ = _
    rw [show rowOf (enc b) = some b from ints_map b]
    show (rowsOf (bs.map enc)).bind _ = _
    rw [rowsOf_enc bs]; rfl
theorem re_sortL {bs : List (List Int)} (ha : RE S fa bs ka Ea Ca) : RE S (fB gSortL (fCons fa fNil)) (lsort bs) (some 1) Ca Ca := re_b1 ha fun ra g1 => by
  obtain ⟨k1, e1, c1, rfl, _, _, h⟩ := rd1 g1
  refine ⟨⟨.lst ((lsort bs).map enc), 1, c1, c1⟩, ?_, rfl, fun m q => by cases q; rfl, h, h⟩
  show (match rowsOf (bs.map enc) with | some bs => (Res.ok ⟨.lst ((lsort bs).map enc), 1, c1, c1⟩ : Res R) | none => .bad) = _
  rw [rowsOf_enc]
end
end PyL

/-! sorted(x), x a list of lists of bools -/
namespace PyL
open PySem PySem.Spec L2
open Enc (enc)
set_option autoImplicit false
def b01 (b : Bool) : Int := if b = true then 1 else 0
def lleB : List Bool → List Bool → Bool
  | [], _ => true
  | _ :: _, [] => false
  | x :: xs, y :: ys => if x = y then lleB xs ys else y
theorem lleB_eq : ∀ xs ys : List Bool, lleB xs ys = lle (xs.map b01) (ys.map b01)
  | [], _ => rfl
  | _ :: _, [] => rfl
  | x :: xs, y :: ys => by
    show (if x = y then lleB xs ys else y) = if b01 x = b01 y then lle (xs.map b01) (ys.map b01) else decide (b01 x < b01 y)
    rw [lleB_eq xs ys]
    cases x <;> cases y <;> rfl
theorem b01_inj : ∀ {xs ys : List Bool}, xs.map b01 = ys.map b01 → xs = ys
  | [], [], _ => rfl
  | [], _ :: _, h => by cases h
  | _ :: _, [], h => by cases h
  | x :: xs, y :: ys, h => by
    rw [List.map_cons, List.map_cons] at h
    obtain ⟨h1, h2⟩ := List.cons.inj h
    rw [b01_inj h2]
    cases x <;> cases y <;> first | rfl | cases h1
def insB (x : List Bool) : List (List Bool) → List (List Bool)
  | [] => [x]
  | y :: r => if lleB x y = true then x :: y :: r else y :: insB x r
def lsortB : List (List Bool) → List (List Bool)
  | [] => []
  | x :: r => insB x (lsortB r)
theorem lleB_total (a b : List Bool) : (lleB a b || lleB b a) = true := by rw [lleB_eq, lleB_eq]; exact lle_total _ _
theorem lleB_trans (a b c : List Bool) (h1 : lleB a b = true) (h2 : lleB b c = true) : lleB a c = true := by
  rw [lleB_eq] at *
  exact lle_trans _ _ _ h1 h2
theorem lleB_anti {a b : List Bool} (h1 : lleB a b = true) (h2 : lleB b a = true) : a = b := by
  rw [lleB_eq] at *
  exact b01_inj (lle_anti h1 h2)
abbrev LSrtB (l : List (List Bool)) : Prop := l.Pairwise fun p q => lleB p q = true
theorem insB_perm (x : List Bool) : ∀ l : List (List Bool), (insB x l).Perm (x :: l)
  | [] => .refl _
  | y :: r => by
    unfold insB
    split
    · exact .refl _
    · exact ((insB_perm x r).cons y).trans (.swap x y r)
theorem lsortB_perm : ∀ l : List (List Bool), (lsortB l).Perm l
  | [] => .refl _
  | x :: r => (insB_perm x (lsortB r)).trans ((lsortB_perm r).cons x)
theorem insB_sorted (x : List Bool) : ∀ {l : List (List Bool)}, LSrtB l → LSrtB (insB x l)
  | [], _ => List.pairwise_singleton _ _
  | y :: r, h => by
    obtain ⟨h1, h2⟩ := List.pairwise_cons.mp h
    unfold insB
    split
    · rename_i hx
      exact List.pairwise_cons.mpr ⟨fun z hz => (List.mem_cons.mp hz).elim (fun e => e ▸ hx) fun hz => lleB_trans _ _ _ hx (h1 z hz), h⟩
    · rename_i hx
      have hy : lleB y x = true := by
        have := lleB_total x y
        cases q : lleB x y with
        | true => exact absurd q hx
        | false => rw [q] at this; exact this
      refine List.pairwise_cons.mpr ⟨fun z hz => ?_, insB_sorted x h2⟩
      rcases List.mem_cons.mp ((insB_perm x r).mem_iff.mp hz) with e | hz
      · rw [e]; exact hy
      · exact h1 z hz
theorem lsortB_sorted : ∀ l : List (List Bool), LSrtB (lsortB l)
  | [] => .nil
  | x :: r => insB_sorted x (lsortB_sorted r)
theorem lsortB_uniq : ∀ {a b : List (List Bool)}, a.Perm b → LSrtB a → LSrtB b → a = b
  | [], b, p, _, _ => (List.nil_perm.mp p).symm
  | x :: a, [], p, _, _ => absurd p.length_eq (by simp)
  | x :: a, y :: b, p, h1, h2 => by
    obtain ⟨g1, g2⟩ := List.pairwise_cons.mp h1
    obtain ⟨k1, k2⟩ := List.pairwise_cons.mp h2
    have e : x = y := by
      rcases List.mem_cons.mp (p.mem_iff.mp List.mem_cons_self) with e | hx
      · exact e
      · rcases List.mem_cons.mp (p.mem_iff.mpr (List.mem_cons_self (a := y) (l := b))) with e | hy
        · exact e.symm
        · exact lleB_anti (g1 y hy) (k1 x hx)
    subst e
    rw [lsortB_uniq ((List.perm_cons x).mp p) g2 k2]
theorem rowLt_bools : ∀ xs ys : List Bool, PySem.W.rowLt (xs.map .bool) (ys.map .bool) = !lleB ys xs
  | [], [] => PyProof.Rows.lex_irrefl _
  | [], y :: ys => by
    have e : PySem.W.rowLt [] (PyData.bool y :: ys.map .bool) = true := by
      unfold PySem.W.rowLt
      rw [PySem.W.toks_all_cons]
      simp only [PySem.W.keyToksAll]
      rw [PyProof.Rows.lex_diff (O := PyProof.Rows.itemOrd) (by simp)]
      rfl
    exact e
  | x :: xs, [] => by
    have e : PySem.W.rowLt (PyData.bool x :: xs.map .bool) [] = false := by
      unfold PySem.W.rowLt
      rw [PySem.W.toks_all_cons]
      simp only [PySem.W.keyToksAll]
      rw [PyProof.Rows.lex_diff (O := PyProof.Rows.itemOrd) (by simp)]
      rfl
    exact e
  | x :: xs, y :: ys => by
    have e : PySem.W.rowLt (PyData.bool x :: xs.map .bool) (PyData.bool y :: ys.map .bool) = if x = y then PySem.W.rowLt (xs.map .bool) (ys.map .bool) else decide (PyProof.Rows.b2i x < PyProof.Rows.b2i y) := by
      unfold PySem.W.rowLt
      rw [PySem.W.dataLt_cons (by simp [PySem.W.alike]), PySem.W.dataLt_bool]
      simp only [PyData.eqv, beq_iff_eq]
    show PySem.W.rowLt (PyData.bool x :: xs.map .bool) (PyData.bool y :: ys.map .bool) = !(if y = x then lleB ys xs else x)
    rw [e, rowLt_bools xs ys]
    cases x <;> cases y <;> rfl
theorem dataLe_bools : PySem.W.dataLe false (fun b : List Bool => PyData.list (b.map .bool)) = lleB := by
  funext p q
  show (!PySem.W.dataLt (.list (q.map .bool)) (.list (p.map .bool))) = _
  rw [PySem.W.dataLt_list]
  show (!PySem.W.rowLt (q.map .bool) (p.map .bool)) = _
  rw [rowLt_bools, Bool.not_not]
theorem merge_lsortB (bs : List (List Bool)) : bs.mergeSort lleB = lsortB bs :=
  lsortB_uniq ((List.mergeSort_perm bs lleB).trans (lsortB_perm bs).symm) (List.pairwise_mergeSort lleB_trans lleB_total bs) (lsortB_sorted bs)
theorem alike_bools : ∀ xs ys : List Bool, PySem.W.alikeAll (xs.map .bool) (ys.map .bool) = true
  | [], _ => by simp [PySem.W.alikeAll]
  | _ :: _, [] => by simp [PySem.W.alikeAll]
  | x :: xs, y :: ys => by
    show PySem.W.alikeAll (.bool x :: xs.map .bool) (.bool y :: ys.map .bool) = true
    rw [PySem.W.alikeAll, alike_bools xs ys]
    simp [PySem.W.alike]
theorem depth_bools : ∀ xs : List Bool, PyData.depthAll (xs.map .bool) = 0
  | [] => by simp [PyData.depthAll]
  | _ :: xs => by simp [PyData.depthAll, PyData.depth, depth_bools xs]
/-! ### the rule -/
/-- a row at y, one of xs -/
def RowAtB (H : Hp) (xs : List V) (y : V) (b : List Bool) : Prop := ∃ t, y = V.ref t ∧ H t = some (.lst (b.map V.bl)) ∧ y ∈ xs
def rSortedLB (K : PySem.W.Frag) : List V → Hp → VK → Prop := fun vs H Q => ∃ (a : Addr) (xs : List V) (bs : List (List Bool)), vs = [V.ref a] ∧ SqL K H a xs ∧ PySem.W.EachIs (RowAtB H xs) xs bs ∧
  ∀ ys p, PySem.W.EachIs (RowAtB H xs) ys (lsortB bs) → H p = none → Q (.ref p) (upd H p (.lst ys))
theorem each_refsB {H : Hp} {xs0 : List V} : ∀ {xs : List V} {bs : List (List Bool)}, PySem.W.EachIs (RowAtB H xs0) xs bs → ∀ x ∈ xs, ∃ a, x = V.ref a
  | _, _, .nil, x, h => by cases h
  | _, _, .cons ⟨t, e, _⟩ r, x, h => (List.mem_cons.mp h).elim (fun q => ⟨t, q.trans e⟩) (each_refsB r x)
theorem reads_bools {h : Heap} : ∀ {ns : List Bool} {us : List Value}, Vals (ns.map V.bl) us → ∃ as, ReadsAll h us (ns.map .bool) as
  | [], _, r => by cases r; exact ⟨_, .nil⟩
  | n :: ns, _, r => by
    cases r with
    | cons r1 r2 =>
      obtain ⟨as, q⟩ := reads_bools r2
      obtain rfl := r1
      exact ⟨_, .cons (.bool n) q⟩
section
variable {X : Cx}
theorem row_readsB {pins : List (Addr × Obj)} {σ : St} {H : Hp} {s : Shared} (I : Inv X pins σ H s) {t : Addr} {b : List Bool} (ht : H t = some (.lst (b.map V.bl))) : ∃ as, Reads s.heap (.ref t) (.list (b.map .bool)) as := by
  obtain ⟨its, rv, hl, _⟩ := I.list (SqL.of ht)
  obtain ⟨as, q⟩ := reads_bools (h := s.heap) rv
  obtain ⟨o, h1, h2, n, h3⟩ := hl.isList
  exact ⟨_, .list h1 h2 h3 q⟩
theorem each_valuesB {pins : List (Addr × Obj)} {σ : St} {H : Hp} {s : Shared} (I : Inv X pins σ H s) {xs0 : List V} : ∀ {us : List Value} {bs : List (List Bool)}, PySem.W.EachIs (RowAtB H xs0) (us.map backV) bs → (∀ u ∈ us, ∃ a, u = Value.ref a) →
    PySem.W.EachIs (fun v b => RowAtB H xs0 (backV v) b ∧ ∃ a, v = Value.ref a) us bs ∧ PySem.W.EachIs (fun v b => ∃ as, Reads s.heap v (PyData.list (b.map .bool)) as) us bs
  | [], bs, h, _ => by cases h; exact ⟨.nil, .nil⟩
  | u :: us, bs, h, hu => by
    cases h with
    | cons h1 h2 =>
      obtain ⟨r1, r2⟩ := each_valuesB I h2 fun v hv => hu v (List.mem_cons_of_mem _ hv)
      obtain ⟨a, rfl⟩ := hu u List.mem_cons_self
      obtain ⟨t, e, ht, _⟩ := id h1
      obtain rfl : a = t := by cases e; rfl
      exact ⟨.cons ⟨h1, _, rfl⟩ r1, .cons (row_readsB I ht) r2⟩
theorem each_backB {H : Hp} {xs0 : List V} : ∀ {us : List Value} {bs : List (List Bool)}, PySem.W.EachIs (fun v b => RowAtB H xs0 (backV v) b ∧ ∃ a, v = Value.ref a) us bs → PySem.W.EachIs (RowAtB H xs0) (us.map backV) bs ∧ ∀ u ∈ us, ∃ a, u = Value.ref a
  | _, _, .nil => ⟨.nil, fun u h => by cases h⟩
  | _, _, .cons ⟨h1, h2⟩ r => by
    obtain ⟨r1, r2⟩ := each_backB r
    exact ⟨.cons h1 r1, fun u h => (List.mem_cons.mp h).elim (fun e => e ▸ h2) (r2 u)⟩
theorem cr_sortedLB (hu : X.A.units + 3 < cLine) : CallR X (.builtin "sorted") (rSortedLB X.K) := by
  intro pins s σ H vs us Q I r h
  obtain ⟨a, xs, bs, rfl, hs, hx, q⟩ := h
  obtain ⟨its, rv, hl, hz⟩ := I.list hs
  obtain ⟨u, rfl, ru⟩ := vals1 r
  obtain rfl : u = Value.ref a := ru
  obtain ⟨e1, e2⟩ := refs_back rv (each_refsB hx)
  rw [e1] at hx
  obtain ⟨h1, h2⟩ := each_valuesB I (xs0 := xs) (by rw [← e1]; rw [← e1] at hx; exact hx) e2
  have hlen : its.length = bs.length := PySem.W.EachIs.length h2
  refine PySem.W.sorted_data (enc := fun b : List Bool => PyData.list (b.map .bool)) hl.isList h1 h2
    (PySem.W.AllAlike.of fun x y => by simp only [PySem.W.alike]; exact alike_bools x y)
    (PySem.W.Sortable.others fun b => ⟨fun z => PyData.noConfusion z, fun _ z => PyData.noConfusion z⟩) (by rw [← hlen, ← rv.length]; exact hz) (fun b _ => ?_) fun out ho hr => ?_
  · have hd : (PyData.list (b.map .bool)).depth = 1 := by simp [PyData.depth, depth_bools]
    rw [hd]; omega
  · have em : (bs.mergeSort (PySem.W.dataLe false fun b : List Bool => PyData.list (b.map .bool))) = lsortB bs := by
      rw [dataLe_bools]
      exact merge_lsortB bs
    rw [em] at hr
    obtain ⟨r1, r2⟩ := each_backB hr
    refine ⟨.ref _, upd H (s.heap.objs.size + 1) (.lst (out.map backV)), I.laid (t' := s.toks) (fun b o e => PyProof.Rows.sortedAll_old e) (Nat.le_succ _) ⟨?_, out, ?_⟩, rfl, q _ _ r1 (I.hok.fresh (Nat.le_succ _))⟩
    · rw [List.length_map, ho, ← hlen, ← rv.length]; exact hz
    · obtain ⟨n, hn⟩ := PyProof.Rows.sortedAll_at s.heap its out.toArray
      exact ⟨n, vals_back r2, hn⟩
end
/-! ### at the data level -/
def boolsOf : List D → Option (List Bool)
  | [] => some []
  | .bl b :: r => (boolsOf r).map (b :: ·)
  | _ => none
theorem RpL.ofBools {S : PA1} {H : Hp} : ∀ {ds : List D} {xs : List V} {ns : List Bool}, RpL S H ds xs → boolsOf ds = some ns → xs = ns.map V.bl
  | [], _, _, e, h => by cases h; exact e
  | d :: ds, _, ns, ⟨x, r, e, p, l⟩, h => by
    cases d <;> first | (simp [boolsOf] at h; done) | skip
    rename_i b
    cases hb : boolsOf ds with
    | none => rw [show boolsOf (.bl b :: ds) = (boolsOf ds).map (b :: ·) from rfl, hb] at h; cases h
    | some ms =>
      rw [show boolsOf (.bl b :: ds) = (boolsOf ds).map (b :: ·) from rfl, hb] at h
      cases h
      rw [e, show x = V.bl b from p, RpL.ofBools l hb]; rfl
theorem RpL.bools {S : PA1} {H : Hp} : ∀ ns : List Bool, RpL S H (ns.map .bl) (ns.map V.bl)
  | [] => rfl
  | n :: ns => ⟨_, _, rfl, rfl, RpL.bools ns⟩
theorem bools_map : ∀ ns : List Bool, boolsOf (ns.map .bl) = some ns
  | [] => rfl
  | n :: ns => by
    rw [List.map_cons]
    show (boolsOf (ns.map .bl)).map (n :: ·) = _
    rw [bools_map ns]; rfl
def rowOfB : D → Option (List Bool)
  | .lst es => boolsOf es
  | _ => none
def rowsOfB : List D → Option (List (List Bool))
  | [] => some []
  | d :: ds => (rowOfB d).bind fun b => (rowsOfB ds).bind fun bs => some (b :: bs)
def gSortLB := on1 fun r => match r.d with
  | .lst ds => match rowsOfB ds with
    | some bs => .ok ⟨.lst ((lsortB bs).map enc), 1, r.c, r.c⟩
    | none => .bad
  | _ => .bad
theorem rows_eachB {S : PA1} {H : Hp} {xs0 : List V} : ∀ {ds : List D} {xs : List V} {bs : List (List Bool)}, rowsOfB ds = some bs → RpL S H ds xs → (∀ x ∈ xs, x ∈ xs0) → PySem.W.EachIs (RowAtB H xs0) xs bs ∧ ∀ x ∈ xs, ∀ t, x = V.ref t → ¬ S t
  | [], xs, bs, h, r, _ => by cases h; rw [show xs = [] from r]; exact ⟨.nil, fun x h => by cases h⟩
  | d :: ds, _, bs, h, ⟨x, q, e, p, l⟩, hm => by
    subst e
    unfold rowsOfB at h
    cases hd : rowOfB d with
    | none => rw [hd] at h; cases h
    | some b =>
      rw [hd] at h
      cases hds : rowsOfB ds with
      | none => rw [hds] at h; cases h
      | some cs =>
        rw [hds] at h
        cases h
        obtain ⟨j1, j2⟩ := rows_eachB hds l fun y hy => hm y (List.mem_cons_of_mem _ hy)
        cases d with
        | lst es =>
          obtain ⟨t, zs, rfl, nS, ht, lz⟩ := p
          have ez : zs = b.map V.bl := lz.ofBools hd
          rw [ez] at ht
          refine ⟨.cons ⟨t, rfl, ht, hm _ List.mem_cons_self⟩ j1, fun y hy t' e => ?_⟩
          rcases List.mem_cons.mp hy with rfl | hy
          · cases e; exact nS
          · exact j2 y hy t' e
        | _ => cases hd
theorem each_rowsB {S : PA1} {H : Hp} {xs0 : List V} (hn : ∀ x ∈ xs0, ∀ t, x = V.ref t → ¬ S t) : ∀ {ys : List V} {bs : List (List Bool)}, PySem.W.EachIs (RowAtB H xs0) ys bs → RpL S H (bs.map enc) ys
  | _, _, .nil => rfl
  | _, _, .cons ⟨t, e, ht, hm⟩ r => by
    subst e
    refine ⟨_, _, rfl, ⟨t, _, rfl, hn _ hm t rfl, ht, ?_⟩, each_rowsB hn r⟩
    exact RpL.bools _
theorem ok_sortLB {K : PySem.W.Frag} : BOk (rSortedLB K) gSortLB := by
  intro S0 ρ σ H F W rs vs Q E l p
  obtain ⟨r, v, rfl, z, p⟩ := on1_ok l p
  split at p
  · rename_i ds e
    split at p
    · rename_i bs hp
      obtain ⟨a, xs, rfl, ha, lx⟩ := z.lst e
      obtain ⟨h1, h2⟩ := rows_eachB (xs0 := xs) hp lx fun x h => h
      exact ⟨a, xs, bs, rfl, SqL.of ha, h1, fun ys b hr nb => post_lst E p (each_rowsB h2 hr) b nb⟩
    · exact p.elim
  · exact p.elim
section
variable {S S' : Spec} {fa fb fc : FE} {i : Nat} {ka kb kc kk : Option Nat} {Ea Ca Eb Cb Ec Cc E C : List Nat}
theorem rowsOfB_enc : ∀ bs : List (List Bool), rowsOfB (bs.map enc) = some bs
  | [] => rfl
  | b :: bs => by
    show (rowOfB (enc b)).bind _ = _
    rw [show rowOfB (enc b) = some b from bools_map b]
    show (rowsOfB (bs.map enc)).bind _ = _
    rw [rowsOfB_enc bs]; rfl
theorem re_sortLB {bs : List (List Bool)} (ha : RE S fa bs ka Ea Ca) : RE S (fB gSortLB (fCons fa fNil)) (lsortB bs) (some 1) Ca Ca := re_b1 ha fun ra g1 => by
  obtain ⟨k1, e1, c1, rfl, _, _, h⟩ := rd1 g1
  refine ⟨⟨.lst ((lsortB bs).map enc), 1, c1, c1⟩, ?_, rfl, fun m q => by cases q; rfl, h, h⟩
  show (match rowsOfB (bs.map enc) with | some bs => (Res.ok ⟨.lst ((lsortB bs).map enc), 1, c1, c1⟩ : Res R) | none => .bad) = _
  rw [rowsOfB_enc]
end
end PyL

/-! len(d), d a dict with tuple keys -/
namespace PyL
open PySem PySem.Spec L2
open Enc (enc)
set_option autoImplicit false
def gLenT := on1 fun r => match r.d with
  | .dT kvs => okI kvs.length
  | _ => .bad
theorem ok_lenT : BOk rLenT gLenT := by
  intro S0 ρ σ H F W rs vs Q E l p
  obtain ⟨r, v, rfl, z, p⟩ := on1_ok l p
  split at p
  · rename_i kvs e
    have rp := z.rp
    rw [e] at rp
    obtain ⟨a, rfl, _, ha⟩ := rp
    exact ⟨a, kvs, rfl, ha, okI_post p⟩
  · exact p.elim
section
variable {S S' : Spec} {fa fb fc : FE} {i : Nat} {ka kb kc kk : Option Nat} {Ea Ca Eb Cb Ec Cc E C : List Nat}
theorem re_dlenT {ν : Type} [Enc ν] [EncV ν] {d : Dct (T2 Int Int) ν} (ha : RE S fa d ka Ea Ca) : RE S (fB gLenT (fCons fa fNil)) (d.l.length : Int) (some 0) [] [] := re_b1 ha fun ra g1 => by
  obtain ⟨k1, e1, c1, rfl, _⟩ := rd1 g1
  refine ⟨⟨.int (d.l.length : Int), 0, [], []⟩, ?_, gv0⟩
  show Res.ok (⟨D.int ((((d.l.map fun p => (p.1, EncV.tv p.2)).map fun p => (([.inl p.1.a, .inl p.1.b] : List Key), p.2)).length : Nat) : Int), 0, [], []⟩ : R) = _
  rw [List.length_map, List.length_map]
end
end PyL

namespace Lw
open PySem PySem.Spec PyL L2
set_option autoImplicit false
def topS (i : Nat) : Stmt := PySem.Challenge.pw_linktrees_k88_whole_the_coarsest_plain_d.main.body.getD i (.Pass ⟨0, 0, 0, 0⟩)
abbrev s_numbered : Stmt := topS 1
def l_numbered_1 : FS :=
 sIf (fTest (fBin (gDIn true) (fVar 2) (fVar 1))) (sDPut 1 (fVar 2) (fB gLenD (fCons (fVar 1) (fNil)))) (sNil)
def c_numbered_1 : FE :=
 fComp 0 (fSeqI (fVar 0)) (gN 2) (fYes) (fBin gDGet (fVar 1) (fVar 2)) [2]
def t_numbered_1 : FS :=
 sRet (c_numbered_1)
def b_numbered : FS :=
 sSeq (sSet 1 (fDNew false))
    (sSeq (sFor (fSeqI (fVar 0)) (gN 2) [2] (l_numbered_1))
    (t_numbered_1))
def d_numbered : DS := dsem 3 1 b_numbered
abbrev s_numbered_T : Stmt := topS 1
def l_numbered_T_1 : FS :=
 sIf (fTest (fBin (gDIn true) (fVar 2) (fVar 1))) (sDPut 1 (fVar 2) (fB gLenT (fCons (fVar 1) (fNil)))) (sNil)
def c_numbered_T_1 : FE :=
 fComp 0 (fSeqI (fVar 0)) (gN 2) (fYes) (fBin gDGet (fVar 1) (fVar 2)) [2]
def t_numbered_T_1 : FS :=
 sRet (c_numbered_T_1)
def b_numbered_T : FS :=
 sSeq (sSet 1 (fDNew true))
    (sSeq (sFor (fSeqI (fVar 0)) (gN 2) [2] (l_numbered_T_1))
    (t_numbered_T_1))
def d_numbered_T : DS := dsem 3 1 b_numbered_T
abbrev s_members : Stmt := topS 2
def c_members_1 : FE :=
 fComp 0 (fRng1 (fCons (fB gLen (fCons (fVar 0) (fNil))) (fNil))) (gN 2) (fTest (fBin gEq (fBin gIx (fVar 0) (fVar 2)) (fVar 1))) (fVar 2) [2]
def b_members : FS :=
 sRet (c_members_1)
def d_members : DS := dsem 3 2 b_members
abbrev s_weights_out : Stmt := topS 3
def l_weights_out_1 : FS :=
 sIf (fAndT (fTest (fBin gEq (fVar 4) (fVar 2))) (fTest (fBin gNe (fBin gIx (fVar 1) (fVar 5)) (fBin gIx (fVar 1) (fVar 2))))) (sDPut 3 (fBin gIx (fVar 1) (fVar 5)) (fBin gAdd (fDGet2 (fVar 3) (fBin gIx (fVar 1) (fVar 5)) (fC (.int 0))) (fVar 6))) (sNil)
def t_weights_out_1 : FS :=
 sRetV 3
def b_weights_out : FS :=
 sSeq (sSet 3 (fDNew false))
    (sSeq (sFor (fSeqI (fVar 0)) (gT [4, 5, 6]) [4, 5, 6] (l_weights_out_1))
    (t_weights_out_1))
def d_weights_out : DS := dsem 7 3 b_weights_out
abbrev s_unlike_district : Stmt := topS 4
def l_unlike_district_1 : FS :=
 sIf (fTest (fBin gNe (fDGet2 (fVar 0) (fVar 2) (fC (.int 0))) (fDGet2 (fVar 1) (fVar 2) (fC (.int 0))))) (sRetV 2) (sNil)
def t_unlike_district_1 : FS :=
 sRet (fC .non)
def b_unlike_district : FS :=
 sSeq (sFor (fSeqI (fB gSorted (fCons (fBin gAdd (fB gListD (fCons (fVar 0) (fNil))) (fB gListD (fCons (fVar 1) (fNil)))) (fNil)))) (gN 2) [2] (l_unlike_district_1))
    (t_unlike_district_1)
def d_unlike_district : DS := dsem 3 2 b_unlike_district
abbrev s_weight_into : Stmt := topS 7
def c_weight_into_1 : FE :=
 fComp 0 (fSeqI (fVar 0)) (gT [3, 4, 5]) (fAndT (fTest (fBin gEq (fVar 3) (fVar 1))) (fTest (fBin (gIn false) (fVar 4) (fVar 2)))) (fVar 5) [3, 4, 5]
def b_weight_into : FS :=
 sRet (fB gSum (fCons (c_weight_into_1) (fNil)))
def d_weight_into : DS := dsem 6 3 b_weight_into
abbrev s__law_draws : Stmt := topS 12
def l__law_draws_1 : FS :=
 sIf (fTest (fBin gGt (fVar 4) (fC (.int 0)))) (sSeq (sApp 2 (fBin gMod (fVar 4) (fC (.int 1000003))))
    (sSet 4 (fBin gDiv (fVar 4) (fC (.int 1000003))))) (sNil)
def l__law_draws_2 : FS :=
 sSeq (sSet 6 (fBin gMod (fBin gAdd (fBin gAdd (fBin gAdd (fBin gMul (fVar 6) (fC (.int 69621))) (fBin gDiv (fVar 6) (fC (.int 65536)))) (fBin gMul (fC (.int 13)) (fVar 5))) (fC (.int 5))) (fC (.int 2147483629))))
    (sApp 2 (fBin gMod (fBin gDiv (fVar 6) (fC (.int 8))) (fC (.int 1000003))))
def l__law_draws_3 : FS :=
 sSeq (sSet 4 (fB gAbs (fCons (fB gInt (fCons (fVar 3) (fNil))) (fNil))))
    (sIf (fTest (fBin gGe (fVar 4) (fBin gPow (fC (.int 10)) (fC (.int 18))))) (sFor (fRng1 (fCons (fC (.int 60)) (fNil))) (gN 5) [5] (l__law_draws_1)) (sSeq (sSet 6 (fBin gMod (fBin gAdd (fBin gAdd (fBin gMul (fVar 4) (fC (.int 48271))) (fBin gMul (fC (.int 7)) (fB gLen (fCons (fVar 2) (fNil))))) (fC (.int 11))) (fC (.int 2147483647))))
    (sFor (fRng1 (fCons (fC (.int 4)) (fNil))) (gN 5) [5] (l__law_draws_2))))
def l__law_draws_4 : FS :=
 sIf (fTest (fBin gLt (fB gLen (fCons (fVar 2) (fNil))) (fVar 1))) (sSeq (sSet 7 (fC (.int 0)))
    (sSeq (sIf (fTest (fBin gGt (fB gLen (fCons (fVar 2) (fNil))) (fC (.int 0)))) (sSet 7 (fBin gIx (fVar 2) (fBin gMod (fVar 5) (fB gLen (fCons (fVar 2) (fNil)))))) (sNil))
    (sApp 2 (fBin gMod (fBin gAdd (fBin gAdd (fBin gMul (fVar 7) (fC (.int 16807))) (fBin gMul (fC (.int 31)) (fB gLen (fCons (fVar 2) (fNil))))) (fC (.int 17))) (fC (.int 1000003)))))) (sNil)
def t__law_draws_1 : FS :=
 sRet (fSl (fVar 2) (fNoP) (fPart (fVar 1)))
def t__law_draws_2 : FS :=
 sSeq (sFor (fRng1 (fCons (fVar 1) (fNil))) (gN 5) [5] (l__law_draws_4))
    (t__law_draws_1)
noncomputable def b__law_draws (K : PySem.W.Frag) : FS :=
 sSeq (sSet 2 (fLstE 0))
    (sSeq (sFor (fSeqI (fSlK K (fVar 0) (fNoP) (fPart (fC (.int 63))))) (gN 3) [3] (l__law_draws_3))
    (t__law_draws_2))
noncomputable def d__law_draws (K : PySem.W.Frag) : DS := dsem 8 2 (b__law_draws K)
abbrev s__law_is_number : Stmt := topS 13
def b__law_is_number : FS :=
 sRet (fAndV (fIsi "int" (fVar 0)) (fNotV (fIsi "bool" (fVar 0))))
def d__law_is_number : DS := dsem 1 1 b__law_is_number
abbrev s__law_members : Stmt := topS 14
def c__law_members_1 : FE :=
 fComp 0 (fRng1 (fCons (fB gLen (fCons (fVar 0) (fNil))) (fNil))) (gN 2) (fTest (fBin gEq (fBin gIx (fVar 0) (fVar 2)) (fVar 1))) (fVar 2) [2]
def b__law_members : FS :=
 sRet (c__law_members_1)
def d__law_members : DS := dsem 3 2 b__law_members
abbrev s__law_into : Stmt := topS 15
def c__law_into_1 : FE :=
 fComp 0 (fRng1 (fCons (fVar 0) (fNil))) (gN 7) (fYes) (fC (.int 0)) [7]
def l__law_into_1 : FS :=
 sIf (fTest (fBin (gIn false) (fVar 5) (fVar 2))) (sStore 3 (fVar 4) (fBin gAdd (fBin gIx (fVar 3) (fVar 4)) (fVar 6))) (sNil)
def t__law_into_1 : FS :=
 sRetV 3
def b__law_into : FS :=
 sSeq (sSet 3 (c__law_into_1))
    (sSeq (sFor (fSeqI (fVar 1)) (gT [4, 5, 6]) [4, 5, 6] (l__law_into_1))
    (t__law_into_1))
def d__law_into : DS := dsem 8 3 b__law_into
abbrev s__law_case : Stmt := topS 16
def c__law_case_1 : FE :=
 fComp 0 (fRng1 (fCons (fBin gAdd (fC (.int 1)) (fBin gMod (fBin gIx (fVar 0) (fC (.int 3))) (fC (.int 3)))) (fNil))) (gN 2) (fYes) (fBin gMod (fBin gIx (fVar 0) (fBin gAdd (fC (.int 4)) (fVar 2))) (fC (.int 40))) [2]
def c__law_case_2 : FE :=
 fComp 0 (fRng1 (fCons (fVar 1) (fNil))) (gN 4) (fYes) (fBin gMod (fBin gIx (fVar 0) (fBin gAdd (fC (.int 10)) (fVar 4))) (fBin gAdd (fC (.int 1)) (fBin gDiv (fVar 1) (fC (.int 2))))) [4]
def c__law_case_3 : FE :=
 fComp 0 (fRng1 (fCons (fVar 1) (fNil))) (gN 4) (fYes) (fBin gIx (fVar 3) (fBin gMod (fBin gIx (fVar 5) (fVar 4)) (fB gLen (fCons (fVar 3) (fNil))))) [4]
def c__law_case_4 : FE :=
 fComp 0 (fRng1 (fCons (fVar 1) (fNil))) (gN 12) (fTest (fBin gEq (fBin gIx (fVar 5) (fVar 12)) (fBin gIx (fVar 5) (fVar 9)))) (fVar 12) [12]
def l__law_case_1 : FS :=
 sIf (fTest (fBin gEq (fBin gIx (fVar 5) (fVar 4)) (fBin gIx (fVar 5) (fVar 8)))) (sSeq (sSet 11 (c__law_case_4))
    (sApp 7 (fTup (fCons (fVar 4) (fCons (fBin gIx (fVar 11) (fBin gMod (fBin gAdd (fVar 9) (fVar 4)) (fB gLen (fCons (fVar 11) (fNil))))) (fCons (fVar 10) (fNil))))))) (sNil)
def l__law_case_2 : FS :=
 sSeq (sSet 8 (fBin gMod (fBin gIx (fVar 0) (fBin gAdd (fC (.int 20)) (fVar 2))) (fVar 1)))
    (sSeq (sSet 9 (fBin gMod (fBin gIx (fVar 0) (fBin gAdd (fC (.int 30)) (fVar 2))) (fVar 1)))
    (sSeq (sSet 10 (fBin gAdd (fC (.int 1)) (fBin gMod (fBin gDiv (fBin gIx (fVar 0) (fBin gAdd (fC (.int 20)) (fVar 2))) (fC (.int 17))) (fC (.int 3)))))
    (sIf (fTest (fBin gGt (fBin gMod (fBin gIx (fVar 0) (fC (.int 2))) (fC (.int 4))) (fC (.int 0)))) (sFor (fRng1 (fCons (fVar 1) (fNil))) (gN 4) [4] (l__law_case_1)) (sApp 7 (fTup (fCons (fVar 8) (fCons (fVar 9) (fCons (fVar 10) (fNil)))))))))
def t__law_case_1 : FS :=
 sRetT 0 [1, 7, 6]
def t__law_case_2 : FS :=
 sSeq (sSet 3 (c__law_case_1))
    (sSeq (sSet 5 (c__law_case_2))
    (sSeq (sSet 6 (c__law_case_3))
    (sSeq (sSet 7 (fLstE 0))
    (sSeq (sFor (fRng1 (fCons (fBin gMod (fBin gIx (fVar 0) (fC (.int 1))) (fC (.int 9))) (fNil))) (gN 2) [2] (l__law_case_2))
    (t__law_case_1)))))
def b__law_case : FS :=
 sSeq (sSet 1 (fBin gAdd (fC (.int 1)) (fBin gMod (fBin gIx (fVar 0) (fC (.int 0))) (fC (.int 6)))))
    (sSeq (sIf (fTest (fBin gEq (fBin gMod (fBin gDiv (fBin gIx (fVar 0) (fC (.int 0))) (fC (.int 6))) (fC (.int 2))) (fC (.int 0)))) (sSet 1 (fBin gAdd (fC (.int 1)) (fBin gMod (fBin gDiv (fBin gIx (fVar 0) (fC (.int 0))) (fC (.int 12))) (fC (.int 5))))) (sNil))
    (t__law_case_2))
def d__law_case : DS := dsem 13 1 b__law_case
abbrev s__law_divisions : Stmt := topS 17
def c__law_divisions_1 : FE :=
 fComp 1 (fRng1 (fCons (fBin gAdd (fB gMax (fCons (fVar 4) (fNil))) (fC (.int 2))) (fNil))) (gN 5) (fYes) (fBin gAdd (fVar 4) (fLst (fCons (fVar 5) (fNil)))) [5]
def l__law_divisions_1 : FS :=
 sSet 3 (fBin gAdd (fVar 3) (c__law_divisions_1))
def t__law_divisions_1 : FS :=
 sSet 1 (fVar 3)
def l__law_divisions_2 : FS :=
 sSeq (sSet 3 (fLstE 0))
    (sSeq (sFor (fSeqI (fVar 1)) (gN 4) [4] (l__law_divisions_1))
    (t__law_divisions_1))
def t__law_divisions_2 : FS :=
 sRetV 1
def b__law_divisions : FS :=
 sSeq (sSet 1 (fLst (fCons (fLst (fCons (fC (.int 0)) (fNil))) (fNil))))
    (sSeq (sFor (fRng2 (fCons (fC (.int 1)) (fCons (fVar 0) (fNil)))) (gN 2) [2] (l__law_divisions_2))
    (t__law_divisions_2))
def d__law_divisions : DS := dsem 6 1 b__law_divisions
abbrev s__law_finer : Stmt := topS 18
def l__law_finer_1 : FS :=
 sIf (fTest (fBin gNe (fBin gIx (fVar 1) (fVar 2)) (fBin gIx (fVar 1) (fIndex (fVar 0) (fBin gIx (fVar 0) (fVar 2)))))) (sRet (fC (.bl false))) (sNil)
def t__law_finer_1 : FS :=
 sRet (fC (.bl true))
def b__law_finer : FS :=
 sSeq (sFor (fRng1 (fCons (fB gLen (fCons (fVar 0) (fNil))) (fNil))) (gN 2) [2] (l__law_finer_1))
    (t__law_finer_1)
def d__law_finer : DS := dsem 3 2 b__law_finer
abbrev s_district_fault : Stmt := topS 5
def l_district_fault_1 : FS :=
 sSeq (sSet 4 (fIndex (fVar 2) (fBin gIx (fVar 2) (fVar 3))))
    (sSeq (sSet 5 (fCall 2 d_unlike_district (fCons (fCall 3 d_weights_out (fCons (fVar 1) (fCons (fVar 2) (fCons (fVar 4) (fNil))))) (fCons (fCall 3 d_weights_out (fCons (fVar 1) (fCons (fVar 2) (fCons (fVar 3) (fNil))))) (fNil)))))
    (sIf (fTest (fIsN true (fVar 5))) (sRet (fTup (fCons (fVar 4) (fCons (fVar 3) (fCons (fVar 5) (fNil)))))) (sNil)))
def t_district_fault_1 : FS :=
 sRet (fC .non)
def b_district_fault : FS :=
 sSeq (sFor (fRng1 (fCons (fVar 0) (fNil))) (gN 3) [3] (l_district_fault_1))
    (t_district_fault_1)
def d_district_fault : DS := dsem 6 3 b_district_fault
abbrev s_split_key : Stmt := topS 8
def b_split_key : FS :=
 sSeq (sIf (fTest (fBin (gIn false) (fVar 3) (fVar 2))) (sRet (fTup (fCons (fBin gIx (fVar 1) (fVar 3)) (fCons (fC (.int 0)) (fNil))))) (sNil))
    (sRet (fTup (fCons (fBin gIx (fVar 1) (fVar 3)) (fCons (fCall 3 d_weight_into (fCons (fVar 0) (fCons (fVar 3) (fCons (fVar 2) (fNil))))) (fNil)))))
def d_split_key : DS := dsem 4 4 b_split_key
abbrev s__law_is_plain : Stmt := topS 19
def l__law_is_plain_1 : FS :=
 sIf (fAndT (fTest (fBin gNe (fBin gIx (fVar 2) (fVar 5)) (fVar 3))) (fTest (fBin gNe (fBin gIx (fVar 4) (fVar 5)) (fBin gIx (fVar 4) (fIndex (fVar 2) (fBin gIx (fVar 2) (fVar 5))))))) (sRet (fC (.bl false))) (sNil)
def l__law_is_plain_2 : FS :=
 sSeq (sSet 4 (fCall 3 d__law_into (fCons (fVar 0) (fCons (fVar 1) (fCons (fCall 2 d__law_members (fCons (fVar 2) (fCons (fVar 3) (fNil)))) (fNil))))))
    (sFor (fRng1 (fCons (fVar 0) (fNil))) (gN 5) [5] (l__law_is_plain_1))
def t__law_is_plain_1 : FS :=
 sRet (fC (.bl true))
def b__law_is_plain : FS :=
 sSeq (sFor (fSeqI (fSortSetI (fVar 2))) (gN 3) [3] (l__law_is_plain_2))
    (t__law_is_plain_1)
def d__law_is_plain : DS := dsem 6 3 b__law_is_plain
abbrev s_split_by : Stmt := topS 9
def c_split_by_1 : FE :=
 fComp 0 (fRng1 (fCons (fVar 0) (fNil))) (gN 4) (fYes) (fCall 4 d_split_key (fCons (fVar 1) (fCons (fVar 2) (fCons (fVar 3) (fCons (fVar 4) (fNil)))))) [4]
def b_split_by : FS :=
 sRet (fCall 1 d_numbered_T (fCons (c_split_by_1) (fNil)))
def d_split_by : DS := dsem 5 4 b_split_by
abbrev s_coarsest : Stmt := topS 10
def l_coarsest_1 : FS :=
 sSeq (sSet 6 (fCall 2 d_members (fCons (fVar 3) (fCons (fBin gIx (fVar 5) (fC (.int 2))) (fNil)))))
    (sSeq (sSet 3 (fCall 4 d_split_by (fCons (fVar 0) (fCons (fVar 1) (fCons (fVar 3) (fCons (fVar 6) (fNil)))))))
    (sSeq (sApp 4 (fVar 6))
    (sSet 5 (fCall 3 d_district_fault (fCons (fVar 0) (fCons (fVar 1) (fCons (fVar 3) (fNil))))))))
def t_coarsest_1 : FS :=
 sRetT 0 [3, 4]
def b_coarsest : FS :=
 sSeq (sSet 3 (fCall 1 d_numbered (fCons (fVar 2) (fNil))))
    (sSeq (sSet 4 (fLstE 0))
    (sSeq (sSet 5 (fCall 3 d_district_fault (fCons (fVar 0) (fCons (fVar 1) (fCons (fVar 3) (fNil))))))
    (sSeq (sWhile 1000000000 (fTest (fIsN true (fVar 5))) (l_coarsest_1))
    (t_coarsest_1))))
def d_coarsest : DS := dsem 7 3 b_coarsest
abbrev s__law_answer : Stmt := topS 20
def l__law_answer_1 : FS :=
 sIf (fOrT (fNotT (fTest (fCall 1 d__law_is_number (fCons (fVar 5) (fNil))))) (fOrT (fTest (fBin gLt (fVar 5) (fC (.int 0)))) (fTest (fBin gGe (fVar 5) (fVar 0))))) (sRetNK 1) (sNil)
def t__law_answer_1 : FS :=
 sRet (fB gList (fCons (fBin gIx (fVar 4) (fC (.int 0))) (fNil)))
def t__law_answer_2 : FS :=
 sSeq (sIf (fOrT (fNotT (fTest (fIsi "list" (fBin gIx (fVar 4) (fC (.int 0)))))) (fTest (fBin gNe (fB gLen (fCons (fBin gIx (fVar 4) (fC (.int 0))) (fNil))) (fVar 0)))) (sRetNK 1) (sNil))
    (sSeq (sFor (fSeqI (fBin gIx (fVar 4) (fC (.int 0)))) (gN 5) [5] (l__law_answer_1))
    (t__law_answer_1))
def b__law_answer : FS :=
 sSeq (sSet 3 (fLst (fCons (fB gList (fCons (fVar 1) (fNil))) (fCons (fB gList (fCons (fVar 2) (fNil))) (fNil)))))
    (sSeq (sSet 4 (fCall 3 d_coarsest (fCons (fVar 0) (fCons (fBin gIx (fVar 3) (fC (.int 0))) (fCons (fBin gIx (fVar 3) (fC (.int 1))) (fNil))))))
    (sSeq (sIf (fOrT (fTest (fBin gNe (fVar 3) (fLst (fCons (fVar 1) (fCons (fVar 2) (fNil)))))) (fOrT (fNotT (fTest (fIsi "tuple" (fVar 4)))) (fTest (fBin gNe (fB gLen (fCons (fVar 4) (fNil))) (fC (.int 2)))))) (sRetNK 1) (sNil))
    (t__law_answer_2)))
def d__law_answer : DS := dsem 6 3 b__law_answer
abbrev s_law : Stmt := topS 21
def l_law_1 : FS :=
 sIf (fAndT (fTest (fCall 2 d__law_finer (fCons (fVar 6) (fCons (fVar 4) (fNil))))) (fAndT (fNotT (fTest (fCall 2 d__law_finer (fCons (fVar 6) (fCons (fVar 5) (fNil)))))) (fTest (fCall 3 d__law_is_plain (fCons (fVar 2) (fCons (fVar 3) (fCons (fVar 6) (fNil)))))))) (sRet (fC (.bl false))) (sNil)
def c_law_1 : FE :=
 fComp 0 (fRng1 (fCons (fVar 2) (fNil))) (gN 10) (fYes) (fBin gAdd (fBin gMul (fC (.int 2)) (fIndex (fVar 4) (fBin gIx (fVar 4) (fVar 10)))) (fBin gMod (fBin gDiv (fBin gIx (fVar 1) (fC (.int 40))) (fBin gAdd (fVar 10) (fC (.int 1)))) (fC (.int 2)))) [10]
def c_law_2 : FE :=
 fComp 0 (fRng1 (fCons (fVar 2) (fNil))) (gN 10) (fYes) (fC (.int 39)) [10]
def c_law_3 : FE :=
 fComp 0 (fRng1 (fCons (fVar 2) (fNil))) (gN 10) (fYes) (fC (.int 0)) [10]
def t_law_1 : FS :=
 sSeq (sSet 7 (c_law_1))
    (sSeq (sSet 8 (fCall 3 d__law_answer (fCons (fVar 2) (fCons (fVar 3) (fCons (fVar 7) (fNil))))))
    (sSeq (sIf (fOrT (fTest (fIsN false (fVar 8))) (fOrT (fNotT (fTest (fCall 2 d__law_finer (fCons (fVar 8) (fCons (fVar 7) (fNil)))))) (fNotT (fTest (fCall 2 d__law_finer (fCons (fVar 8) (fCons (fVar 5) (fNil)))))))) (sRet (fC (.bl false))) (sNil))
    (sSeq (sSet 9 (fCall 3 d__law_answer (fCons (fVar 2) (fCons (fVar 3) (fCons (c_law_2) (fNil))))))
    (sRet (fBin gEq (fVar 9) (c_law_3))))))
def t_law_2 : FS :=
 sSeq (sIf (fTest (fBin gNe (fCall 3 d__law_answer (fCons (fVar 2) (fCons (fVar 3) (fCons (fVar 5) (fNil))))) (fVar 5))) (sRet (fC (.bl false))) (sNil))
    (t_law_1)
def t_law_3 : FS :=
 sSeq (sFor (fSeqI (fCall 1 d__law_divisions (fCons (fVar 2) (fNil)))) (gN 6) [6] (l_law_1))
    (t_law_2)
noncomputable def b_law (K : PySem.W.Frag) : FS :=
 sSeq (sSet 1 (fCall 2 (d__law_draws K) (fCons (fVar 0) (fCons (fC (.int 44)) (fNil)))))
    (sSeq (sSetT [2, 3, 4] (fCall 1 d__law_case (fCons (fVar 1) (fNil))))
    (sSeq (sSet 5 (fCall 3 d__law_answer (fCons (fVar 2) (fCons (fVar 3) (fCons (fVar 4) (fNil))))))
    (sSeq (sIf (fOrT (fTest (fIsN false (fVar 5))) (fOrT (fNotT (fTest (fCall 3 d__law_is_plain (fCons (fVar 2) (fCons (fVar 3) (fCons (fVar 5) (fNil))))))) (fNotT (fTest (fCall 2 d__law_finer (fCons (fVar 5) (fCons (fVar 4) (fNil)))))))) (sRet (fC (.bl false))) (sNil))
    (t_law_3))))
noncomputable def d_law (K : PySem.W.Frag) : DS := dsem 11 1 (b_law K)

end Lw
namespace Lw
open PySem PySem.Spec PyL L2 PyL.Enc
set_option autoImplicit false
def u__law_case_1 (j_1 : Int) (kind_1 : (List Int)) (source_1 : Int) (target_1 : Int) (weight_1 : Int) : Int → (List (T3 Int Int Int)) → Option (List (T3 Int Int Int)) := fun e_2 s_2 =>
 ((atI kind_1 e_2).bind fun v41 =>
 ((atI kind_1 source_1).bind fun v42 =>
 (if (decide (v41 = v42)) = true then ((zRng j_1).bind fun v43 =>
 ((zFilM (fun (x_4 : Int) => zSel (((atI kind_1 x_4).bind fun v44 =>
 ((atI kind_1 target_1).bind fun v45 =>
 some (decide (v44 = v45))))) (some x_4)) v43).bind fun v46 =>
 ((zLst v46).bind fun alike_1 =>
 ((zMod (target_1 + e_2) (alike_1.length : Int)).bind fun v48 =>
 ((atI alike_1 v48).bind fun v49 =>
 ((zApp s_2 (⟨e_2, v49, weight_1⟩ : (T3 Int Int Int))).bind fun links_2 =>
 some links_2))))))
 else some s_2)))
def u__law_case_2 (draws_0 : (List Int)) (j_1 : Int) (kind_1 : (List Int)) : Int → (List (T3 Int Int Int)) → Option (List (T3 Int Int Int)) := fun e_1 s_1 =>
 ((atI draws_0 ((20 : Int) + e_1)).bind fun v31 =>
 ((zMod v31 j_1).bind fun source_1 =>
 ((atI draws_0 ((30 : Int) + e_1)).bind fun v33 =>
 ((zMod v33 j_1).bind fun target_1 =>
 ((atI draws_0 ((20 : Int) + e_1)).bind fun v35 =>
 ((zDiv v35 (17 : Int)).bind fun v36 =>
 ((zMod v36 (3 : Int)).bind fun v37 =>
 ((some ((1 : Int) + v37)).bind fun weight_1 =>
 ((atI draws_0 (2 : Int)).bind fun v38 =>
 ((zMod v38 (4 : Int)).bind fun v39 =>
 (if (decide ((0 : Int) < v39)) = true then ((zRng j_1).bind fun v40 =>
 ((zFor (u__law_case_1 j_1 kind_1 source_1 target_1 weight_1) v40 s_1).bind fun r_1 =>
 some r_1))
 else ((zApp s_1 (⟨source_1, target_1, weight_1⟩ : (T3 Int Int Int))).bind fun links_3 =>
 some links_3))))))))))))
def t__law_case (draws_0 : (List Int)) : Option (T3 Int (List (T3 Int Int Int)) (List Int)) :=
 ((atI draws_0 (0 : Int)).bind fun v1 =>
 ((zMod v1 (6 : Int)).bind fun v2 =>
 ((some ((1 : Int) + v2)).bind fun size_1 =>
 ((atI draws_0 (0 : Int)).bind fun v3 =>
 ((zDiv v3 (6 : Int)).bind fun v4 =>
 ((zMod v4 (2 : Int)).bind fun v5 =>
 ((if (decide (v5 = (0 : Int))) = true then ((atI draws_0 (0 : Int)).bind fun v6 =>
 ((zDiv v6 (12 : Int)).bind fun v7 =>
 ((zMod v7 (5 : Int)).bind fun v8 =>
 ((some ((1 : Int) + v8)).bind fun size_2 =>
 some size_2))))
 else some size_1 : Option Int).bind fun j_1 =>
 ((atI draws_0 (3 : Int)).bind fun v9 =>
 ((zMod v9 (3 : Int)).bind fun v10 =>
 ((zRng ((1 : Int) + v10)).bind fun v11 =>
 ((zMapM (fun (x_1 : Int) => ((atI draws_0 ((4 : Int) + x_1)).bind fun v12 =>
 ((zMod v12 (40 : Int)).bind fun v13 =>
 some v13))) v11).bind fun v14 =>
 ((zLst v14).bind fun names_1 =>
 ((zRng j_1).bind fun v16 =>
 ((zMapM (fun (x_2 : Int) => ((atI draws_0 ((10 : Int) + x_2)).bind fun v17 =>
 ((zDiv j_1 (2 : Int)).bind fun v18 =>
 ((zMod v17 ((1 : Int) + v18)).bind fun v19 =>
 some v19)))) v16).bind fun v20 =>
 ((zLst v20).bind fun kind_1 =>
 ((zRng j_1).bind fun v22 =>
 ((zMapM (fun (x_3 : Int) => ((atI kind_1 x_3).bind fun v23 =>
 ((zMod v23 (names_1.length : Int)).bind fun v24 =>
 ((atI names_1 v24).bind fun v25 =>
 some v25)))) v22).bind fun v26 =>
 ((zLst v26).bind fun districts_1 =>
 ((some ([] : (List (T3 Int Int Int)))).bind fun links_1 =>
 ((atI draws_0 (1 : Int)).bind fun v28 =>
 ((zMod v28 (9 : Int)).bind fun v29 =>
 ((zRng v29).bind fun v30 =>
 ((zFor (u__law_case_2 draws_0 j_1 kind_1) v30 links_1).bind fun r_2 =>
 some (⟨j_1, r_2, districts_1⟩ : (T3 Int (List (T3 Int Int Int)) (List Int))))))))))))))))))))))))))
theorem x__law_case {draws_0 : (List Int)} {r : (T3 Int (List (T3 Int Int Int)) (List Int))} (h : t__law_case draws_0 = some r) : DR (d__law_case [enc draws_0]) (enc r) (some 2) := by
  unfold t__law_case at h
  refine dr_fn (S0 := [some (enc draws_0, (some 0)), none, none, none, none, none, none, none, none, none, none, none, none]) rfl rfl ?_
  obtain ⟨v1, hv1, h⟩ := bnd h
  obtain ⟨v2, hv2, h⟩ := bnd h
  obtain ⟨size_1, hsize_1, h⟩ := bnd h
  refine sp_seq (S' := [some (enc draws_0, (some 0)), some (enc size_1, (some 0)), none, none, none, none, none, none, none, none, none, none, none]) (sp_set (re_to (re_add (re_c (x := (1 : Int)) rfl) (re_mod (re_ixF (by decide) (re_var0 rfl) (re_c (x := (0 : Int)) rfl) hv1) (re_c (x := (6 : Int)) rfl) hv2)) hsize_1) rfl) ?_
  obtain ⟨v3, hv3, h⟩ := bnd h
  obtain ⟨v4, hv4, h⟩ := bnd h
  obtain ⟨v5, hv5, h⟩ := bnd h
  obtain ⟨j_1, hj_1, h⟩ := bnd h
  refine sp_seq (S' := [some (enc draws_0, (some 0)), some (enc j_1, (some 0)), none, none, none, none, none, none, none, none, none, none, none]) ?_ ?_
  · rcases tif hj_1 with ⟨hb, h⟩ | ⟨hb, h⟩
    · refine sp_if_t (rt_test (re_eq (by decide) (re_mod (re_div (re_ixF (by decide) (re_var0 rfl) (re_c (x := (0 : Int)) rfl) hv3) (re_c (x := (6 : Int)) rfl) hv4) (re_c (x := (2 : Int)) rfl) hv5) (re_c (x := (0 : Int)) rfl))) hb ?_
      obtain ⟨v6, hv6, h⟩ := bnd h
      obtain ⟨v7, hv7, h⟩ := bnd h
      obtain ⟨v8, hv8, h⟩ := bnd h
      obtain ⟨size_2, hsize_2, h⟩ := bnd h
      refine sp_end (S' := [some (enc draws_0, (some 0)), some (enc size_2, (some 0)), none, none, none, none, none, none, none, none, none, none, none]) (sp_set (re_to (re_add (re_c (x := (1 : Int)) rfl) (re_mod (re_div (re_ixF (by decide) (re_var0 rfl) (re_c (x := (0 : Int)) rfl) hv6) (re_c (x := (12 : Int)) rfl) hv7) (re_c (x := (5 : Int)) rfl) hv8)) hsize_2) rfl) ?_
      have h := Option.some.inj h; subst h
      exact pnx_c (.e (.e (.a (.a (.a (.a (.a (.a (.a (.a (.a (.a (.a .nil)))))))))))))
    · refine sp_if_f (rt_test (re_eq (by decide) (re_mod (re_div (re_ixF (by decide) (re_var0 rfl) (re_c (x := (0 : Int)) rfl) hv3) (re_c (x := (6 : Int)) rfl) hv4) (re_c (x := (2 : Int)) rfl) hv5) (re_c (x := (0 : Int)) rfl))) hb ?_
      refine sp_end (S' := [some (enc draws_0, (some 0)), some (enc size_1, (some 0)), none, none, none, none, none, none, none, none, none, none, none]) sp_nilN ?_
      have h := Option.some.inj h; subst h
      exact pnx_c (.e (.e (.a (.a (.a (.a (.a (.a (.a (.a (.a (.a (.a .nil)))))))))))))
  obtain ⟨v9, hv9, h⟩ := bnd h
  obtain ⟨v10, hv10, h⟩ := bnd h
  obtain ⟨v11, hv11, h⟩ := bnd h
  obtain ⟨v14, hv14, h⟩ := bnd h
  obtain ⟨names_1, hnames_1, h⟩ := bnd h
  refine sp_seq (S' := [some (enc draws_0, (some 0)), some (enc j_1, (some 0)), none, some (enc names_1, (some 1)), none, none, none, none, none, none, none, none, none]) (sp_set (re_mF (dep := 0) (by decide) (.inl EncS.sc) (Sx := fun x_1 => [some (enc draws_0, (some 0)), some (enc j_1, (some 0)), some (enc x_1, (some 0)), none, none, none, none, none, none, none, none, none, none]) (ri_rng1 (re_add (re_c (x := (1 : Int)) rfl) (re_mod (re_ixF (by decide) (re_var0 rfl) (re_c (x := (3 : Int)) rfl) hv9) (re_c (x := (3 : Int)) rfl) hv10)) hv11) (fun x_1 => (bg_n rfl)) (fun x_1 y h => by obtain ⟨v12, hv12, h⟩ := bnd h; obtain ⟨v13, hv13, h⟩ := bnd h; exact re_to (re_mod (re_ixF (by decide) (re_var0 rfl) (re_add (re_c (x := (4 : Int)) rfl) (re_varS rfl)) hv12) (re_c (x := (40 : Int)) rfl) hv13) h) hv14 hnames_1) rfl) ?_
  obtain ⟨v16, hv16, h⟩ := bnd h
  obtain ⟨v20, hv20, h⟩ := bnd h
  obtain ⟨kind_1, hkind_1, h⟩ := bnd h
  refine sp_seq (S' := [some (enc draws_0, (some 0)), some (enc j_1, (some 0)), none, some (enc names_1, (some 1)), none, some (enc kind_1, (some 1)), none, none, none, none, none, none, none]) (sp_set (re_mF (dep := 0) (by decide) (.inl EncS.sc) (Sx := fun x_2 => [some (enc draws_0, (some 0)), some (enc j_1, (some 0)), none, some (enc names_1, (some 1)), some (enc x_2, (some 0)), none, none, none, none, none, none, none, none]) (ri_rng1 (re_varS rfl) hv16) (fun x_2 => (bg_n rfl)) (fun x_2 y h => by obtain ⟨v17, hv17, h⟩ := bnd h; obtain ⟨v18, hv18, h⟩ := bnd h; obtain ⟨v19, hv19, h⟩ := bnd h; exact re_to (re_mod (re_ixF (by decide) (re_var0 rfl) (re_add (re_c (x := (10 : Int)) rfl) (re_varS rfl)) hv17) (re_add (re_c (x := (1 : Int)) rfl) (re_div (re_varS rfl) (re_c (x := (2 : Int)) rfl) hv18)) hv19) h) hv20 hkind_1) rfl) ?_
  obtain ⟨v22, hv22, h⟩ := bnd h
  obtain ⟨v26, hv26, h⟩ := bnd h
  obtain ⟨districts_1, hdistricts_1, h⟩ := bnd h
  refine sp_seq (S' := [some (enc draws_0, (some 0)), some (enc j_1, (some 0)), none, some (enc names_1, (some 1)), none, some (enc kind_1, (some 1)), some (enc districts_1, (some 1)), none, none, none, none, none, none]) (sp_set (re_mF (dep := 0) (by decide) (.inl EncS.sc) (Sx := fun x_3 => [some (enc draws_0, (some 0)), some (enc j_1, (some 0)), none, some (enc names_1, (some 1)), some (enc x_3, (some 0)), some (enc kind_1, (some 1)), none, none, none, none, none, none, none]) (ri_rng1 (re_varS rfl) hv22) (fun x_3 => (bg_n rfl)) (fun x_3 y h => by obtain ⟨v23, hv23, h⟩ := bnd h; obtain ⟨v24, hv24, h⟩ := bnd h; obtain ⟨v25, hv25, h⟩ := bnd h; exact re_to (re_ixF (by decide) (re_var1 rfl) (re_mod (re_ixF (by decide) (re_var1 rfl) (re_varS rfl) hv23) (re_lenL (re_var1 rfl)) hv24) hv25) h) hv26 hdistricts_1) rfl) ?_
  obtain ⟨links_1, hlinks_1, h⟩ := bnd h
  refine sp_seq (S' := [some (enc draws_0, (some 0)), some (enc j_1, (some 0)), none, some (enc names_1, (some 1)), none, some (enc kind_1, (some 1)), some (enc districts_1, (some 1)), some (enc links_1, (some 1)), none, none, none, none, none]) (sp_set (re_to (re_nil (dep := 0)) hlinks_1) rfl) ?_
  obtain ⟨v28, hv28, h⟩ := bnd h
  obtain ⟨v29, hv29, h⟩ := bnd h
  obtain ⟨v30, hv30, h⟩ := bnd h
  obtain ⟨r_2, hr_2, h⟩ := bnd h
  refine sp_seq (S' := [some (enc draws_0, (some 0)), some (enc j_1, (some 0)), none, some (enc names_1, (some 1)), none, some (enc kind_1, (some 1)), some (enc districts_1, (some 1)), some (enc r_2, (some 1)), none, none, none, none, none]) (sp_for (Sf := fun (s_1 : (List (T3 Int Int Int))) => [some (enc draws_0, (some 0)), some (enc j_1, (some 0)), none, some (enc names_1, (some 1)), none, some (enc kind_1, (some 1)), some (enc districts_1, (some 1)), some (enc s_1, (some 1)), none, none, none, none, none]) (s0 := links_1) (ri_rng1 (re_mod (re_ixF (by decide) (re_var0 rfl) (re_c (x := (1 : Int)) rfl) hv28) (re_c (x := (9 : Int)) rfl) hv29) hv30) (.e (.e (.a (.e (.a (.e (.e (.e (.a (.a (.a (.a (.a .nil))))))))))))) ?_ hr_2) ?_
  · intro e_1 s_1 ctl_2 hx h
    unfold u__law_case_2 at h
    refine ⟨[some (enc draws_0, (some 0)), some (enc j_1, (some 0)), some (enc e_1, (some 0)), some (enc names_1, (some 1)), none, some (enc kind_1, (some 1)), some (enc districts_1, (some 1)), some (enc s_1, (some 1)), none, none, none, none, none], (bg_n rfl), ?_⟩
    obtain ⟨v31, hv31, h⟩ := bnd h
    obtain ⟨source_1, hsource_1, h⟩ := bnd h
    refine sp_seq (S' := [some (enc draws_0, (some 0)), some (enc j_1, (some 0)), some (enc e_1, (some 0)), some (enc names_1, (some 1)), none, some (enc kind_1, (some 1)), some (enc districts_1, (some 1)), some (enc s_1, (some 1)), some (enc source_1, (some 0)), none, none, none, none]) (sp_set (re_mod (re_ixF (by decide) (re_var0 rfl) (re_add (re_c (x := (20 : Int)) rfl) (re_varS rfl)) hv31) (re_varS rfl) hsource_1) rfl) ?_
    obtain ⟨v33, hv33, h⟩ := bnd h
    obtain ⟨target_1, htarget_1, h⟩ := bnd h
    refine sp_seq (S' := [some (enc draws_0, (some 0)), some (enc j_1, (some 0)), some (enc e_1, (some 0)), some (enc names_1, (some 1)), none, some (enc kind_1, (some 1)), some (enc districts_1, (some 1)), some (enc s_1, (some 1)), some (enc source_1, (some 0)), some (enc target_1, (some 0)), none, none, none]) (sp_set (re_mod (re_ixF (by decide) (re_var0 rfl) (re_add (re_c (x := (30 : Int)) rfl) (re_varS rfl)) hv33) (re_varS rfl) htarget_1) rfl) ?_
    obtain ⟨v35, hv35, h⟩ := bnd h
    obtain ⟨v36, hv36, h⟩ := bnd h
    obtain ⟨v37, hv37, h⟩ := bnd h
    obtain ⟨weight_1, hweight_1, h⟩ := bnd h
    refine sp_seq (S' := [some (enc draws_0, (some 0)), some (enc j_1, (some 0)), some (enc e_1, (some 0)), some (enc names_1, (some 1)), none, some (enc kind_1, (some 1)), some (enc districts_1, (some 1)), some (enc s_1, (some 1)), some (enc source_1, (some 0)), some (enc target_1, (some 0)), some (enc weight_1, (some 0)), none, none]) (sp_set (re_to (re_add (re_c (x := (1 : Int)) rfl) (re_mod (re_div (re_ixF (by decide) (re_var0 rfl) (re_add (re_c (x := (20 : Int)) rfl) (re_varS rfl)) hv35) (re_c (x := (17 : Int)) rfl) hv36) (re_c (x := (3 : Int)) rfl) hv37)) hweight_1) rfl) ?_
    obtain ⟨v38, hv38, h⟩ := bnd h
    obtain ⟨v39, hv39, h⟩ := bnd h
    rcases tif h with ⟨hb, h⟩ | ⟨hb, h⟩
    · refine sp_if_t (rt_test (re_gt (re_mod (re_ixF (by decide) (re_var0 rfl) (re_c (x := (2 : Int)) rfl) hv38) (re_c (x := (4 : Int)) rfl) hv39) (re_c (x := (0 : Int)) rfl))) hb ?_
      obtain ⟨v40, hv40, h⟩ := bnd h
      obtain ⟨r_1, hr_1, h⟩ := bnd h
      refine sp_end (S' := [some (enc draws_0, (some 0)), some (enc j_1, (some 0)), some (enc e_1, (some 0)), some (enc names_1, (some 1)), none, some (enc kind_1, (some 1)), some (enc districts_1, (some 1)), some (enc r_1, (some 1)), some (enc source_1, (some 0)), some (enc target_1, (some 0)), some (enc weight_1, (some 0)), none, none]) (sp_for (Sf := fun (s_2 : (List (T3 Int Int Int))) => [some (enc draws_0, (some 0)), some (enc j_1, (some 0)), some (enc e_1, (some 0)), some (enc names_1, (some 1)), none, some (enc kind_1, (some 1)), some (enc districts_1, (some 1)), some (enc s_2, (some 1)), some (enc source_1, (some 0)), some (enc target_1, (some 0)), some (enc weight_1, (some 0)), none, none]) (s0 := s_1) (ri_rng1 (re_varS rfl) hv40) (.e (.e (.e (.e (.a (.e (.e (.e (.e (.e (.e (.a (.a .nil))))))))))))) ?_ hr_1) ?_
      · intro e_2 s_2 ctl_2 hx h
        unfold u__law_case_1 at h
        refine ⟨[some (enc draws_0, (some 0)), some (enc j_1, (some 0)), some (enc e_1, (some 0)), some (enc names_1, (some 1)), some (enc e_2, (some 0)), some (enc kind_1, (some 1)), some (enc districts_1, (some 1)), some (enc s_2, (some 1)), some (enc source_1, (some 0)), some (enc target_1, (some 0)), some (enc weight_1, (some 0)), none, none], (bg_n rfl), ?_⟩
        obtain ⟨v41, hv41, h⟩ := bnd h
        obtain ⟨v42, hv42, h⟩ := bnd h
        rcases tif h with ⟨hb, h⟩ | ⟨hb, h⟩
        · refine sp_if_t (rt_test (re_eq (by decide) (re_ixF (by decide) (re_var1 rfl) (re_varS rfl) hv41) (re_ixF (by decide) (re_var1 rfl) (re_varS rfl) hv42))) hb ?_
          obtain ⟨v43, hv43, h⟩ := bnd h
          obtain ⟨v46, hv46, h⟩ := bnd h
          obtain ⟨alike_1, halike_1, h⟩ := bnd h
          refine sp_seq (S' := [some (enc draws_0, (some 0)), some (enc j_1, (some 0)), some (enc e_1, (some 0)), some (enc names_1, (some 1)), some (enc e_2, (some 0)), some (enc kind_1, (some 1)), some (enc districts_1, (some 1)), some (enc s_2, (some 1)), some (enc source_1, (some 0)), some (enc target_1, (some 0)), some (enc weight_1, (some 0)), some (enc alike_1, (some 1)), none]) (sp_set (re_fF (dep := 0) (by decide) (.inl EncS.sc) (Sx := fun x_4 => [some (enc draws_0, (some 0)), some (enc j_1, (some 0)), some (enc e_1, (some 0)), some (enc names_1, (some 1)), some (enc e_2, (some 0)), some (enc kind_1, (some 1)), some (enc districts_1, (some 1)), some (enc s_2, (some 1)), some (enc source_1, (some 0)), some (enc target_1, (some 0)), some (enc weight_1, (some 0)), none, some (enc x_4, (some 0))]) (ri_rng1 (re_varS rfl) hv43) (fun x_4 => (bg_n rfl)) (fun x_4 b h => by obtain ⟨v44, hv44, h⟩ := bnd h; obtain ⟨v45, hv45, h⟩ := bnd h; exact rt_to (rt_test (re_eq (by decide) (re_ixF (by decide) (re_var1 rfl) (re_varS rfl) hv44) (re_ixF (by decide) (re_var1 rfl) (re_varS rfl) hv45))) h) (fun x_4 y h => by exact re_to (re_varS rfl) h) hv46 halike_1) rfl) ?_
          obtain ⟨v48, hv48, h⟩ := bnd h
          obtain ⟨v49, hv49, h⟩ := bnd h
          obtain ⟨links_2, hlinks_2, h⟩ := bnd h
          refine sp_end (S' := [some (enc draws_0, (some 0)), some (enc j_1, (some 0)), some (enc e_1, (some 0)), some (enc names_1, (some 1)), some (enc e_2, (some 0)), some (enc kind_1, (some 1)), some (enc districts_1, (some 1)), some (enc links_2, (some 1)), some (enc source_1, (some 0)), some (enc target_1, (some 0)), some (enc weight_1, (some 0)), some (enc alike_1, (some 1)), none]) (sp_app (xs := s_2) rfl (re_tup0 (v := (⟨e_2, v49, weight_1⟩ : (T3 Int Int Int))) rfl (Nat.le_of_ble_eq_true rfl) (ra_s (re_varS rfl) (ra_s (re_ixF (by decide) (re_var1 rfl) (re_mod (re_add (re_varS rfl) (re_varS rfl)) (re_lenL (re_var1 rfl)) hv48) hv49) (ra_s (re_varS rfl) ra_nil)))) (by decide) (.inl ⟨rfl, rfl⟩) hlinks_2 rfl) ?_
          have h := Option.some.inj h; subst h
          exact pgo_c (.e (.e (.e (.e (.a (.e (.e (.e (.e (.e (.e (.a (.a .nil)))))))))))))
        · refine sp_if_f (rt_test (re_eq (by decide) (re_ixF (by decide) (re_var1 rfl) (re_varS rfl) hv41) (re_ixF (by decide) (re_var1 rfl) (re_varS rfl) hv42))) hb ?_
          refine sp_end (S' := [some (enc draws_0, (some 0)), some (enc j_1, (some 0)), some (enc e_1, (some 0)), some (enc names_1, (some 1)), some (enc e_2, (some 0)), some (enc kind_1, (some 1)), some (enc districts_1, (some 1)), some (enc s_2, (some 1)), some (enc source_1, (some 0)), some (enc target_1, (some 0)), some (enc weight_1, (some 0)), none, none]) sp_nilN ?_
          have h := Option.some.inj h; subst h
          exact pgo_c (.e (.e (.e (.e (.a (.e (.e (.e (.e (.e (.e (.a (.a .nil)))))))))))))
      have h := Option.some.inj h; subst h
      exact pgo_c (.e (.e (.a (.e (.a (.e (.e (.e (.a (.a (.a (.a (.a .nil)))))))))))))
    · refine sp_if_f (rt_test (re_gt (re_mod (re_ixF (by decide) (re_var0 rfl) (re_c (x := (2 : Int)) rfl) hv38) (re_c (x := (4 : Int)) rfl) hv39) (re_c (x := (0 : Int)) rfl))) hb ?_
      obtain ⟨links_3, hlinks_3, h⟩ := bnd h
      refine sp_end (S' := [some (enc draws_0, (some 0)), some (enc j_1, (some 0)), some (enc e_1, (some 0)), some (enc names_1, (some 1)), none, some (enc kind_1, (some 1)), some (enc districts_1, (some 1)), some (enc links_3, (some 1)), some (enc source_1, (some 0)), some (enc target_1, (some 0)), some (enc weight_1, (some 0)), none, none]) (sp_app (xs := s_1) rfl (re_tup0 (v := (⟨source_1, target_1, weight_1⟩ : (T3 Int Int Int))) rfl (Nat.le_of_ble_eq_true rfl) (ra_s (re_varS rfl) (ra_s (re_varS rfl) (ra_s (re_varS rfl) ra_nil)))) (by decide) (.inl ⟨rfl, rfl⟩) hlinks_3 rfl) ?_
      have h := Option.some.inj h; subst h
      exact pgo_c (.e (.e (.a (.e (.a (.e (.e (.e (.a (.a (.a (.a (.a .nil)))))))))))))
  have h := Option.some.inj h; subst h
  exact (sp_retT (m := 0) (v := (⟨j_1, r_2, districts_1⟩ : (T3 Int (List (T3 Int Int Int)) (List Int)))) rfl (by decide) (by decide) (fun ρ z => (gs_s z rfl (gs_k z rfl (gs_k z rfl gs_nil)))))
def u_numbered_1 : Int → (Dct Int Int) → Option (Dct Int Int) := fun e_1 s_1 =>
 (if (!(s_1.get e_1).isSome) = true then ((zDPut s_1 e_1 (s_1.l.length : Int)).bind fun numbers_2 =>
 some numbers_2)
 else some s_1)
def t_numbered (districts_0 : (List Int)) : Option (List Int) :=
 ((some (⟨[]⟩ : (Dct Int Int))).bind fun numbers_1 =>
 ((zFor u_numbered_1 districts_0 numbers_1).bind fun r_1 =>
 ((zMapM (fun (x_1 : Int) => ((r_1.get x_1).bind fun v1 =>
 some v1)) districts_0).bind fun v2 =>
 ((zLst v2).bind fun v3 =>
 some v3))))
theorem x_numbered {districts_0 : (List Int)} {r : (List Int)} (h : t_numbered districts_0 = some r) : DR (d_numbered [enc districts_0]) (enc r) (some 1) := by
  unfold t_numbered at h
  refine dr_fn (S0 := [some (enc districts_0, (some 0)), none, none]) rfl rfl ?_
  obtain ⟨numbers_1, hnumbers_1, h⟩ := bnd h
  refine sp_seq (S' := [some (enc districts_0, (some 0)), some (enc numbers_1, (some 1)), none]) (sp_set (re_to (re_dnew (κ := Int) (ν := Int) (t := false) rfl) hnumbers_1) rfl) ?_
  obtain ⟨r_1, hr_1, h⟩ := bnd h
  refine sp_seq (S' := [some (enc districts_0, (some 0)), some (enc r_1, (some 1)), none]) (sp_for (Sf := fun (s_1 : (Dct Int Int)) => [some (enc districts_0, (some 0)), some (enc s_1, (some 1)), none]) (s0 := numbers_1) (ri_seq (re_var0 rfl)) (.e (.e (.a .nil))) ?_ hr_1) ?_
  · intro e_1 s_1 ctl_1 hx h
    unfold u_numbered_1 at h
    refine ⟨[some (enc districts_0, (some 0)), some (enc s_1, (some 1)), some (enc e_1, (some 0))], (bg_n rfl), ?_⟩
    rcases tif h with ⟨hb, h⟩ | ⟨hb, h⟩
    · refine sp_if_t (rt_test (re_dnin (re_varS rfl) (re_var1 rfl))) hb ?_
      obtain ⟨numbers_2, hnumbers_2, h⟩ := bnd h
      refine sp_end (S' := [some (enc districts_0, (some 0)), some (enc numbers_2, (some 1)), some (enc e_1, (some 0))]) (sp_dput (d := s_1) rfl (re_dlen (re_var1 rfl)) (re_varS rfl) hnumbers_2 rfl) ?_
      have h := Option.some.inj h; subst h
      exact pgo_c (.e (.e (.a .nil)))
    · refine sp_if_f (rt_test (re_dnin (re_varS rfl) (re_var1 rfl))) hb ?_
      refine sp_end (S' := [some (enc districts_0, (some 0)), some (enc s_1, (some 1)), some (enc e_1, (some 0))]) sp_nilN ?_
      have h := Option.some.inj h; subst h
      exact pgo_c (.e (.e (.a .nil)))
  obtain ⟨v2, hv2, h⟩ := bnd h
  obtain ⟨v3, hv3, h⟩ := bnd h
  have h := Option.some.inj h; subst h
  exact (sp_ret (re_mF (dep := 0) (by decide) (.inl EncS.sc) (Sx := fun x_1 => [some (enc districts_0, (some 0)), some (enc r_1, (some 1)), some (enc x_1, (some 0))]) (ri_seq (re_var0 rfl)) (fun x_1 => (bg_n rfl)) (fun x_1 y h => by obtain ⟨v1, hv1, h⟩ := bnd h; exact re_to (re_dget (re_var1 rfl) (re_varS rfl) hv1) h) hv2 hv3))
def u_weights_out_1 (districts_0 : (List Int)) (place_0 : Int) : (T3 Int Int Int) → (Dct Int Int) → Option (Dct Int Int) := fun e_1 s_1 =>
 ((zAnd (decide (e_1.a = place_0)) (((atI districts_0 e_1.b).bind fun v1 =>
 ((atI districts_0 place_0).bind fun v2 =>
 some (!decide (v1 = v2)))))).bind fun v3 =>
 (if v3 = true then ((atI districts_0 e_1.b).bind fun v4 =>
 ((atI districts_0 e_1.b).bind fun v5 =>
 ((zDPut s_1 v5 (((s_1.get v4).getD (0 : Int)) + e_1.c)).bind fun weights_2 =>
 some weights_2)))
 else some s_1))
def t_weights_out (links_0 : (List (T3 Int Int Int))) (districts_0 : (List Int)) (place_0 : Int) : Option (Dct Int Int) :=
 ((some (⟨[]⟩ : (Dct Int Int))).bind fun weights_1 =>
 ((zFor (u_weights_out_1 districts_0 place_0) links_0 weights_1).bind fun r_1 =>
 some r_1))
theorem x_weights_out {links_0 : (List (T3 Int Int Int))} {districts_0 : (List Int)} {place_0 : Int} {r : (Dct Int Int)} (h : t_weights_out links_0 districts_0 place_0 = some r) : DR (d_weights_out [enc links_0, enc districts_0, enc place_0]) (enc r) (some 1) := by
  unfold t_weights_out at h
  refine dr_fn (S0 := [some (enc links_0, (some 0)), some (enc districts_0, (some 0)), some (enc place_0, (some 0)), none, none, none, none]) rfl rfl ?_
  obtain ⟨weights_1, hweights_1, h⟩ := bnd h
  refine sp_seq (S' := [some (enc links_0, (some 0)), some (enc districts_0, (some 0)), some (enc place_0, (some 0)), some (enc weights_1, (some 1)), none, none, none]) (sp_set (re_to (re_dnew (κ := Int) (ν := Int) (t := false) rfl) hweights_1) rfl) ?_
  obtain ⟨r_1, hr_1, h⟩ := bnd h
  refine sp_seq (S' := [some (enc links_0, (some 0)), some (enc districts_0, (some 0)), some (enc place_0, (some 0)), some (enc r_1, (some 1)), none, none, none]) (sp_for (Sf := fun (s_1 : (Dct Int Int)) => [some (enc links_0, (some 0)), some (enc districts_0, (some 0)), some (enc place_0, (some 0)), some (enc s_1, (some 1)), none, none, none]) (s0 := weights_1) (ri_seq (re_var0 rfl)) (.e (.e (.e (.e (.a (.a (.a .nil))))))) ?_ hr_1) ?_
  · intro e_1 s_1 ctl_1 hx h
    unfold u_weights_out_1 at h
    refine ⟨[some (enc links_0, (some 0)), some (enc districts_0, (some 0)), some (enc place_0, (some 0)), some (enc s_1, (some 1)), some (enc e_1.a, (some 0)), some (enc e_1.b, (some 0)), some (enc e_1.c, (some 0))], (bg_t rfl rfl rfl), ?_⟩
    obtain ⟨v3, hv3, h⟩ := bnd h
    rcases tif h with ⟨hb, h⟩ | ⟨hb, h⟩
    · refine sp_if_t (rt_andM (rt_test (re_eq (by decide) (re_varS rfl) (re_varS rfl))) (fun q h => by obtain ⟨v1, hv1, h⟩ := bnd h; obtain ⟨v2, hv2, h⟩ := bnd h; exact rt_to (rt_test (re_ne (by decide) (re_ixF (by decide) (re_var0 rfl) (re_varS rfl) hv1) (re_ixF (by decide) (re_var0 rfl) (re_varS rfl) hv2))) h) hv3) hb ?_
      obtain ⟨v4, hv4, h⟩ := bnd h
      obtain ⟨v5, hv5, h⟩ := bnd h
      obtain ⟨weights_2, hweights_2, h⟩ := bnd h
      refine sp_end (S' := [some (enc links_0, (some 0)), some (enc districts_0, (some 0)), some (enc place_0, (some 0)), some (enc weights_2, (some 1)), some (enc e_1.a, (some 0)), some (enc e_1.b, (some 0)), some (enc e_1.c, (some 0))]) (sp_dput (d := s_1) rfl (re_add (re_dget2 (EncS.sc _) (re_var1 rfl) (re_ixF (by decide) (re_var0 rfl) (re_varS rfl) hv4) (re_c (x := (0 : Int)) rfl)) (re_varS rfl)) (re_ixF (by decide) (re_var0 rfl) (re_varS rfl) hv5) hweights_2 rfl) ?_
      have h := Option.some.inj h; subst h
      exact pgo_c (.e (.e (.e (.e (.a (.a (.a .nil)))))))
    · refine sp_if_f (rt_andM (rt_test (re_eq (by decide) (re_varS rfl) (re_varS rfl))) (fun q h => by obtain ⟨v1, hv1, h⟩ := bnd h; obtain ⟨v2, hv2, h⟩ := bnd h; exact rt_to (rt_test (re_ne (by decide) (re_ixF (by decide) (re_var0 rfl) (re_varS rfl) hv1) (re_ixF (by decide) (re_var0 rfl) (re_varS rfl) hv2))) h) hv3) hb ?_
      refine sp_end (S' := [some (enc links_0, (some 0)), some (enc districts_0, (some 0)), some (enc place_0, (some 0)), some (enc s_1, (some 1)), some (enc e_1.a, (some 0)), some (enc e_1.b, (some 0)), some (enc e_1.c, (some 0))]) sp_nilN ?_
      have h := Option.some.inj h; subst h
      exact pgo_c (.e (.e (.e (.e (.a (.a (.a .nil)))))))
  have h := Option.some.inj h; subst h
  exact (sp_retV (v := r_1) rfl)
def u_unlike_district_1 (first_0 : (Dct Int Int)) (second_0 : (Dct Int Int)) : Int → Unit → Option (Ctl Unit (Option Int)) := fun e_1 s_1 =>
 (if (!decide (((first_0.get e_1).getD (0 : Int)) = ((second_0.get e_1).getD (0 : Int)))) = true then some (.ret (some (e_1 : Int)))
 else some (.go ()))
def t_unlike_district (first_0 : (Dct Int Int)) (second_0 : (Dct Int Int)) : Option (Option Int) :=
 ((zLst ((first_0.l.map (·.1)) ++ (second_0.l.map (·.1)))).bind fun v1 =>
 ((zForC (u_unlike_district_1 first_0 second_0) (isort v1) ()).bind fun o_1 =>
 (match o_1 with
 | .inl r_1 => some (none : (Option Int))
 | .inr r => some r)))
theorem x_unlike_district {first_0 : (Dct Int Int)} {second_0 : (Dct Int Int)} {r : (Option Int)} (h : t_unlike_district first_0 second_0 = some r) : DR (d_unlike_district [enc first_0, enc second_0]) (enc r) (some 0) := by
  unfold t_unlike_district at h
  refine dr_fn (S0 := [some (enc first_0, (some 0)), some (enc second_0, (some 0)), none]) rfl rfl ?_
  obtain ⟨v1, hv1, h⟩ := bnd h
  obtain ⟨o_1, ho_1, h⟩ := bnd h
  refine sp_forCs (Sf := fun (s_1 : Unit) => [some (enc first_0, (some 0)), some (enc second_0, (some 0)), none]) (s0 := ()) (kk := (some 0)) (ri_seq (re_sorted (re_cat (re_dkeys (re_var0 rfl)) (re_dkeys (re_var0 rfl)) hv1))) (.e (.e (.a .nil))) ?_ ho_1 ?_ ?_
  · intro e_1 s_1 ctl_1 hx h
    unfold u_unlike_district_1 at h
    refine ⟨[some (enc first_0, (some 0)), some (enc second_0, (some 0)), some (enc e_1, (some 0))], (bg_n rfl), ?_⟩
    rcases tif h with ⟨hb, h⟩ | ⟨hb, h⟩
    · refine sp_if_t (rt_test (re_ne (by decide) (re_dget2 (EncS.sc _) (re_var0 rfl) (re_varS rfl) (re_c (x := (0 : Int)) rfl)) (re_dget2 (EncS.sc _) (re_var0 rfl) (re_varS rfl) (re_c (x := (0 : Int)) rfl)))) hb ?_
      have h := Option.some.inj h; subst h
      exact (prt_opt (τ := Int) (sp_retV (v := e_1) rfl))
    · refine sp_if_f (rt_test (re_ne (by decide) (re_dget2 (EncS.sc _) (re_var0 rfl) (re_varS rfl) (re_c (x := (0 : Int)) rfl)) (re_dget2 (EncS.sc _) (re_var0 rfl) (re_varS rfl) (re_c (x := (0 : Int)) rfl)))) hb ?_
      refine sp_end (S' := [some (enc first_0, (some 0)), some (enc second_0, (some 0)), some (enc e_1, (some 0))]) sp_nilN ?_
      have h := Option.some.inj h; subst h
      exact plp_c (.e (.e (.a .nil)))
  · rintro r_1 rfl
    dsimp only at h
    have h := Option.some.inj h; subst h
    exact (prt_optN (τ := Int) (sp_ret (re_c (x := ()) rfl)))
  · rintro r rfl
    cases h
    exact fun _ q => q
def u_district_fault_1 (links_0 : (List (T3 Int Int Int))) (districts_0 : (List Int)) : Int → Unit → Option (Ctl Unit (Option (T3 Int Int Int))) := fun e_1 s_1 =>
 ((atI districts_0 e_1).bind fun v2 =>
 ((zIndex districts_0 v2).bind fun first_1 =>
 ((t_weights_out links_0 districts_0 first_1).bind fun v4 =>
 ((t_weights_out links_0 districts_0 e_1).bind fun v5 =>
 ((t_unlike_district v4 v5).bind fun district_1 =>
 (if district_1.isSome = true then ((district_1).bind fun v7 =>
 some (.ret (some ((⟨first_1, e_1, v7⟩ : (T3 Int Int Int)) : (T3 Int Int Int)))))
 else some (.go ())))))))
def t_district_fault (size_0 : Int) (links_0 : (List (T3 Int Int Int))) (districts_0 : (List Int)) : Option (Option (T3 Int Int Int)) :=
 ((zRng size_0).bind fun v1 =>
 ((zForC (u_district_fault_1 links_0 districts_0) v1 ()).bind fun o_1 =>
 (match o_1 with
 | .inl r_1 => some (none : (Option (T3 Int Int Int)))
 | .inr r => some r)))
theorem x_district_fault {size_0 : Int} {links_0 : (List (T3 Int Int Int))} {districts_0 : (List Int)} {r : (Option (T3 Int Int Int))} (h : t_district_fault size_0 links_0 districts_0 = some r) : DR (d_district_fault [enc size_0, enc links_0, enc districts_0]) (enc r) (some 0) := by
  unfold t_district_fault at h
  refine dr_fn (S0 := [some (enc size_0, (some 0)), some (enc links_0, (some 0)), some (enc districts_0, (some 0)), none, none, none]) rfl rfl ?_
  obtain ⟨v1, hv1, h⟩ := bnd h
  obtain ⟨o_1, ho_1, h⟩ := bnd h
  refine sp_forCs (Sf := fun (s_1 : Unit) => [some (enc size_0, (some 0)), some (enc links_0, (some 0)), some (enc districts_0, (some 0)), none, none, none]) (s0 := ()) (kk := (some 0)) (ri_rng1 (re_varS rfl) hv1) (.e (.e (.e (.a (.a (.a .nil)))))) ?_ ho_1 ?_ ?_
  · intro e_1 s_1 ctl_1 hx h
    unfold u_district_fault_1 at h
    refine ⟨[some (enc size_0, (some 0)), some (enc links_0, (some 0)), some (enc districts_0, (some 0)), some (enc e_1, (some 0)), none, none], (bg_n rfl), ?_⟩
    obtain ⟨v2, hv2, h⟩ := bnd h
    obtain ⟨first_1, hfirst_1, h⟩ := bnd h
    refine sp_seq (S' := [some (enc size_0, (some 0)), some (enc links_0, (some 0)), some (enc districts_0, (some 0)), some (enc e_1, (some 0)), some (enc first_1, (some 0)), none]) (sp_set (re_index (by decide) (re_var0 rfl) (re_ixF (by decide) (re_var0 rfl) (re_varS rfl) hv2) hfirst_1) rfl) ?_
    obtain ⟨v4, hv4, h⟩ := bnd h
    obtain ⟨v5, hv5, h⟩ := bnd h
    obtain ⟨district_1, hdistrict_1, h⟩ := bnd h
    refine sp_seq (S' := [some (enc size_0, (some 0)), some (enc links_0, (some 0)), some (enc districts_0, (some 0)), some (enc e_1, (some 0)), some (enc first_1, (some 0)), some (enc district_1, (some 0))]) (sp_set (re_callF (by decide) (x_unlike_district hdistrict_1) rfl (ra_n (re_callF (by decide) (x_weights_out hv4) rfl (ra_n (re_var0 rfl) (ra_n (re_var0 rfl) (ra_n (re_varS rfl) ra_nil)))) (ra_n (re_callF (by decide) (x_weights_out hv5) rfl (ra_n (re_var0 rfl) (ra_n (re_var0 rfl) (ra_n (re_varS rfl) ra_nil)))) ra_nil))) rfl) ?_
    rcases tif h with ⟨hb, h⟩ | ⟨hb, h⟩
    · refine sp_if_t (rt_test (re_isNn (re_var0 rfl))) hb ?_
      obtain ⟨v7, hv7, h⟩ := bnd h
      have h := Option.some.inj h; subst h
      exact (prt_opt (τ := (T3 Int Int Int)) (sp_ret (re_tup0 (v := (⟨first_1, e_1, v7⟩ : (T3 Int Int Int))) rfl (Nat.le_of_ble_eq_true rfl) (ra_s (re_varS rfl) (ra_s (re_varS rfl) (ra_s (re_get hv7 (re_var0 rfl)) ra_nil))))))
    · refine sp_if_f (rt_test (re_isNn (re_var0 rfl))) hb ?_
      refine sp_end (S' := [some (enc size_0, (some 0)), some (enc links_0, (some 0)), some (enc districts_0, (some 0)), some (enc e_1, (some 0)), some (enc first_1, (some 0)), some (enc district_1, (some 0))]) sp_nilN ?_
      have h := Option.some.inj h; subst h
      exact plp_c (.e (.e (.e (.a (.a (.a .nil))))))
  · rintro r_1 rfl
    dsimp only at h
    have h := Option.some.inj h; subst h
    exact (prt_optN (τ := (T3 Int Int Int)) (sp_ret (re_c (x := ()) rfl)))
  · rintro r rfl
    cases h
    exact fun _ q => q
def t_members (districts_0 : (List Int)) (district_0 : Int) : Option (List Int) :=
 ((zRng (districts_0.length : Int)).bind fun v1 =>
 ((zFilM (fun (x_1 : Int) => zSel (((atI districts_0 x_1).bind fun v2 =>
 some (decide (v2 = district_0)))) (some x_1)) v1).bind fun v3 =>
 ((zLst v3).bind fun v4 =>
 some v4)))
theorem x_members {districts_0 : (List Int)} {district_0 : Int} {r : (List Int)} (h : t_members districts_0 district_0 = some r) : DR (d_members [enc districts_0, enc district_0]) (enc r) (some 1) := by
  unfold t_members at h
  refine dr_fn (S0 := [some (enc districts_0, (some 0)), some (enc district_0, (some 0)), none]) rfl rfl ?_
  obtain ⟨v1, hv1, h⟩ := bnd h
  obtain ⟨v3, hv3, h⟩ := bnd h
  obtain ⟨v4, hv4, h⟩ := bnd h
  have h := Option.some.inj h; subst h
  exact (sp_ret (re_fF (dep := 0) (by decide) (.inl EncS.sc) (Sx := fun x_1 => [some (enc districts_0, (some 0)), some (enc district_0, (some 0)), some (enc x_1, (some 0))]) (ri_rng1 (re_lenL (re_var0 rfl)) hv1) (fun x_1 => (bg_n rfl)) (fun x_1 b h => by obtain ⟨v2, hv2, h⟩ := bnd h; exact rt_to (rt_test (re_eq (by decide) (re_ixF (by decide) (re_var0 rfl) (re_varS rfl) hv2) (re_varS rfl))) h) (fun x_1 y h => by exact re_to (re_varS rfl) h) hv3 hv4))
def t_weight_into (links_0 : (List (T3 Int Int Int))) (place_0 : Int) (inside_0 : (List Int)) : Option Int :=
 ((zLst ((links_0.filter (fun (x_1 : (T3 Int Int Int)) => ((decide (x_1.a = place_0)) && (decide (x_1.b ∈ inside_0))))).map (fun (x_1 : (T3 Int Int Int)) => x_1.c))).bind fun v1 =>
 some v1.sum)
theorem x_weight_into {links_0 : (List (T3 Int Int Int))} {place_0 : Int} {inside_0 : (List Int)} {r : Int} (h : t_weight_into links_0 place_0 inside_0 = some r) : DR (d_weight_into [enc links_0, enc place_0, enc inside_0]) (enc r) none := by
  unfold t_weight_into at h
  refine dr_fn (S0 := [some (enc links_0, (some 0)), some (enc place_0, (some 0)), some (enc inside_0, (some 0)), none, none, none]) rfl rfl ?_
  obtain ⟨v1, hv1, h⟩ := bnd h
  have h := Option.some.inj h; subst h
  exact (prt_w (sp_ret (re_sum (re_pF (dep := 0) (by decide) (.inl EncS.sc) (p := fun (x_1 : (T3 Int Int Int)) => ((decide (x_1.a = place_0)) && (decide (x_1.b ∈ inside_0)))) (h := fun (x_1 : (T3 Int Int Int)) => x_1.c) (Sx := fun x_1 => [some (enc links_0, (some 0)), some (enc place_0, (some 0)), some (enc inside_0, (some 0)), some (enc x_1.a, (some 0)), some (enc x_1.b, (some 0)), some (enc x_1.c, (some 0))]) (ri_seq (re_var0 rfl)) (fun x_1 => (bg_t rfl rfl rfl)) (fun x_1 => (rt_and (rt_test (re_eq (by decide) (re_varS rfl) (re_varS rfl))) (rt_test (re_inG (by decide) (re_varS rfl) (re_var0 rfl))))) (fun x_1 => (re_varS rfl)) hv1))))
def t_split_key (links_0 : (List (T3 Int Int Int))) (division_0 : (List Int)) (inside_0 : (List Int)) (place_0 : Int) : Option (T2 Int Int) :=
 (if (decide (place_0 ∈ inside_0)) = true then ((atI division_0 place_0).bind fun v1 =>
 some (⟨v1, (0 : Int)⟩ : (T2 Int Int)))
 else ((atI division_0 place_0).bind fun v2 =>
 ((t_weight_into links_0 place_0 inside_0).bind fun v3 =>
 some (⟨v2, v3⟩ : (T2 Int Int)))))
theorem x_split_key {links_0 : (List (T3 Int Int Int))} {division_0 : (List Int)} {inside_0 : (List Int)} {place_0 : Int} {r : (T2 Int Int)} (h : t_split_key links_0 division_0 inside_0 place_0 = some r) : DR (d_split_key [enc links_0, enc division_0, enc inside_0, enc place_0]) (enc r) (some 0) := by
  unfold t_split_key at h
  refine dr_fn (S0 := [some (enc links_0, (some 0)), some (enc division_0, (some 0)), some (enc inside_0, (some 0)), some (enc place_0, (some 0))]) rfl rfl ?_
  rcases tif h with ⟨hb, h⟩ | ⟨hb, h⟩
  · refine sp_ifs_t (rt_test (re_inG (by decide) (re_varS rfl) (re_var0 rfl))) hb ?_
    obtain ⟨v1, hv1, h⟩ := bnd h
    have h := Option.some.inj h; subst h
    exact (sp_seqR (sp_ret (re_tup0 (v := (⟨v1, (0 : Int)⟩ : (T2 Int Int))) rfl (Nat.le_of_ble_eq_true rfl) (ra_s (re_ixF (by decide) (re_var0 rfl) (re_varS rfl) hv1) (ra_s (re_c (x := (0 : Int)) rfl) ra_nil)))))
  · refine sp_ifs_f (rt_test (re_inG (by decide) (re_varS rfl) (re_var0 rfl))) hb ?_
    refine sp_nil ?_
    obtain ⟨v2, hv2, h⟩ := bnd h
    obtain ⟨v3, hv3, h⟩ := bnd h
    have h := Option.some.inj h; subst h
    exact (sp_ret (re_tup0 (v := (⟨v2, v3⟩ : (T2 Int Int))) rfl (Nat.le_of_ble_eq_true rfl) (ra_s (re_ixF (by decide) (re_var0 rfl) (re_varS rfl) hv2) (ra_s (re_callS (x_weight_into hv3) rfl (ra_n (re_var0 rfl) (ra_n (re_varS rfl) (ra_n (re_var0 rfl) ra_nil)))) ra_nil))))
def u_numbered_T_1 : (T2 Int Int) → (Dct (T2 Int Int) Int) → Option (Dct (T2 Int Int) Int) := fun e_1 s_1 =>
 (if (!(s_1.get e_1).isSome) = true then ((zDPut s_1 e_1 (s_1.l.length : Int)).bind fun numbers_2 =>
 some numbers_2)
 else some s_1)
def t_numbered_T (districts_0 : (List (T2 Int Int))) : Option (List Int) :=
 ((some (⟨[]⟩ : (Dct (T2 Int Int) Int))).bind fun numbers_1 =>
 ((zFor u_numbered_T_1 districts_0 numbers_1).bind fun r_1 =>
 ((zMapM (fun (x_1 : (T2 Int Int)) => ((r_1.get x_1).bind fun v1 =>
 some v1)) districts_0).bind fun v2 =>
 ((zLst v2).bind fun v3 =>
 some v3))))
theorem x_numbered_T {districts_0 : (List (T2 Int Int))} {r : (List Int)} (h : t_numbered_T districts_0 = some r) : DR (d_numbered_T [enc districts_0]) (enc r) (some 1) := by
  unfold t_numbered_T at h
  refine dr_fn (S0 := [some (enc districts_0, (some 0)), none, none]) rfl rfl ?_
  obtain ⟨numbers_1, hnumbers_1, h⟩ := bnd h
  refine sp_seq (S' := [some (enc districts_0, (some 0)), some (enc numbers_1, (some 1)), none]) (sp_set (re_to (re_dnew (κ := (T2 Int Int)) (ν := Int) (t := true) rfl) hnumbers_1) rfl) ?_
  obtain ⟨r_1, hr_1, h⟩ := bnd h
  refine sp_seq (S' := [some (enc districts_0, (some 0)), some (enc r_1, (some 1)), none]) (sp_for (Sf := fun (s_1 : (Dct (T2 Int Int) Int)) => [some (enc districts_0, (some 0)), some (enc s_1, (some 1)), none]) (s0 := numbers_1) (ri_seq (re_var0 rfl)) (.e (.e (.a .nil))) ?_ hr_1) ?_
  · intro e_1 s_1 ctl_1 hx h
    unfold u_numbered_T_1 at h
    refine ⟨[some (enc districts_0, (some 0)), some (enc s_1, (some 1)), some (enc e_1, (some 0))], (bg_n rfl), ?_⟩
    rcases tif h with ⟨hb, h⟩ | ⟨hb, h⟩
    · refine sp_if_t (rt_test (re_dnin (re_var0 rfl) (re_var1 rfl))) hb ?_
      obtain ⟨numbers_2, hnumbers_2, h⟩ := bnd h
      refine sp_end (S' := [some (enc districts_0, (some 0)), some (enc numbers_2, (some 1)), some (enc e_1, (some 0))]) (sp_dput (d := s_1) rfl (re_dlenT (re_var1 rfl)) (re_var0 rfl) hnumbers_2 rfl) ?_
      have h := Option.some.inj h; subst h
      exact pgo_c (.e (.e (.a .nil)))
    · refine sp_if_f (rt_test (re_dnin (re_var0 rfl) (re_var1 rfl))) hb ?_
      refine sp_end (S' := [some (enc districts_0, (some 0)), some (enc s_1, (some 1)), some (enc e_1, (some 0))]) sp_nilN ?_
      have h := Option.some.inj h; subst h
      exact pgo_c (.e (.e (.a .nil)))
  obtain ⟨v2, hv2, h⟩ := bnd h
  obtain ⟨v3, hv3, h⟩ := bnd h
  have h := Option.some.inj h; subst h
  exact (sp_ret (re_mF (dep := 0) (by decide) (.inl EncS.sc) (Sx := fun x_1 => [some (enc districts_0, (some 0)), some (enc r_1, (some 1)), some (enc x_1, (some 0))]) (ri_seq (re_var0 rfl)) (fun x_1 => (bg_n rfl)) (fun x_1 y h => by obtain ⟨v1, hv1, h⟩ := bnd h; exact re_to (re_dget (re_var1 rfl) (re_var0 rfl) hv1) h) hv2 hv3))
def t_split_by (size_0 : Int) (links_0 : (List (T3 Int Int Int))) (division_0 : (List Int)) (inside_0 : (List Int)) : Option (List Int) :=
 ((zRng size_0).bind fun v1 =>
 ((zMapM (fun (x_1 : Int) => ((t_split_key links_0 division_0 inside_0 x_1).bind fun v2 =>
 some v2)) v1).bind fun v3 =>
 ((zLst v3).bind fun v4 =>
 ((t_numbered_T v4).bind fun v5 =>
 some v5))))
theorem x_split_by {size_0 : Int} {links_0 : (List (T3 Int Int Int))} {division_0 : (List Int)} {inside_0 : (List Int)} {r : (List Int)} (h : t_split_by size_0 links_0 division_0 inside_0 = some r) : DR (d_split_by [enc size_0, enc links_0, enc division_0, enc inside_0]) (enc r) (some 1) := by
  unfold t_split_by at h
  refine dr_fn (S0 := [some (enc size_0, (some 0)), some (enc links_0, (some 0)), some (enc division_0, (some 0)), some (enc inside_0, (some 0)), none]) rfl rfl ?_
  obtain ⟨v1, hv1, h⟩ := bnd h
  obtain ⟨v3, hv3, h⟩ := bnd h
  obtain ⟨v4, hv4, h⟩ := bnd h
  obtain ⟨v5, hv5, h⟩ := bnd h
  have h := Option.some.inj h; subst h
  exact (sp_ret (re_callF (by decide) (x_numbered_T hv5) rfl (ra_n (re_mF (dep := 0) (by decide) (.inr rfl) (Sx := fun x_1 => [some (enc size_0, (some 0)), some (enc links_0, (some 0)), some (enc division_0, (some 0)), some (enc inside_0, (some 0)), some (enc x_1, (some 0))]) (ri_rng1 (re_varS rfl) hv1) (fun x_1 => (bg_n rfl)) (fun x_1 y h => by obtain ⟨v2, hv2, h⟩ := bnd h; exact re_to (re_callF (by decide) (x_split_key hv2) rfl (ra_n (re_var0 rfl) (ra_n (re_var0 rfl) (ra_n (re_var0 rfl) (ra_n (re_varS rfl) ra_nil))))) h) hv3 hv4) ra_nil)))
def u_coarsest_1 (size_0 : Int) (links_0 : (List (T3 Int Int Int))) : ((List Int) × (List (List Int)) × (Option (T3 Int Int Int))) → Option ((List Int) × (List (List Int)) × (Option (T3 Int Int Int))) := fun s_1 =>
 ((s_1.2.2).bind fun v3 =>
 ((t_members s_1.1 v3.c).bind fun inside_1 =>
 ((t_split_by size_0 links_0 s_1.1 inside_1).bind fun division_2 =>
 ((zApp s_1.2.1 inside_1).bind fun splitters_2 =>
 ((t_district_fault size_0 links_0 division_2).bind fun fault_2 =>
 some (division_2, splitters_2, fault_2))))))
def y_coarsest_2 : ((List Int) × (List (List Int)) × (Option (T3 Int Int Int))) → Option Bool := fun s_1 =>
 some s_1.2.2.isSome
def t_coarsest (size_0 : Int) (links_0 : (List (T3 Int Int Int))) (districts_0 : (List Int)) : Option (T2 (List Int) (List (List Int))) :=
 ((t_numbered districts_0).bind fun division_1 =>
 ((some ([] : (List (List Int)))).bind fun splitters_1 =>
 ((t_district_fault size_0 links_0 division_1).bind fun fault_1 =>
 ((zWhile y_coarsest_2 (u_coarsest_1 size_0 links_0) 1000000000 (division_1, splitters_1, fault_1)).bind fun r_1 =>
 some (⟨r_1.1, r_1.2.1⟩ : (T2 (List Int) (List (List Int))))))))
theorem x_coarsest {size_0 : Int} {links_0 : (List (T3 Int Int Int))} {districts_0 : (List Int)} {r : (T2 (List Int) (List (List Int)))} (h : t_coarsest size_0 links_0 districts_0 = some r) : DR (d_coarsest [enc size_0, enc links_0, enc districts_0]) (enc r) (some 2) := by
  unfold t_coarsest at h
  refine dr_fn (S0 := [some (enc size_0, (some 0)), some (enc links_0, (some 0)), some (enc districts_0, (some 0)), none, none, none, none]) rfl rfl ?_
  obtain ⟨division_1, hdivision_1, h⟩ := bnd h
  refine sp_seq (S' := [some (enc size_0, (some 0)), some (enc links_0, (some 0)), some (enc districts_0, (some 0)), some (enc division_1, (some 1)), none, none, none]) (sp_set (re_callF (by decide) (x_numbered hdivision_1) rfl (ra_n (re_var0 rfl) ra_nil)) rfl) ?_
  obtain ⟨splitters_1, hsplitters_1, h⟩ := bnd h
  refine sp_seq (S' := [some (enc size_0, (some 0)), some (enc links_0, (some 0)), some (enc districts_0, (some 0)), some (enc division_1, (some 1)), some (enc splitters_1, (some 1)), none, none]) (sp_set (re_to (re_nil (dep := 0)) hsplitters_1) rfl) ?_
  obtain ⟨fault_1, hfault_1, h⟩ := bnd h
  refine sp_seq (S' := [some (enc size_0, (some 0)), some (enc links_0, (some 0)), some (enc districts_0, (some 0)), some (enc division_1, (some 1)), some (enc splitters_1, (some 1)), some (enc fault_1, (some 0)), none]) (sp_set (re_callF (by decide) (x_district_fault hfault_1) rfl (ra_n (re_varS rfl) (ra_n (re_var0 rfl) (ra_n (re_var1 rfl) ra_nil)))) rfl) ?_
  obtain ⟨r_1, hr_1, h⟩ := bnd h
  refine sp_seq (S' := [some (enc size_0, (some 0)), some (enc links_0, (some 0)), some (enc districts_0, (some 0)), some (enc r_1.1, (some 1)), some (enc r_1.2.1, (some 1)), some (enc r_1.2.2, (some 0)), none]) (sp_while (Sf := fun (s_1 : ((List Int) × (List (List Int)) × (Option (T3 Int Int Int)))) => [some (enc size_0, (some 0)), some (enc links_0, (some 0)), some (enc districts_0, (some 0)), some (enc s_1.1, (some 1)), some (enc s_1.2.1, (some 1)), some (enc s_1.2.2, (some 0)), none]) (s0 := (division_1, splitters_1, fault_1)) (.e (.e (.e (.e (.e (.e (.a .nil))))))) (fun s_1 b h => by unfold y_coarsest_2 at h; exact rt_to (rt_test (re_isNn (re_var0 rfl))) h) ?_ hr_1) ?_
  · intro s_1 ctl_1 hw h
    unfold u_coarsest_1 at h
    obtain ⟨v3, hv3, h⟩ := bnd h
    obtain ⟨inside_1, hinside_1, h⟩ := bnd h
    refine sp_seq (S' := [some (enc size_0, (some 0)), some (enc links_0, (some 0)), some (enc districts_0, (some 0)), some (enc s_1.1, (some 1)), some (enc s_1.2.1, (some 1)), some (enc s_1.2.2, (some 0)), some (enc inside_1, (some 1))]) (sp_set (re_callF (by decide) (x_members hinside_1) rfl (ra_n (re_var1 rfl) (ra_n (re_tixF (v := v3.c) rfl (by decide) ix_2 (re_get hv3 (re_var0 rfl))) ra_nil))) rfl) ?_
    obtain ⟨division_2, hdivision_2, h⟩ := bnd h
    refine sp_seq (S' := [some (enc size_0, (some 0)), some (enc links_0, (some 0)), some (enc districts_0, (some 0)), some (enc division_2, (some 1)), some (enc s_1.2.1, (some 1)), some (enc s_1.2.2, (some 0)), some (enc inside_1, (some 1))]) (sp_set (re_callF (by decide) (x_split_by hdivision_2) rfl (ra_n (re_varS rfl) (ra_n (re_var0 rfl) (ra_n (re_var1 rfl) (ra_n (re_var1 rfl) ra_nil))))) rfl) ?_
    obtain ⟨splitters_2, hsplitters_2, h⟩ := bnd h
    refine sp_seq (S' := [some (enc size_0, (some 0)), some (enc links_0, (some 0)), some (enc districts_0, (some 0)), some (enc division_2, (some 1)), some (enc splitters_2, (some 1)), some (enc s_1.2.2, (some 0)), some (enc inside_1, none)]) (sp_app (xs := s_1.2.1) rfl (re_var1 rfl) (by decide) (.inl ⟨rfl, rfl⟩) hsplitters_2 rfl) ?_
    obtain ⟨fault_2, hfault_2, h⟩ := bnd h
    refine sp_end (S' := [some (enc size_0, (some 0)), some (enc links_0, (some 0)), some (enc districts_0, (some 0)), some (enc division_2, (some 1)), some (enc splitters_2, (some 1)), some (enc fault_2, (some 0)), some (enc inside_1, none)]) (sp_set (re_callF (by decide) (x_district_fault hfault_2) rfl (ra_n (re_varS rfl) (ra_n (re_var0 rfl) (ra_n (re_var1 rfl) ra_nil)))) rfl) ?_
    have h := Option.some.inj h; subst h
    exact pgo_c (.e (.e (.e (.e (.e (.e (.a .nil)))))))
  have h := Option.some.inj h; subst h
  exact (sp_retT (m := 0) (v := (⟨r_1.1, r_1.2.1⟩ : (T2 (List Int) (List (List Int))))) rfl (by decide) (by decide) (fun ρ z => (gs_k z rfl (gs_k z rfl gs_nil))))
def t__law_is_number (value_0 : Int) : Option Bool :=
 some (true && (!false))
theorem x__law_is_number {value_0 : Int} {r : Bool} (h : t__law_is_number value_0 = some r) : DR (d__law_is_number [enc value_0]) (enc r) none := by
  unfold t__law_is_number at h
  refine dr_fn (S0 := [some (enc value_0, (some 0))]) rfl rfl ?_
  have h := Option.some.inj h; subst h
  exact (prt_w (sp_ret (re_and (re_isi (p := true) rfl (re_varS rfl)) (re_notV (re_isi (p := false) rfl (re_varS rfl))))))
def u__law_answer_1 (size_0 : Int) : Int → Unit → Option (Ctl Unit (Option (List Int))) := fun e_1 s_1 =>
 ((t__law_is_number e_1).bind fun v2 =>
 (if ((!v2) || ((decide (e_1 < (0 : Int))) || (decide (size_0 ≤ e_1)))) = true then some (.ret (none : (Option (List Int))))
 else some (.go ())))
def t__law_answer (size_0 : Int) (links_0 : (List (T3 Int Int Int))) (districts_0 : (List Int)) : Option (Option (List Int)) :=
 ((some (⟨links_0, districts_0⟩ : (H2 (List (T3 Int Int Int)) (List Int)))).bind fun passed_1 =>
 ((t_coarsest size_0 passed_1.a passed_1.b).bind fun told_1 =>
 (if ((!decide (passed_1 = (⟨links_0, districts_0⟩ : (H2 (List (T3 Int Int Int)) (List Int))))) || ((!true) || (!decide ((2 : Int) = (2 : Int))))) = true then some (none : (Option (List Int)))
 else (if ((!true) || (!decide ((told_1.a.length : Int) = size_0))) = true then some (none : (Option (List Int)))
 else ((zForC (u__law_answer_1 size_0) told_1.a ()).bind fun o_1 =>
 (match o_1 with
 | .inl r_1 => some (some (told_1.a : (List Int)))
 | .inr r => some r))))))
theorem x__law_answer {size_0 : Int} {links_0 : (List (T3 Int Int Int))} {districts_0 : (List Int)} {r : (Option (List Int))} (h : t__law_answer size_0 links_0 districts_0 = some r) : DR (d__law_answer [enc size_0, enc links_0, enc districts_0]) (enc r) (some 1) := by
  unfold t__law_answer at h
  refine dr_fn (S0 := [some (enc size_0, (some 0)), some (enc links_0, (some 0)), some (enc districts_0, (some 0)), none, none, none]) rfl rfl ?_
  obtain ⟨passed_1, hpassed_1, h⟩ := bnd h
  refine sp_seq (S' := [some (enc size_0, (some 0)), some (enc links_0, (some 0)), some (enc districts_0, (some 0)), some (enc passed_1, (some 2)), none, none]) (sp_set (re_to (re_lstK (v := (⟨links_0, districts_0⟩ : (H2 (List (T3 Int Int Int)) (List Int)))) rfl (Nat.le_of_ble_eq_true rfl) (ra_k (re_list (re_var0 rfl)) (ra_k (re_list (re_var0 rfl)) ra_nil)) ⟨_, (.head _), rfl⟩) hpassed_1) rfl) ?_
  obtain ⟨told_1, htold_1, h⟩ := bnd h
  refine sp_seq (S' := [some (enc size_0, (some 0)), some (enc links_0, (some 0)), some (enc districts_0, (some 0)), some (enc passed_1, none), some (enc told_1, (some 2)), none]) (sp_set (re_callE (x_coarsest htold_1) rfl (ra_n (re_varS rfl) (ra_n (re_hixE (v := passed_1.a) rfl ix_0 (re_varN rfl)) (ra_n (re_hixE (v := passed_1.b) rfl ix_1 (re_varN rfl)) ra_nil)))) rfl) ?_
  rcases tif h with ⟨hb, h⟩ | ⟨hb, h⟩
  · refine sp_ifs_t (rt_or (rt_test (re_ne (by decide) (re_varN rfl) (re_lst0 (v := (⟨links_0, districts_0⟩ : (H2 (List (T3 Int Int Int)) (List Int)))) rfl (Nat.le_of_ble_eq_true rfl) (ra_k (re_var0 rfl) (ra_k (re_var0 rfl) ra_nil))))) (rt_or (rt_not (rt_test (re_isi (p := true) rfl (re_varN rfl)))) (rt_test (re_ne (by decide) (re_lenT (n := (2 : Int)) rfl rfl (re_varN rfl)) (re_c (x := (2 : Int)) rfl))))) hb ?_
    have h := Option.some.inj h; subst h
    exact (sp_seqR (prt_optN (τ := (List Int)) (sp_retNK (m := 1))))
  · refine sp_ifs_f (rt_or (rt_test (re_ne (by decide) (re_varN rfl) (re_lst0 (v := (⟨links_0, districts_0⟩ : (H2 (List (T3 Int Int Int)) (List Int)))) rfl (Nat.le_of_ble_eq_true rfl) (ra_k (re_var0 rfl) (ra_k (re_var0 rfl) ra_nil))))) (rt_or (rt_not (rt_test (re_isi (p := true) rfl (re_varN rfl)))) (rt_test (re_ne (by decide) (re_lenT (n := (2 : Int)) rfl rfl (re_varN rfl)) (re_c (x := (2 : Int)) rfl))))) hb ?_
    refine sp_nil ?_
    rcases tif h with ⟨hb, h⟩ | ⟨hb, h⟩
    · refine sp_ifs_t (rt_or (rt_not (rt_test (re_isi (p := true) rfl (re_tixE (v := told_1.a) rfl ix_0 (re_varN rfl))))) (rt_test (re_ne (by decide) (re_lenL (re_tixE (v := told_1.a) rfl ix_0 (re_varN rfl))) (re_varS rfl)))) hb ?_
      have h := Option.some.inj h; subst h
      exact (sp_seqR (prt_optN (τ := (List Int)) (sp_retNK (m := 1))))
    · refine sp_ifs_f (rt_or (rt_not (rt_test (re_isi (p := true) rfl (re_tixE (v := told_1.a) rfl ix_0 (re_varN rfl))))) (rt_test (re_ne (by decide) (re_lenL (re_tixE (v := told_1.a) rfl ix_0 (re_varN rfl))) (re_varS rfl)))) hb ?_
      refine sp_nil ?_
      obtain ⟨o_1, ho_1, h⟩ := bnd h
      refine sp_forCs (Sf := fun (s_1 : Unit) => [some (enc size_0, (some 0)), some (enc links_0, (some 0)), some (enc districts_0, (some 0)), some (enc passed_1, none), some (enc told_1, none), none]) (s0 := ()) (kk := (some 1)) (ri_seq (re_tixE (v := told_1.a) rfl ix_0 (re_varN rfl))) (.e (.e (.e (.e (.e (.a .nil)))))) ?_ ho_1 ?_ ?_
      · intro e_1 s_1 ctl_1 hx h
        unfold u__law_answer_1 at h
        refine ⟨[some (enc size_0, (some 0)), some (enc links_0, (some 0)), some (enc districts_0, (some 0)), some (enc passed_1, none), some (enc told_1, none), some (enc e_1, (some 0))], (bg_n rfl), ?_⟩
        obtain ⟨v2, hv2, h⟩ := bnd h
        rcases tif h with ⟨hb, h⟩ | ⟨hb, h⟩
        · refine sp_if_t (rt_or (rt_not (rt_test (re_callS (x__law_is_number hv2) rfl (ra_n (re_varS rfl) ra_nil)))) (rt_or (rt_test (re_lt (re_varS rfl) (re_c (x := (0 : Int)) rfl))) (rt_test (re_ge (re_varS rfl) (re_varS rfl))))) hb ?_
          have h := Option.some.inj h; subst h
          exact (prt_optN (τ := (List Int)) (sp_retNK (m := 1)))
        · refine sp_if_f (rt_or (rt_not (rt_test (re_callS (x__law_is_number hv2) rfl (ra_n (re_varS rfl) ra_nil)))) (rt_or (rt_test (re_lt (re_varS rfl) (re_c (x := (0 : Int)) rfl))) (rt_test (re_ge (re_varS rfl) (re_varS rfl))))) hb ?_
          refine sp_end (S' := [some (enc size_0, (some 0)), some (enc links_0, (some 0)), some (enc districts_0, (some 0)), some (enc passed_1, none), some (enc told_1, none), some (enc e_1, (some 0))]) sp_nilN ?_
          have h := Option.some.inj h; subst h
          exact plp_c (.e (.e (.e (.e (.e (.a .nil))))))
      · rintro r_1 rfl
        dsimp only at h
        have h := Option.some.inj h; subst h
        exact (prt_opt (τ := (List Int)) (sp_ret (re_list (re_tixE (v := told_1.a) rfl ix_0 (re_varN rfl)))))
      · rintro r rfl
        cases h
        exact fun _ q => q
def t__law_members (districts_0 : (List Int)) (district_0 : Int) : Option (List Int) :=
 ((zRng (districts_0.length : Int)).bind fun v1 =>
 ((zFilM (fun (x_1 : Int) => zSel (((atI districts_0 x_1).bind fun v2 =>
 some (decide (v2 = district_0)))) (some x_1)) v1).bind fun v3 =>
 ((zLst v3).bind fun v4 =>
 some v4)))
theorem x__law_members {districts_0 : (List Int)} {district_0 : Int} {r : (List Int)} (h : t__law_members districts_0 district_0 = some r) : DR (d__law_members [enc districts_0, enc district_0]) (enc r) (some 1) := by
  unfold t__law_members at h
  refine dr_fn (S0 := [some (enc districts_0, (some 0)), some (enc district_0, (some 0)), none]) rfl rfl ?_
  obtain ⟨v1, hv1, h⟩ := bnd h
  obtain ⟨v3, hv3, h⟩ := bnd h
  obtain ⟨v4, hv4, h⟩ := bnd h
  have h := Option.some.inj h; subst h
  exact (sp_ret (re_fF (dep := 0) (by decide) (.inl EncS.sc) (Sx := fun x_1 => [some (enc districts_0, (some 0)), some (enc district_0, (some 0)), some (enc x_1, (some 0))]) (ri_rng1 (re_lenL (re_var0 rfl)) hv1) (fun x_1 => (bg_n rfl)) (fun x_1 b h => by obtain ⟨v2, hv2, h⟩ := bnd h; exact rt_to (rt_test (re_eq (by decide) (re_ixF (by decide) (re_var0 rfl) (re_varS rfl) hv2) (re_varS rfl))) h) (fun x_1 y h => by exact re_to (re_varS rfl) h) hv3 hv4))
def u__law_into_1 (inside_0 : (List Int)) : (T3 Int Int Int) → (List Int) → Option (List Int) := fun e_1 s_1 =>
 (if (decide (e_1.b ∈ inside_0)) = true then ((atI s_1 e_1.a).bind fun v3 =>
 ((zStore s_1 e_1.a (v3 + e_1.c)).bind fun totals_2 =>
 some totals_2))
 else some s_1)
def t__law_into (size_0 : Int) (links_0 : (List (T3 Int Int Int))) (inside_0 : (List Int)) : Option (List Int) :=
 ((zRng size_0).bind fun v1 =>
 ((zLst (v1.map (fun (x_1 : Int) => (0 : Int)))).bind fun totals_1 =>
 ((zFor (u__law_into_1 inside_0) links_0 totals_1).bind fun r_1 =>
 some r_1)))
theorem x__law_into {size_0 : Int} {links_0 : (List (T3 Int Int Int))} {inside_0 : (List Int)} {r : (List Int)} (h : t__law_into size_0 links_0 inside_0 = some r) : DR (d__law_into [enc size_0, enc links_0, enc inside_0]) (enc r) (some 1) := by
  unfold t__law_into at h
  refine dr_fn (S0 := [some (enc size_0, (some 0)), some (enc links_0, (some 0)), some (enc inside_0, (some 0)), none, none, none, none, none]) rfl rfl ?_
  obtain ⟨v1, hv1, h⟩ := bnd h
  obtain ⟨totals_1, htotals_1, h⟩ := bnd h
  refine sp_seq (S' := [some (enc size_0, (some 0)), some (enc links_0, (some 0)), some (enc inside_0, (some 0)), some (enc totals_1, (some 1)), none, none, none, none]) (sp_set (re_pF' (dep := 0) (by decide) (.inl EncS.sc) (h := fun (x_1 : Int) => (0 : Int)) (Sx := fun x_1 => [some (enc size_0, (some 0)), some (enc links_0, (some 0)), some (enc inside_0, (some 0)), none, none, none, none, some (enc x_1, (some 0))]) (ri_rng1 (re_varS rfl) hv1) (fun x_1 => (bg_n rfl)) (fun x_1 => (re_c (x := (0 : Int)) rfl)) htotals_1) rfl) ?_
  obtain ⟨r_1, hr_1, h⟩ := bnd h
  refine sp_seq (S' := [some (enc size_0, (some 0)), some (enc links_0, (some 0)), some (enc inside_0, (some 0)), some (enc r_1, (some 1)), none, none, none, none]) (sp_for (Sf := fun (s_1 : (List Int)) => [some (enc size_0, (some 0)), some (enc links_0, (some 0)), some (enc inside_0, (some 0)), some (enc s_1, (some 1)), none, none, none, none]) (s0 := totals_1) (ri_seq (re_var0 rfl)) (.e (.e (.e (.e (.a (.a (.a (.a .nil)))))))) ?_ hr_1) ?_
  · intro e_1 s_1 ctl_1 hx h
    unfold u__law_into_1 at h
    refine ⟨[some (enc size_0, (some 0)), some (enc links_0, (some 0)), some (enc inside_0, (some 0)), some (enc s_1, (some 1)), some (enc e_1.a, (some 0)), some (enc e_1.b, (some 0)), some (enc e_1.c, (some 0)), none], (bg_t rfl rfl rfl), ?_⟩
    rcases tif h with ⟨hb, h⟩ | ⟨hb, h⟩
    · refine sp_if_t (rt_test (re_inG (by decide) (re_varS rfl) (re_var0 rfl))) hb ?_
      obtain ⟨v3, hv3, h⟩ := bnd h
      obtain ⟨totals_2, htotals_2, h⟩ := bnd h
      refine sp_end (S' := [some (enc size_0, (some 0)), some (enc links_0, (some 0)), some (enc inside_0, (some 0)), some (enc totals_2, (some 1)), some (enc e_1.a, (some 0)), some (enc e_1.b, (some 0)), some (enc e_1.c, (some 0)), none]) (sp_store (xs := s_1) rfl (re_add (re_ixF (by decide) (re_var1 rfl) (re_varS rfl) hv3) (re_varS rfl)) (re_varS rfl) (by decide) (.inl ⟨rfl, rfl⟩) htotals_2 rfl) ?_
      have h := Option.some.inj h; subst h
      exact pgo_c (.e (.e (.e (.e (.a (.a (.a (.a .nil))))))))
    · refine sp_if_f (rt_test (re_inG (by decide) (re_varS rfl) (re_var0 rfl))) hb ?_
      refine sp_end (S' := [some (enc size_0, (some 0)), some (enc links_0, (some 0)), some (enc inside_0, (some 0)), some (enc s_1, (some 1)), some (enc e_1.a, (some 0)), some (enc e_1.b, (some 0)), some (enc e_1.c, (some 0)), none]) sp_nilN ?_
      have h := Option.some.inj h; subst h
      exact pgo_c (.e (.e (.e (.e (.a (.a (.a (.a .nil))))))))
  have h := Option.some.inj h; subst h
  exact (sp_retV (v := r_1) rfl)
def u__law_is_plain_1 (division_0 : (List Int)) (e_1 : Int) (totals_1 : (List Int)) : Int → Unit → Option (Ctl Unit Bool) := fun e_2 s_2 =>
 ((atI division_0 e_2).bind fun v5 =>
 ((zAnd (!decide (v5 = e_1)) (((atI totals_1 e_2).bind fun v6 =>
 ((atI division_0 e_2).bind fun v7 =>
 ((zIndex division_0 v7).bind fun v8 =>
 ((atI totals_1 v8).bind fun v9 =>
 some (!decide (v6 = v9)))))))).bind fun v10 =>
 (if v10 = true then some (.ret false)
 else some (.go ()))))
def u__law_is_plain_2 (size_0 : Int) (links_0 : (List (T3 Int Int Int))) (division_0 : (List Int)) : Int → Unit → Option (Ctl Unit Bool) := fun e_1 s_1 =>
 ((t__law_members division_0 e_1).bind fun v2 =>
 ((t__law_into size_0 links_0 v2).bind fun totals_1 =>
 ((zRng size_0).bind fun v4 =>
 ((zForC (u__law_is_plain_1 division_0 e_1 totals_1) v4 ()).bind fun o_1 =>
 (match o_1 with
 | .inl r_1 => some (.go ())
 | .inr r => some (.ret r))))))
def t__law_is_plain (size_0 : Int) (links_0 : (List (T3 Int Int Int))) (division_0 : (List Int)) : Option Bool :=
 ((zSortSetI division_0).bind fun v1 =>
 ((zForC (u__law_is_plain_2 size_0 links_0 division_0) v1 ()).bind fun o_2 =>
 (match o_2 with
 | .inl r_2 => some true
 | .inr r => some r)))
theorem x__law_is_plain {size_0 : Int} {links_0 : (List (T3 Int Int Int))} {division_0 : (List Int)} {r : Bool} (h : t__law_is_plain size_0 links_0 division_0 = some r) : DR (d__law_is_plain [enc size_0, enc links_0, enc division_0]) (enc r) none := by
  unfold t__law_is_plain at h
  refine dr_fn (S0 := [some (enc size_0, (some 0)), some (enc links_0, (some 0)), some (enc division_0, (some 0)), none, none, none]) rfl rfl ?_
  obtain ⟨v1, hv1, h⟩ := bnd h
  obtain ⟨o_2, ho_2, h⟩ := bnd h
  refine sp_forCs (Sf := fun (s_1 : Unit) => [some (enc size_0, (some 0)), some (enc links_0, (some 0)), some (enc division_0, (some 0)), none, none, none]) (s0 := ()) (kk := none) (ri_seq (re_zSortSetI (re_var0 rfl) hv1)) (.e (.e (.e (.a (.a (.a .nil)))))) ?_ ho_2 ?_ ?_
  · intro e_1 s_1 ctl_2 hx h
    unfold u__law_is_plain_2 at h
    refine ⟨[some (enc size_0, (some 0)), some (enc links_0, (some 0)), some (enc division_0, (some 0)), some (enc e_1, (some 0)), none, none], (bg_n rfl), ?_⟩
    obtain ⟨v2, hv2, h⟩ := bnd h
    obtain ⟨totals_1, htotals_1, h⟩ := bnd h
    refine sp_seq (S' := [some (enc size_0, (some 0)), some (enc links_0, (some 0)), some (enc division_0, (some 0)), some (enc e_1, (some 0)), some (enc totals_1, (some 1)), none]) (sp_set (re_callF (by decide) (x__law_into htotals_1) rfl (ra_n (re_varS rfl) (ra_n (re_var0 rfl) (ra_n (re_callF (by decide) (x__law_members hv2) rfl (ra_n (re_var0 rfl) (ra_n (re_varS rfl) ra_nil))) ra_nil)))) rfl) ?_
    obtain ⟨v4, hv4, h⟩ := bnd h
    obtain ⟨o_1, ho_1, h⟩ := bnd h
    refine sp_forCl (Sf := fun (s_2 : Unit) => [some (enc size_0, (some 0)), some (enc links_0, (some 0)), some (enc division_0, (some 0)), some (enc e_1, (some 0)), some (enc totals_1, (some 1)), none]) (s0 := ()) (kk := none) (ri_rng1 (re_varS rfl) hv4) (.e (.e (.e (.e (.e (.a .nil)))))) ?_ ho_1 ?_ ?_
    · intro e_2 s_2 ctl_2 hx h
      unfold u__law_is_plain_1 at h
      refine ⟨[some (enc size_0, (some 0)), some (enc links_0, (some 0)), some (enc division_0, (some 0)), some (enc e_1, (some 0)), some (enc totals_1, (some 1)), some (enc e_2, (some 0))], (bg_n rfl), ?_⟩
      obtain ⟨v5, hv5, h⟩ := bnd h
      obtain ⟨v10, hv10, h⟩ := bnd h
      rcases tif h with ⟨hb, h⟩ | ⟨hb, h⟩
      · refine sp_if_t (rt_andM (rt_test (re_ne (by decide) (re_ixF (by decide) (re_var0 rfl) (re_varS rfl) hv5) (re_varS rfl))) (fun q h => by obtain ⟨v6, hv6, h⟩ := bnd h; obtain ⟨v7, hv7, h⟩ := bnd h; obtain ⟨v8, hv8, h⟩ := bnd h; obtain ⟨v9, hv9, h⟩ := bnd h; exact rt_to (rt_test (re_ne (by decide) (re_ixF (by decide) (re_var1 rfl) (re_varS rfl) hv6) (re_ixF (by decide) (re_var1 rfl) (re_index (by decide) (re_var0 rfl) (re_ixF (by decide) (re_var0 rfl) (re_varS rfl) hv7) hv8) hv9))) h) hv10) hb ?_
        have h := Option.some.inj h; subst h
        exact (prt_w (sp_ret (re_c (x := false) rfl)))
      · refine sp_if_f (rt_andM (rt_test (re_ne (by decide) (re_ixF (by decide) (re_var0 rfl) (re_varS rfl) hv5) (re_varS rfl))) (fun q h => by obtain ⟨v6, hv6, h⟩ := bnd h; obtain ⟨v7, hv7, h⟩ := bnd h; obtain ⟨v8, hv8, h⟩ := bnd h; obtain ⟨v9, hv9, h⟩ := bnd h; exact rt_to (rt_test (re_ne (by decide) (re_ixF (by decide) (re_var1 rfl) (re_varS rfl) hv6) (re_ixF (by decide) (re_var1 rfl) (re_index (by decide) (re_var0 rfl) (re_ixF (by decide) (re_var0 rfl) (re_varS rfl) hv7) hv8) hv9))) h) hv10) hb ?_
        refine sp_end (S' := [some (enc size_0, (some 0)), some (enc links_0, (some 0)), some (enc division_0, (some 0)), some (enc e_1, (some 0)), some (enc totals_1, (some 1)), some (enc e_2, (some 0))]) sp_nilN ?_
        have h := Option.some.inj h; subst h
        exact plp_c (.e (.e (.e (.e (.e (.a .nil))))))
    · rintro r_1 rfl
      dsimp only at h
      have h := Option.some.inj h; subst h
      exact plp_c (.e (.e (.e (.a (.a (.a .nil))))))
    · rintro r rfl
      cases h
      exact fun _ q => q
  · rintro r_2 rfl
    dsimp only at h
    have h := Option.some.inj h; subst h
    exact (prt_w (sp_ret (re_c (x := true) rfl)))
  · rintro r rfl
    cases h
    exact fun _ q => q
def u__law_finer_1 (first_0 : (List Int)) (second_0 : (List Int)) : Int → Unit → Option (Ctl Unit Bool) := fun e_1 s_1 =>
 ((atI second_0 e_1).bind fun v2 =>
 ((atI first_0 e_1).bind fun v3 =>
 ((zIndex first_0 v3).bind fun v4 =>
 ((atI second_0 v4).bind fun v5 =>
 (if (!decide (v2 = v5)) = true then some (.ret false)
 else some (.go ()))))))
def t__law_finer (first_0 : (List Int)) (second_0 : (List Int)) : Option Bool :=
 ((zRng (first_0.length : Int)).bind fun v1 =>
 ((zForC (u__law_finer_1 first_0 second_0) v1 ()).bind fun o_1 =>
 (match o_1 with
 | .inl r_1 => some true
 | .inr r => some r)))
theorem x__law_finer {first_0 : (List Int)} {second_0 : (List Int)} {r : Bool} (h : t__law_finer first_0 second_0 = some r) : DR (d__law_finer [enc first_0, enc second_0]) (enc r) none := by
  unfold t__law_finer at h
  refine dr_fn (S0 := [some (enc first_0, (some 0)), some (enc second_0, (some 0)), none]) rfl rfl ?_
  obtain ⟨v1, hv1, h⟩ := bnd h
  obtain ⟨o_1, ho_1, h⟩ := bnd h
  refine sp_forCs (Sf := fun (s_1 : Unit) => [some (enc first_0, (some 0)), some (enc second_0, (some 0)), none]) (s0 := ()) (kk := none) (ri_rng1 (re_lenL (re_var0 rfl)) hv1) (.e (.e (.a .nil))) ?_ ho_1 ?_ ?_
  · intro e_1 s_1 ctl_1 hx h
    unfold u__law_finer_1 at h
    refine ⟨[some (enc first_0, (some 0)), some (enc second_0, (some 0)), some (enc e_1, (some 0))], (bg_n rfl), ?_⟩
    obtain ⟨v2, hv2, h⟩ := bnd h
    obtain ⟨v3, hv3, h⟩ := bnd h
    obtain ⟨v4, hv4, h⟩ := bnd h
    obtain ⟨v5, hv5, h⟩ := bnd h
    rcases tif h with ⟨hb, h⟩ | ⟨hb, h⟩
    · refine sp_if_t (rt_test (re_ne (by decide) (re_ixF (by decide) (re_var0 rfl) (re_varS rfl) hv2) (re_ixF (by decide) (re_var0 rfl) (re_index (by decide) (re_var0 rfl) (re_ixF (by decide) (re_var0 rfl) (re_varS rfl) hv3) hv4) hv5))) hb ?_
      have h := Option.some.inj h; subst h
      exact (prt_w (sp_ret (re_c (x := false) rfl)))
    · refine sp_if_f (rt_test (re_ne (by decide) (re_ixF (by decide) (re_var0 rfl) (re_varS rfl) hv2) (re_ixF (by decide) (re_var0 rfl) (re_index (by decide) (re_var0 rfl) (re_ixF (by decide) (re_var0 rfl) (re_varS rfl) hv3) hv4) hv5))) hb ?_
      refine sp_end (S' := [some (enc first_0, (some 0)), some (enc second_0, (some 0)), some (enc e_1, (some 0))]) sp_nilN ?_
      have h := Option.some.inj h; subst h
      exact plp_c (.e (.e (.a .nil)))
  · rintro r_1 rfl
    dsimp only at h
    have h := Option.some.inj h; subst h
    exact (prt_w (sp_ret (re_c (x := true) rfl)))
  · rintro r rfl
    cases h
    exact fun _ q => q
def u__law_divisions_1 : (List Int) → (List (List Int)) → Option (List (List Int)) := fun e_2 s_2 =>
 ((zMax e_2).bind fun v2 =>
 ((zRng (v2 + (2 : Int))).bind fun v3 =>
 ((zMapM (fun (x_1 : Int) => ((zLst (e_2 ++ ([x_1] : (List Int)))).bind fun v4 =>
 some v4)) v3).bind fun v5 =>
 ((zLst v5).bind fun v6 =>
 ((zLst (s_2 ++ v6)).bind fun longer_2 =>
 some longer_2)))))
def u__law_divisions_2 : Int → (List (List Int)) → Option (List (List Int)) := fun e_1 s_1 =>
 ((some ([] : (List (List Int)))).bind fun longer_1 =>
 ((zFor u__law_divisions_1 s_1 longer_1).bind fun r_1 =>
 ((some r_1).bind fun found_2 =>
 some found_2)))
def t__law_divisions (size_0 : Int) : Option (List (List Int)) :=
 ((some ([([(0 : Int)] : (List Int))] : (List (List Int)))).bind fun found_1 =>
 ((zRng2 (1 : Int) size_0).bind fun v1 =>
 ((zFor u__law_divisions_2 v1 found_1).bind fun r_2 =>
 some r_2)))
theorem x__law_divisions {size_0 : Int} {r : (List (List Int))} (h : t__law_divisions size_0 = some r) : DR (d__law_divisions [enc size_0]) (enc r) none := by
  unfold t__law_divisions at h
  refine dr_fn (S0 := [some (enc size_0, (some 0)), none, none, none, none, none]) rfl rfl ?_
  obtain ⟨found_1, hfound_1, h⟩ := bnd h
  refine sp_seq (S' := [some (enc size_0, (some 0)), some (enc found_1, (some 2)), none, none, none, none]) (sp_set (re_to (re_lstK (v := ([([(0 : Int)] : (List Int))] : (List (List Int)))) rfl (Nat.le_of_ble_eq_true rfl) (ra_k (re_lst0 (v := ([(0 : Int)] : (List Int))) rfl (Nat.le_of_ble_eq_true rfl) (ra_s (re_c (x := (0 : Int)) rfl) ra_nil)) ra_nil) ⟨_, (.head _), rfl⟩) hfound_1) rfl) ?_
  obtain ⟨v1, hv1, h⟩ := bnd h
  obtain ⟨r_2, hr_2, h⟩ := bnd h
  refine sp_seq (S' := [some (enc size_0, (some 0)), some (enc r_2, none), none, none, none, none]) (sp_for (Sf := fun (s_1 : (List (List Int))) => [some (enc size_0, (some 0)), some (enc s_1, none), none, none, none, none]) (s0 := found_1) (ri_rng2 (re_c (x := (1 : Int)) rfl) (re_varS rfl) hv1) (.e (.w (.a (.a (.a (.a .nil)))))) ?_ hr_2) ?_
  · intro e_1 s_1 ctl_2 hx h
    unfold u__law_divisions_2 at h
    refine ⟨[some (enc size_0, (some 0)), some (enc s_1, none), some (enc e_1, (some 0)), none, none, none], (bg_n rfl), ?_⟩
    obtain ⟨longer_1, hlonger_1, h⟩ := bnd h
    refine sp_seq (S' := [some (enc size_0, (some 0)), some (enc s_1, none), some (enc e_1, (some 0)), some (enc longer_1, (some 1)), none, none]) (sp_set (re_to (re_nil (dep := 0)) hlonger_1) rfl) ?_
    obtain ⟨r_1, hr_1, h⟩ := bnd h
    refine sp_seq (S' := [some (enc size_0, (some 0)), some (enc s_1, none), some (enc e_1, (some 0)), some (enc r_1, (some 1)), none, none]) (sp_for (Sf := fun (s_2 : (List (List Int))) => [some (enc size_0, (some 0)), some (enc s_1, none), some (enc e_1, (some 0)), some (enc s_2, (some 1)), none, none]) (s0 := longer_1) (ri_seq (re_varN rfl)) (.e (.e (.e (.e (.a (.a .nil)))))) ?_ hr_1) ?_
    · intro e_2 s_2 ctl_2 hx h
      unfold u__law_divisions_1 at h
      refine ⟨[some (enc size_0, (some 0)), some (enc s_1, none), some (enc e_1, (some 0)), some (enc s_2, (some 1)), some (enc e_2, (some 0)), none], (bg_n rfl), ?_⟩
      obtain ⟨v2, hv2, h⟩ := bnd h
      obtain ⟨v3, hv3, h⟩ := bnd h
      obtain ⟨v5, hv5, h⟩ := bnd h
      obtain ⟨v6, hv6, h⟩ := bnd h
      obtain ⟨longer_2, hlonger_2, h⟩ := bnd h
      refine sp_end (S' := [some (enc size_0, (some 0)), some (enc s_1, none), some (enc e_1, (some 0)), some (enc longer_2, (some 1)), some (enc e_2, (some 0)), none]) (sp_set (re_cat (re_var1 rfl) (re_mF (dep := 1) (by decide) (.inr rfl) (Sx := fun x_1 => [some (enc size_0, (some 0)), some (enc s_1, none), some (enc e_1, (some 0)), some (enc s_2, (some 1)), some (enc e_2, (some 0)), some (enc x_1, (some 0))]) (ri_rng1 (re_add (re_max (re_var0 rfl) hv2) (re_c (x := (2 : Int)) rfl)) hv3) (fun x_1 => (bg_n rfl)) (fun x_1 y h => by obtain ⟨v4, hv4, h⟩ := bnd h; exact re_to (re_cat (re_var0 rfl) (re_lst0 (v := ([x_1] : (List Int))) rfl (Nat.le_of_ble_eq_true rfl) (ra_s (re_varS rfl) ra_nil)) hv4) h) hv5 hv6) hlonger_2) rfl) ?_
      have h := Option.some.inj h; subst h
      exact pgo_c (.e (.e (.e (.e (.a (.a .nil))))))
    obtain ⟨found_2, hfound_2, h⟩ := bnd h
    refine sp_end (S' := [some (enc size_0, (some 0)), some (enc found_2, (some 0)), some (enc e_1, (some 0)), some (enc r_1, none), none, none]) (sp_set (re_to (re_var1 rfl) hfound_2) rfl) ?_
    have h := Option.some.inj h; subst h
    exact pgo_c (.e (.w (.a (.a (.a (.a .nil))))))
  have h := Option.some.inj h; subst h
  exact (prt_w (sp_retV (v := r_2) rfl))
def u_law_1 (v1 : (T3 Int (List (T3 Int Int Int)) (List Int))) (answer_1 : (Option (List Int))) : (List Int) → Unit → Option (Ctl Unit Bool) := fun e_1 s_1 =>
 ((t__law_finer e_1 v1.c).bind fun v10 =>
 ((zAnd v10 (((answer_1).bind fun v11 =>
 ((t__law_finer e_1 v11).bind fun v12 =>
 ((zAnd (!v12) (((t__law_is_plain v1.a v1.b e_1).bind fun v13 =>
 some v13))).bind fun v14 =>
 some v14))))).bind fun v15 =>
 (if v15 = true then some (.ret false)
 else some (.go ()))))
def t_law (L : List Int) : Option Bool :=
 ((some L).bind fun draws_1 =>
 ((t__law_case draws_1).bind fun v1 =>
 ((t__law_answer v1.a v1.b v1.c).bind fun answer_1 =>
 ((zOr answer_1.isNone (((answer_1).bind fun v3 =>
 ((t__law_is_plain v1.a v1.b v3).bind fun v4 =>
 ((zOr (!v4) (((answer_1).bind fun v5 =>
 ((t__law_finer v5 v1.c).bind fun v6 =>
 some (!v6))))).bind fun v7 =>
 some v7))))).bind fun v8 =>
 (if v8 = true then some false
 else ((t__law_divisions v1.a).bind fun v9 =>
 ((zForC (u_law_1 v1 answer_1) v9 ()).bind fun o_1 =>
 (match o_1 with
 | .inl r_1 => ((answer_1).bind fun v16 =>
 ((t__law_answer v1.a v1.b v16).bind fun v17 =>
 (if (!decide (v17 = answer_1)) = true then some false
 else ((zRng v1.a).bind fun v18 =>
 ((zMapM (fun (x_1 : Int) => ((atI v1.c x_1).bind fun v19 =>
 ((zIndex v1.c v19).bind fun v20 =>
 ((zMul (2 : Int) v20).bind fun v21 =>
 ((atI draws_1 (40 : Int)).bind fun v22 =>
 ((zDiv v22 (x_1 + (1 : Int))).bind fun v23 =>
 ((zMod v23 (2 : Int)).bind fun v24 =>
 some (v21 + v24)))))))) v18).bind fun v25 =>
 ((zLst v25).bind fun halves_1 =>
 ((t__law_answer v1.a v1.b halves_1).bind fun other_1 =>
 ((zOr other_1.isNone (((other_1).bind fun v28 =>
 ((t__law_finer v28 halves_1).bind fun v29 =>
 ((zOr (!v29) (((other_1).bind fun v30 =>
 ((answer_1).bind fun v31 =>
 ((t__law_finer v30 v31).bind fun v32 =>
 some (!v32)))))).bind fun v33 =>
 some v33))))).bind fun v34 =>
 (if v34 = true then some false
 else ((zRng v1.a).bind fun v35 =>
 ((zLst (v35.map (fun (x_2 : Int) => (39 : Int)))).bind fun v36 =>
 ((t__law_answer v1.a v1.b v36).bind fun whole_1 =>
 ((zRng v1.a).bind fun v38 =>
 ((zLst (v38.map (fun (x_3 : Int) => (0 : Int)))).bind fun v39 =>
 some (decide (whole_1 = (some v39)))))))))))))))))
 | .inr r => some r))))))))
theorem x_law {K : PySem.W.Frag} {d : D} {L : List Int} {r : Bool} (hL : DR (d__law_draws K [enc d, enc (44 : Int)]) (enc L) (some 1)) (h : t_law L = some r) : DR ((d_law K) [enc d]) (enc r) none := by
  unfold t_law at h
  refine dr_fn (S0 := [some (enc d, (some 0)), none, none, none, none, none, none, none, none, none, none]) rfl rfl ?_
  obtain ⟨draws_1, hdraws_1, h⟩ := bnd h
  refine sp_seq (S' := [some (enc d, (some 0)), some (enc draws_1, (some 1)), none, none, none, none, none, none, none, none, none]) (sp_set (re_to (re_callF (v := L) (by decide) hL rfl (ra_n (re_var0 rfl) (ra_n (re_c (x := (44 : Int)) rfl) ra_nil))) hdraws_1) rfl) ?_
  obtain ⟨v1, hv1, h⟩ := bnd h
  refine sp_seq (S' := [some (enc d, (some 0)), some (enc draws_1, (some 1)), some (enc v1.a, (some 1)), some (enc v1.b, (some 1)), some (enc v1.c, (some 1)), none, none, none, none, none, none]) (sp_setT (v := v1) rfl rfl (re_callF (by decide) (x__law_case hv1) rfl (ra_n (re_var1 rfl) ra_nil)) rfl) ?_
  obtain ⟨answer_1, hanswer_1, h⟩ := bnd h
  refine sp_seq (S' := [some (enc d, (some 0)), some (enc draws_1, (some 1)), some (enc v1.a, (some 1)), some (enc v1.b, (some 1)), some (enc v1.c, (some 1)), some (enc answer_1, (some 1)), none, none, none, none, none]) (sp_set (re_callF (by decide) (x__law_answer hanswer_1) rfl (ra_n (re_varS rfl) (ra_n (re_var1 rfl) (ra_n (re_var1 rfl) ra_nil)))) rfl) ?_
  obtain ⟨v8, hv8, h⟩ := bnd h
  rcases tif h with ⟨hb, h⟩ | ⟨hb, h⟩
  · refine sp_ifs_t (rt_orM (rt_test (re_isNo (re_var1 rfl))) (fun q h => by obtain ⟨v3, hv3, h⟩ := bnd h; obtain ⟨v4, hv4, h⟩ := bnd h; obtain ⟨v7, hv7, h⟩ := bnd h; exact rt_to (rt_orM (rt_not (rt_test (re_callS (x__law_is_plain hv4) rfl (ra_n (re_varS rfl) (ra_n (re_var1 rfl) (ra_n (re_get hv3 (re_var1 rfl)) ra_nil)))))) (fun q h => by obtain ⟨v5, hv5, h⟩ := bnd h; obtain ⟨v6, hv6, h⟩ := bnd h; exact rt_to (rt_not (rt_test (re_callS (x__law_finer hv6) rfl (ra_n (re_get hv5 (re_var1 rfl)) (ra_n (re_var1 rfl) ra_nil))))) h) hv7) h) hv8) hb ?_
    have h := Option.some.inj h; subst h
    exact (sp_seqR (prt_w (sp_ret (re_c (x := false) rfl))))
  · refine sp_ifs_f (rt_orM (rt_test (re_isNo (re_var1 rfl))) (fun q h => by obtain ⟨v3, hv3, h⟩ := bnd h; obtain ⟨v4, hv4, h⟩ := bnd h; obtain ⟨v7, hv7, h⟩ := bnd h; exact rt_to (rt_orM (rt_not (rt_test (re_callS (x__law_is_plain hv4) rfl (ra_n (re_varS rfl) (ra_n (re_var1 rfl) (ra_n (re_get hv3 (re_var1 rfl)) ra_nil)))))) (fun q h => by obtain ⟨v5, hv5, h⟩ := bnd h; obtain ⟨v6, hv6, h⟩ := bnd h; exact rt_to (rt_not (rt_test (re_callS (x__law_finer hv6) rfl (ra_n (re_get hv5 (re_var1 rfl)) (ra_n (re_var1 rfl) ra_nil))))) h) hv7) h) hv8) hb ?_
    refine sp_nil ?_
    obtain ⟨v9, hv9, h⟩ := bnd h
    obtain ⟨o_1, ho_1, h⟩ := bnd h
    refine sp_forCs (Sf := fun (s_1 : Unit) => [some (enc d, (some 0)), some (enc draws_1, (some 1)), some (enc v1.a, (some 1)), some (enc v1.b, (some 1)), some (enc v1.c, (some 1)), some (enc answer_1, (some 1)), none, none, none, none, none]) (s0 := ()) (kk := none) (ri_seq (re_callE (x__law_divisions hv9) rfl (ra_n (re_varS rfl) ra_nil))) (.e (.e (.e (.e (.e (.e (.a (.a (.a (.a (.a .nil))))))))))) ?_ ho_1 ?_ ?_
    · intro e_1 s_1 ctl_1 hx h
      unfold u_law_1 at h
      refine ⟨[some (enc d, (some 0)), some (enc draws_1, (some 1)), some (enc v1.a, (some 1)), some (enc v1.b, (some 1)), some (enc v1.c, (some 1)), some (enc answer_1, (some 1)), some (enc e_1, (some 0)), none, none, none, none], (bg_n rfl), ?_⟩
      obtain ⟨v10, hv10, h⟩ := bnd h
      obtain ⟨v15, hv15, h⟩ := bnd h
      rcases tif h with ⟨hb, h⟩ | ⟨hb, h⟩
      · refine sp_if_t (rt_andM (rt_test (re_callS (x__law_finer hv10) rfl (ra_n (re_var0 rfl) (ra_n (re_var1 rfl) ra_nil)))) (fun q h => by obtain ⟨v11, hv11, h⟩ := bnd h; obtain ⟨v12, hv12, h⟩ := bnd h; obtain ⟨v14, hv14, h⟩ := bnd h; exact rt_to (rt_andM (rt_not (rt_test (re_callS (x__law_finer hv12) rfl (ra_n (re_var0 rfl) (ra_n (re_get hv11 (re_var1 rfl)) ra_nil))))) (fun q h => by obtain ⟨v13, hv13, h⟩ := bnd h; exact rt_to (rt_test (re_callS (x__law_is_plain hv13) rfl (ra_n (re_varS rfl) (ra_n (re_var1 rfl) (ra_n (re_var0 rfl) ra_nil))))) h) hv14) h) hv15) hb ?_
        have h := Option.some.inj h; subst h
        exact (prt_w (sp_ret (re_c (x := false) rfl)))
      · refine sp_if_f (rt_andM (rt_test (re_callS (x__law_finer hv10) rfl (ra_n (re_var0 rfl) (ra_n (re_var1 rfl) ra_nil)))) (fun q h => by obtain ⟨v11, hv11, h⟩ := bnd h; obtain ⟨v12, hv12, h⟩ := bnd h; obtain ⟨v14, hv14, h⟩ := bnd h; exact rt_to (rt_andM (rt_not (rt_test (re_callS (x__law_finer hv12) rfl (ra_n (re_var0 rfl) (ra_n (re_get hv11 (re_var1 rfl)) ra_nil))))) (fun q h => by obtain ⟨v13, hv13, h⟩ := bnd h; exact rt_to (rt_test (re_callS (x__law_is_plain hv13) rfl (ra_n (re_varS rfl) (ra_n (re_var1 rfl) (ra_n (re_var0 rfl) ra_nil))))) h) hv14) h) hv15) hb ?_
        refine sp_end (S' := [some (enc d, (some 0)), some (enc draws_1, (some 1)), some (enc v1.a, (some 1)), some (enc v1.b, (some 1)), some (enc v1.c, (some 1)), some (enc answer_1, (some 1)), some (enc e_1, (some 0)), none, none, none, none]) sp_nilN ?_
        have h := Option.some.inj h; subst h
        exact plp_c (.e (.e (.e (.e (.e (.e (.a (.a (.a (.a (.a .nil)))))))))))
    · rintro r_1 rfl
      dsimp only at h
      obtain ⟨v16, hv16, h⟩ := bnd h
      obtain ⟨v17, hv17, h⟩ := bnd h
      rcases tif h with ⟨hb, h⟩ | ⟨hb, h⟩
      · refine sp_ifs_t (rt_test (re_ne (by decide) (re_callF (by decide) (x__law_answer hv17) rfl (ra_n (re_varS rfl) (ra_n (re_var1 rfl) (ra_n (re_get hv16 (re_var1 rfl)) ra_nil)))) (re_var1 rfl))) hb ?_
        have h := Option.some.inj h; subst h
        exact (sp_seqR (prt_w (sp_ret (re_c (x := false) rfl))))
      · refine sp_ifs_f (rt_test (re_ne (by decide) (re_callF (by decide) (x__law_answer hv17) rfl (ra_n (re_varS rfl) (ra_n (re_var1 rfl) (ra_n (re_get hv16 (re_var1 rfl)) ra_nil)))) (re_var1 rfl))) hb ?_
        refine sp_nil ?_
        obtain ⟨v18, hv18, h⟩ := bnd h
        obtain ⟨v25, hv25, h⟩ := bnd h
        obtain ⟨halves_1, hhalves_1, h⟩ := bnd h
        refine sp_seq (S' := [some (enc d, (some 0)), some (enc draws_1, (some 1)), some (enc v1.a, (some 1)), some (enc v1.b, (some 1)), some (enc v1.c, (some 1)), some (enc answer_1, (some 1)), none, some (enc halves_1, (some 1)), none, none, none]) (sp_set (re_mF (dep := 0) (by decide) (.inl EncS.sc) (Sx := fun x_1 => [some (enc d, (some 0)), some (enc draws_1, (some 1)), some (enc v1.a, (some 1)), some (enc v1.b, (some 1)), some (enc v1.c, (some 1)), some (enc answer_1, (some 1)), none, none, none, none, some (enc x_1, (some 0))]) (ri_rng1 (re_varS rfl) hv18) (fun x_1 => (bg_n rfl)) (fun x_1 y h => by obtain ⟨v19, hv19, h⟩ := bnd h; obtain ⟨v20, hv20, h⟩ := bnd h; obtain ⟨v21, hv21, h⟩ := bnd h; obtain ⟨v22, hv22, h⟩ := bnd h; obtain ⟨v23, hv23, h⟩ := bnd h; obtain ⟨v24, hv24, h⟩ := bnd h; exact re_to (re_add (re_mul (re_c (x := (2 : Int)) rfl) (re_index (by decide) (re_var1 rfl) (re_ixF (by decide) (re_var1 rfl) (re_varS rfl) hv19) hv20) hv21) (re_mod (re_div (re_ixF (by decide) (re_var1 rfl) (re_c (x := (40 : Int)) rfl) hv22) (re_add (re_varS rfl) (re_c (x := (1 : Int)) rfl)) hv23) (re_c (x := (2 : Int)) rfl) hv24)) h) hv25 hhalves_1) rfl) ?_
        obtain ⟨other_1, hother_1, h⟩ := bnd h
        refine sp_seq (S' := [some (enc d, (some 0)), some (enc draws_1, (some 1)), some (enc v1.a, (some 1)), some (enc v1.b, (some 1)), some (enc v1.c, (some 1)), some (enc answer_1, (some 1)), none, some (enc halves_1, (some 1)), some (enc other_1, (some 1)), none, none]) (sp_set (re_callF (by decide) (x__law_answer hother_1) rfl (ra_n (re_varS rfl) (ra_n (re_var1 rfl) (ra_n (re_var1 rfl) ra_nil)))) rfl) ?_
        obtain ⟨v34, hv34, h⟩ := bnd h
        rcases tif h with ⟨hb, h⟩ | ⟨hb, h⟩
        · refine sp_ifs_t (rt_orM (rt_test (re_isNo (re_var1 rfl))) (fun q h => by obtain ⟨v28, hv28, h⟩ := bnd h; obtain ⟨v29, hv29, h⟩ := bnd h; obtain ⟨v33, hv33, h⟩ := bnd h; exact rt_to (rt_orM (rt_not (rt_test (re_callS (x__law_finer hv29) rfl (ra_n (re_get hv28 (re_var1 rfl)) (ra_n (re_var1 rfl) ra_nil))))) (fun q h => by obtain ⟨v30, hv30, h⟩ := bnd h; obtain ⟨v31, hv31, h⟩ := bnd h; obtain ⟨v32, hv32, h⟩ := bnd h; exact rt_to (rt_not (rt_test (re_callS (x__law_finer hv32) rfl (ra_n (re_get hv30 (re_var1 rfl)) (ra_n (re_get hv31 (re_var1 rfl)) ra_nil))))) h) hv33) h) hv34) hb ?_
          have h := Option.some.inj h; subst h
          exact (sp_seqR (prt_w (sp_ret (re_c (x := false) rfl))))
        · refine sp_ifs_f (rt_orM (rt_test (re_isNo (re_var1 rfl))) (fun q h => by obtain ⟨v28, hv28, h⟩ := bnd h; obtain ⟨v29, hv29, h⟩ := bnd h; obtain ⟨v33, hv33, h⟩ := bnd h; exact rt_to (rt_orM (rt_not (rt_test (re_callS (x__law_finer hv29) rfl (ra_n (re_get hv28 (re_var1 rfl)) (ra_n (re_var1 rfl) ra_nil))))) (fun q h => by obtain ⟨v30, hv30, h⟩ := bnd h; obtain ⟨v31, hv31, h⟩ := bnd h; obtain ⟨v32, hv32, h⟩ := bnd h; exact rt_to (rt_not (rt_test (re_callS (x__law_finer hv32) rfl (ra_n (re_get hv30 (re_var1 rfl)) (ra_n (re_get hv31 (re_var1 rfl)) ra_nil))))) h) hv33) h) hv34) hb ?_
          refine sp_nil ?_
          obtain ⟨v35, hv35, h⟩ := bnd h
          obtain ⟨v36, hv36, h⟩ := bnd h
          obtain ⟨whole_1, hwhole_1, h⟩ := bnd h
          refine sp_seq (S' := [some (enc d, (some 0)), some (enc draws_1, (some 1)), some (enc v1.a, (some 1)), some (enc v1.b, (some 1)), some (enc v1.c, (some 1)), some (enc answer_1, (some 1)), none, some (enc halves_1, (some 1)), some (enc other_1, (some 1)), some (enc whole_1, (some 1)), none]) (sp_set (re_callF (by decide) (x__law_answer hwhole_1) rfl (ra_n (re_varS rfl) (ra_n (re_var1 rfl) (ra_n (re_pF' (dep := 0) (by decide) (.inl EncS.sc) (h := fun (x_2 : Int) => (39 : Int)) (Sx := fun x_2 => [some (enc d, (some 0)), some (enc draws_1, (some 1)), some (enc v1.a, (some 1)), some (enc v1.b, (some 1)), some (enc v1.c, (some 1)), some (enc answer_1, (some 1)), none, some (enc halves_1, (some 1)), some (enc other_1, (some 1)), none, some (enc x_2, (some 0))]) (ri_rng1 (re_varS rfl) hv35) (fun x_2 => (bg_n rfl)) (fun x_2 => (re_c (x := (39 : Int)) rfl)) hv36) ra_nil)))) rfl) ?_
          obtain ⟨v38, hv38, h⟩ := bnd h
          obtain ⟨v39, hv39, h⟩ := bnd h
          have h := Option.some.inj h; subst h
          exact (prt_w (sp_ret (re_eq (by decide) (re_var1 rfl) (re_opt (re_pF' (dep := 0) (by decide) (.inl EncS.sc) (h := fun (x_3 : Int) => (0 : Int)) (Sx := fun x_3 => [some (enc d, (some 0)), some (enc draws_1, (some 1)), some (enc v1.a, (some 1)), some (enc v1.b, (some 1)), some (enc v1.c, (some 1)), some (enc answer_1, (some 1)), none, some (enc halves_1, (some 1)), some (enc other_1, (some 1)), some (enc whole_1, (some 1)), some (enc x_3, (some 0))]) (ri_rng1 (re_varS rfl) hv38) (fun x_3 => (bg_n rfl)) (fun x_3 => (re_c (x := (0 : Int)) rfl)) hv39)))))
    · rintro r rfl
      cases h
      exact fun _ q => q

end Lw
/-! k88: weights into districts, faults, plain divisions -/
namespace Lw
open PySem PySem.Spec PyL L2 PyL.Enc
set_option autoImplicit false
theorem zIndex_mem {α : Type} [DecidableEq α] {x : α} : ∀ {xs : List α}, x ∈ xs → ∃ k : Nat, zIndex xs x = some (k : Int) ∧ xs[k]? = some x
  | [], h => by cases h
  | y :: xs, h => by
    by_cases q : y = x
    · refine ⟨0, ?_, by rw [q]; rfl⟩
      unfold zIndex
      rw [List.findIdx?_cons, if_pos (decide_eq_true q)]; rfl
    · obtain ⟨k, e, hk⟩ := zIndex_mem (x := x) (xs := xs) ((List.mem_cons.mp h).resolve_left fun z => q z.symm)
      refine ⟨k + 1, ?_, hk⟩
      unfold zIndex at e ⊢
      rw [List.findIdx?_cons, if_neg (by rw [decide_eq_true_eq]; exact q)]
      cases z : xs.findIdx? (fun y => decide (y = x)) with
      | none => rw [z] at e; cases e
      | some j =>
        rw [z] at e
        have e : some ((j : Nat) : Int) = some (k : Int) := e
        have := Option.some.inj e
        show some (((j + 1 : Nat)) : Int) = _
        congr 1; omega
/-- a loop that stops at the first that fits -/
theorem zForC_first {α τ : Type} {f : α → Unit → Option (Ctl Unit τ)} {g : α → Option τ} : ∀ {xs : List α}, (∀ x ∈ xs, f x () = some (match g x with | some r => .ret r | none => .go ())) → (zForC f xs () = some (.inl ()) ∧ ∀ x ∈ xs, g x = none) ∨ ∃ x ∈ xs, ∃ r, g x = some r ∧ zForC f xs () = some (.inr r)
  | [], _ => .inl ⟨rfl, fun x h => by cases h⟩
  | x :: xs, h => by
    have hx := h x List.mem_cons_self
    unfold zForC
    rw [hx]
    cases q : g x with
    | some r => exact .inr ⟨x, List.mem_cons_self, r, q, rfl⟩
    | none =>
      rcases zForC_first (f := f) (g := g) (xs := xs) fun y hy => h y (List.mem_cons_of_mem _ hy) with ⟨e, all⟩ | ⟨y, hy, r, e1, e2⟩
      · exact .inl ⟨e, fun y hy => by
          rcases List.mem_cons.mp hy with rfl | hy
          · exact q
          · exact all y hy⟩
      · exact .inr ⟨y, List.mem_cons_of_mem _ hy, r, e1, e2⟩
/-! ### keys -/
theorem mem_keys {κ : Type} [DecidableEq κ] {d : Dct κ Int} {x : κ} : x ∈ d.l.map (·.1) ↔ (d.get x).isSome = true := by
  unfold Dct.get
  rw [Option.isSome_map, List.find?_isSome, List.mem_map]
  exact ⟨fun ⟨p, h, e⟩ => ⟨p, h, decide_eq_true e⟩, fun ⟨p, h, e⟩ => ⟨p, h, of_decide_eq_true e⟩⟩
theorem put_keys {κ : Type} [DecidableEq κ] {d : Dct κ Int} {k : κ} {v : Int} : (d.put k v).l.map (·.1) = if (d.get k).isSome = true then d.l.map (·.1) else d.l.map (·.1) ++ [k] := by
  have e : (d.l.any fun p => decide (p.1 = k)) = (d.get k).isSome := by
    unfold Dct.get
    rw [Option.isSome_map]
    induction d.l with
    | nil => rfl
    | cons p l ih =>
      rw [List.any_cons, List.find?_cons]
      cases decide (p.1 = k)
      · rw [Bool.false_or]; exact ih
      · rfl
  unfold Dct.put
  rw [e]
  split
  · show (d.l.map fun p => if p.1 = k then (p.1, v) else p).map (·.1) = _
    rw [List.map_map]
    refine List.map_congr_left fun p _ => ?_
    show (if p.1 = k then (p.1, v) else p).1 = p.1
    split <;> rfl
  · show (d.l ++ [(k, v)]).map (·.1) = _
    rw [List.map_append]; rfl
section
variable {n : Nat} {D : Nat → Int} {ls : List Lnk}
/-- links within the park -/
def InL (n : Nat) (ls : List Lnk) : Prop := ∀ l ∈ ls, 0 ≤ l.a ∧ l.a < n ∧ 0 ≤ l.b ∧ l.b < n
/-- the weight into a district -/
def V (ls : List Lnk) (D : Nat → Int) (p : Nat) (d : Int) : Int := sumK ls fun l => if l.a = (p : Int) ∧ D l.b.toNat = d then l.c else 0
structure Wo (D : Nat → Int) (p : Nat) (ls : List Lnk) (w : Dct Int Int) : Prop where
  val : ∀ d, (w.get d).getD 0 = if d = D p then 0 else V ls D p d
  key : ∀ d, (w.get d).isSome = true ↔ d ≠ D p ∧ ∃ l ∈ ls, l.a = (p : Int) ∧ D l.b.toNat = d
  nd : (w.l.map (·.1)).Nodup
  len : w.l.length ≤ ls.length
theorem V_snoc {es : List Lnk} {l : Lnk} {p : Nat} {d : Int} : V (es ++ [l]) D p d = V es D p d + if l.a = (p : Int) ∧ D l.b.toNat = d then l.c else 0 := sumK_snoc
theorem take_snc {α : Type} {xs : List α} {i : Nat} {x : α} (h : xs[i]? = some x) : xs.take (i + 1) = xs.take i ++ [x] := by rw [List.take_add_one, h]; rfl
theorem weights_ok (h : InL n ls) (hl : ls.length ≤ 400000) {p : Nat} (hp : p < n) : ∃ w, t_weights_out ls (vec n D) (p : Int) = some w ∧ Wo D p ls w := by
  obtain ⟨w, e, hw⟩ := zFor_at (f := u_weights_out_1 (vec n D) (p : Int)) (fun j w => Wo D p (ls.take j) w) (xs := ls) (s := ⟨[]⟩) 0 ⟨fun d => by
    show 0 = if d = D p then 0 else 0
    split <;> rfl, fun d => ⟨fun z => (by cases z), fun ⟨_, l, hl, _⟩ => (by cases hl)⟩, List.nodup_nil, Nat.le_refl 0⟩ fun i l w hi I => by
      rw [Nat.zero_add] at I ⊢
      have ok := h l (List.mem_of_getElem? hi)
      have len := I.len
      rw [List.length_take] at len
      rw [take_snc hi]
      unfold u_weights_out_1
      rw [vec_z ok.2.2.1 ok.2.2.2, zb, vec_n hp, zb]
      by_cases q : l.a = (p : Int) ∧ D l.b.toNat ≠ D p
      · rw [decide_eq_true q.1, zAnd_t, decide_eq_false q.2, zb, if_pos (show (!false) = true from rfl), zb, zb]
        have hz : zDPut w (D l.b.toNat) ((w.get (D l.b.toNat)).getD 0 + l.c) = some (w.put (D l.b.toNat) ((w.get (D l.b.toNat)).getD 0 + l.c)) := if_pos (small (by omega))
        rw [hz, zb]
        refine ⟨_, rfl, fun d => ?_, fun d => ?_, ?_, ?_⟩
        · rw [Dct.get_put, V_snoc]
          by_cases z : d = D l.b.toNat
          · rw [if_pos z, z]
            have v := I.val (D l.b.toNat)
            rw [if_neg q.2] at v ⊢
            rw [if_pos ⟨q.1, rfl⟩, v]; rfl
          · rw [if_neg z, I.val, if_neg (show ¬ (l.a = (p : Int) ∧ D l.b.toNat = d) from fun y => z y.2.symm), Int.add_zero]
        · rw [Dct.get_put]
          by_cases z : d = D l.b.toNat
          · rw [if_pos z, z]
            exact ⟨fun _ => ⟨q.2, l, List.mem_append_right _ (List.mem_singleton.mpr rfl), q.1, rfl⟩, fun _ => rfl⟩
          · rw [if_neg z, I.key]
            constructor
            · rintro ⟨a, k, hk, b⟩
              exact ⟨a, k, List.mem_append_left _ hk, b⟩
            · rintro ⟨a, k, hk, b1, b2⟩
              rcases List.mem_append.mp hk with hk | hk
              · exact ⟨a, k, hk, b1, b2⟩
              · rw [List.mem_singleton.mp hk] at b2
                exact absurd b2.symm z
        · rw [put_keys]
          split
          · exact I.nd
          · rename_i z
            refine List.nodup_append.mpr ⟨I.nd, by simp, fun a ha b hb y => ?_⟩
            rw [List.mem_singleton.mp hb] at y
            rw [y] at ha
            exact z (mem_keys.mp ha)
        · have := congrArg List.length (put_keys (d := w) (k := D l.b.toNat) (v := (w.get (D l.b.toNat)).getD 0 + l.c))
          rw [List.length_map] at this
          have le : (w.put (D l.b.toNat) ((w.get (D l.b.toNat)).getD 0 + l.c)).l.length ≤ w.l.length + 1 := by
            rw [this]
            split
            · rw [List.length_map]; omega
            · rw [List.length_append, List.length_map]; exact Nat.le_refl _
          rw [List.length_append, List.length_take]
          show _ ≤ _ + 1
          omega
      · have f : (zAnd (decide (l.a = (p : Int))) (some (!decide (D l.b.toNat = D p)))) = some false := by
          by_cases y : l.a = (p : Int)
          · rw [decide_eq_true y, zAnd_t, decide_eq_true (show D l.b.toNat = D p from Classical.byContradiction fun z => q ⟨y, z⟩)]; rfl
          · rw [decide_eq_false y, zAnd_f]
        rw [f, zb, if_neg (by decide)]
        refine ⟨_, rfl, fun d => ?_, fun d => ?_, I.nd, ?_⟩
        · rw [I.val, V_snoc]
          by_cases z : d = D p
          · rw [if_pos z, if_pos z]
          · rw [if_neg z, if_neg z, if_neg fun y => q ⟨y.1, fun x => z (by rw [← y.2, x])⟩, Int.add_zero]
        · rw [I.key]
          constructor
          · rintro ⟨a, k, hk, b⟩
            exact ⟨a, k, List.mem_append_left _ hk, b⟩
          · rintro ⟨a, k, hk, b1, b2⟩
            rcases List.mem_append.mp hk with hk | hk
            · exact ⟨a, k, hk, b1, b2⟩
            · rw [List.mem_singleton.mp hk] at b1 b2
              exact absurd ⟨b1, fun x => a (by rw [← b2, x])⟩ q
        · rw [List.length_append, List.length_take]
          omega
  rw [Nat.zero_add, List.take_length] at hw
  unfold t_weights_out
  rw [zb, e, zb]
  exact ⟨w, rfl, hw⟩
/-- where two are unlike -/
theorem unlike_ok {p q : Nat} {w v : Dct Int Int} (hw : Wo D p ls w) (hv : Wo D q ls v) (hl : ls.length ≤ 400000) : (t_unlike_district w v = some none ∧ ∀ d, (w.get d).getD 0 = (v.get d).getD 0) ∨ ∃ d, t_unlike_district w v = some (some d) ∧ (w.get d).getD 0 ≠ (v.get d).getD 0 ∧ ((w.get d).isSome = true ∨ (v.get d).isSome = true) := by
  have l1 := hw.len
  have l2 := hv.len
  unfold t_unlike_district
  rw [zLst_ok (by rw [List.length_append, List.length_map, List.length_map]; omega), zb]
  have mem : ∀ x, x ∈ isort (w.l.map (·.1) ++ v.l.map (·.1)) ↔ (w.get x).isSome = true ∨ (v.get x).isSome = true := fun x => by
    rw [(isort_perm _).mem_iff, List.mem_append, mem_keys, mem_keys]
  rcases zForC_first (f := u_unlike_district_1 w v) (g := fun x : Int => if (w.get x).getD 0 = (v.get x).getD 0 then (none : Option (Option Int)) else some (some x)) (xs := isort (w.l.map (·.1) ++ v.l.map (·.1))) (fun x _ => by
    unfold u_unlike_district_1
    by_cases y : (w.get x).getD 0 = (v.get x).getD 0
    · rw [if_neg (by rw [decide_eq_true y]; decide), if_pos y]
    · rw [if_pos (by rw [decide_eq_false y]; rfl), if_neg y]) with ⟨e, all⟩ | ⟨x, hx, r, e1, e2⟩
  · rw [e, zb]
    refine .inl ⟨rfl, fun d => ?_⟩
    by_cases y : (w.get d).isSome = true ∨ (v.get d).isSome = true
    · have := all d ((mem d).mpr y)
      exact Classical.byContradiction fun z => by rw [if_neg z] at this; cases this
    · have a : w.get d = none := Option.not_isSome_iff_eq_none.mp fun z => y (.inl z)
      have b : v.get d = none := Option.not_isSome_iff_eq_none.mp fun z => y (.inr z)
      rw [a, b]
  · rw [e2, zb]
    by_cases y : (w.get x).getD 0 = (v.get x).getD 0
    · rw [if_pos y] at e1; cases e1
    · rw [if_neg y] at e1
      have := Option.some.inj e1
      rw [← this]
      exact .inr ⟨x, rfl, y, (mem x).mp hx⟩
/-- the first place of a district -/
noncomputable def fi (n : Nat) (D : Nat → Int) (p : Nat) : Nat := ((zIndex (vec n D) (D p)).getD 0).toNat
theorem fi_ok {p : Nat} (hp : p < n) : zIndex (vec n D) (D p) = some (fi n D p : Int) ∧ fi n D p < n ∧ D (fi n D p) = D p := by
  obtain ⟨k, e, hk⟩ := zIndex_mem (xs := vec n D) (x := D p) (List.mem_map.mpr ⟨p, List.mem_range.mpr hp, rfl⟩)
  have : fi n D p = k := by unfold fi; rw [e]; rfl
  rw [this]
  have kl : k < n := by have := (List.getElem?_eq_some_iff.mp hk).1; rwa [vec_len] at this
  rw [vec_get kl] at hk
  exact ⟨e, kl, Option.some.inj hk⟩
/-- all places of a district have the same weights -/
def Pln (n : Nat) (D : Nat → Int) (ls : List Lnk) : Prop := ∀ p < n, ∀ d, d ≠ D p → V ls D (fi n D p) d = V ls D p d
theorem fault_ok (hn : n ≤ 1000) (h : InL n ls) (hl : ls.length ≤ 400000) : (t_district_fault (n : Int) ls (vec n D) = some none ∧ Pln n D ls) ∨ ∃ p d, t_district_fault (n : Int) ls (vec n D) = some (some ⟨(fi n D p : Int), (p : Int), d⟩) ∧ p < n ∧ d ≠ D p ∧ V ls D (fi n D p) d ≠ V ls D p d ∧ ∃ l ∈ ls, D l.b.toNat = d := by
  have step : ∀ p < n, (u_district_fault_1 ls (vec n D) (p : Int) () = some (.go ()) ∧ ∀ d, d ≠ D p → V ls D (fi n D p) d = V ls D p d) ∨ ∃ d, u_district_fault_1 ls (vec n D) (p : Int) () = some (.ret (some ⟨(fi n D p : Int), (p : Int), d⟩)) ∧ d ≠ D p ∧ V ls D (fi n D p) d ≠ V ls D p d ∧ ∃ l ∈ ls, D l.b.toNat = d := fun p hp => by
    obtain ⟨f1, f2, f3⟩ := fi_ok (D := D) hp
    obtain ⟨w, ew, hw⟩ := weights_ok (D := D) h hl f2
    obtain ⟨v, ev, hv⟩ := weights_ok (D := D) h hl hp
    unfold u_district_fault_1
    rw [vec_n hp, zb, f1, zb, ew, zb, ev, zb]
    rcases unlike_ok hw hv hl with ⟨e, all⟩ | ⟨d, e, ne, k⟩
    · rw [e, zb, if_neg (by decide)]
      refine .inl ⟨rfl, fun d hd => ?_⟩
      have := all d
      rw [hw.val, hv.val, f3, if_neg hd, if_neg hd] at this
      exact this
    · rw [e, zb, if_pos (show (some d).isSome = true from rfl), zb]
      have dp : d ≠ D p := fun z => ne (by rw [hw.val, hv.val, f3, if_pos z, if_pos z])
      rw [hw.val, hv.val, f3, if_neg dp, if_neg dp] at ne
      refine .inr ⟨d, rfl, dp, ne, ?_⟩
      rcases k with k | k
      · obtain ⟨_, l, hl, _, b⟩ := (hw.key d).mp k
        exact ⟨l, hl, b⟩
      · obtain ⟨_, l, hl, _, b⟩ := (hv.key d).mp k
        exact ⟨l, hl, b⟩
  have key := zForC_first (f := u_district_fault_1 ls (vec n D)) (g := fun x : Int => match u_district_fault_1 ls (vec n D) x () with | some (.ret r) => some r | _ => none) (xs := rgI n) fun x hx => by
    obtain ⟨p, hp, rfl⟩ := rgI_mem.mp hx
    rcases step p hp with ⟨e, _⟩ | ⟨d, e, _⟩ <;> rw [e]
  unfold t_district_fault
  rw [zRng_ok (by omega), zb]
  rcases key with ⟨e, all⟩ | ⟨x, hx, r, e1, e2⟩
  · rw [e, zb]
    refine .inl ⟨rfl, fun p hp => ?_⟩
    have a := all (p : Int) (rgI_mem.mpr ⟨p, hp, rfl⟩)
    rcases step p hp with ⟨_, b⟩ | ⟨d, e, _⟩
    · exact b
    · rw [e] at a; cases a
  · rw [e2, zb]
    obtain ⟨p, hp, rfl⟩ := rgI_mem.mp hx
    rcases step p hp with ⟨e, _⟩ | ⟨d, e, b⟩
    · rw [e] at e1; cases e1
    · rw [e] at e1
      have := Option.some.inj e1
      rw [← this]
      exact .inr ⟨p, d, rfl, hp, b⟩
end
end Lw

/-! k88: members, weights, plain, finer -/
namespace Lw
open PySem PySem.Spec PyL L2 PyL.Enc
set_option autoImplicit false
section
variable {n : Nat} {D : Nat → Int} {ls : List Lnk}
def mem (n : Nat) (D : Nat → Int) (d : Int) : List Int := (rgI n).filter fun x => decide (D x.toNat = d)
theorem mem_mem {d x : Int} : x ∈ mem n D d ↔ ∃ i : Nat, x = (i : Int) ∧ i < n ∧ D i = d := by
  unfold mem
  rw [List.mem_filter, rgI_mem, decide_eq_true_eq]
  constructor
  · rintro ⟨⟨i, hi, rfl⟩, h⟩
    rw [Int.toNat_natCast] at h
    exact ⟨i, rfl, hi, h⟩
  · rintro ⟨i, rfl, hi, h⟩
    exact ⟨⟨i, hi, rfl⟩, by rw [Int.toNat_natCast]; exact h⟩
theorem mem_len {d : Int} : (mem n D d).length ≤ n := Nat.le_trans (List.length_filter_le _ _) (by rw [rgI_len]; exact Nat.le_refl _)
theorem rgI_nd : (rgI n).Nodup := by
  unfold rgI
  exact List.pairwise_map.mpr (List.nodup_range.imp fun h z => h (by omega))
theorem mem_nd {d : Int} : (mem n D d).Nodup := rgI_nd.sublist List.filter_sublist
theorem members_ok (hn : n ≤ 1000) {d : Int} : t__law_members (vec n D) d = some (mem n D d) := by
  have e := zFilM_ok (t := fun (x_1 : Int) => ((atI (vec n D) x_1).bind fun v2 => some (decide (v2 = d)))) (f := fun x => some x) (p := fun x => decide (D x.toNat = d)) (g := id) (xs := rgI n) (fun x hx => by
    obtain ⟨i, hi, rfl⟩ := rgI_mem.mp hx
    rw [vec_n hi, zb, Int.toNat_natCast]) fun x _ _ => rfl
  have l := mem_len (n := n) (D := D) (d := d)
  unfold t__law_members
  rw [vec_len, zRng_ok (by omega), zb, e, zb, List.map_id]
  show ((zLst (mem n D d)).bind _) = _
  rw [zLst_ok (by omega), zb]
theorem into1_ok (h : InL n ls) (hl : ls.length ≤ 400000) {p : Nat} {d : Int} : t_weight_into ls (p : Int) (mem n D d) = some (V ls D p d) := by
  have e : (ls.filter (fun (x_1 : (T3 Int Int Int)) => ((decide (x_1.a = (p : Int))) && (decide (x_1.b ∈ mem n D d))))).map (fun (x_1 : (T3 Int Int Int)) => x_1.c) = (ls.filter (fun (x_1 : (T3 Int Int Int)) => ((decide (x_1.a = (p : Int))) && (decide (x_1.b ∈ mem n D d))))).map (fun (x_1 : (T3 Int Int Int)) => x_1.c) := rfl
  have fl := List.length_filter_le (fun (x_1 : (T3 Int Int Int)) => ((decide (x_1.a = (p : Int))) && (decide (x_1.b ∈ mem n D d)))) ls
  unfold t_weight_into
  rw [zLst_ok (by rw [List.length_map]; omega), zb, filter_sum]
  refine congrArg some (sumK_congr fun l hl => ?_)
  have ok := h l hl
  have iff : l.b ∈ mem n D d ↔ D l.b.toNat = d := by
    rw [mem_mem]
    exact ⟨fun ⟨i, e, _, h⟩ => by rw [e, Int.toNat_natCast]; exact h, fun h => ⟨l.b.toNat, by omega, by omega, h⟩⟩
  by_cases q : l.a = (p : Int) ∧ D l.b.toNat = d
  · rw [if_pos q, if_pos (by rw [Bool.and_eq_true, decide_eq_true_eq, decide_eq_true_eq]; exact ⟨q.1, iff.mpr q.2⟩)]
  · rw [if_neg q, if_neg (by rw [Bool.and_eq_true, decide_eq_true_eq, decide_eq_true_eq]; exact fun z => q ⟨z.1, iff.mp z.2⟩)]
/-- the districts in order -/
def dst (n : Nat) (D : Nat → Int) : List Int := isort (ddI (vec n D))
theorem dst_ok (hn : n < 64) : zSortSetI (vec n D) = some (dst n D) := if_pos (by rw [vec_len]; exact hn)
theorem dst_mem {d : Int} : d ∈ dst n D ↔ ∃ i, i < n ∧ D i = d := by
  unfold dst
  rw [(isort_perm _).mem_iff, ddI_mem]
  unfold vec
  rw [List.mem_map]
  exact ⟨fun ⟨i, h, e⟩ => ⟨i, List.mem_range.mp h, e⟩, fun ⟨i, h, e⟩ => ⟨i, List.mem_range.mpr h, e⟩⟩
theorem dst_nd : (dst n D).Nodup := (isort_perm _).symm.nodup (ddI_nodup _)
theorem V_none {d : Int} (h : ∀ l ∈ ls, D l.b.toNat ≠ d) {p : Nat} : V ls D p d = 0 := sumK_0 fun l hl => if_neg fun z => h l hl z.2

theorem pmembers_ok (hn : n ≤ 1000) {d : Int} : t_members (vec n D) d = some (mem n D d) := members_ok hn
theorem linto_ok (hn : n ≤ 1000) (h : InL n ls) {d : Int} : t__law_into (n : Int) ls (mem n D d) = some (vec n fun p => V ls D p d) := by
  obtain ⟨s, e, hs⟩ := zFor_at (f := u__law_into_1 (mem n D d)) (xs := ls) (s := vec n fun _ => 0) (fun j s => s = vec n fun p => V (ls.take j) D p d) 0 rfl fun i l s hi hs => by
    rw [Nat.zero_add] at hs ⊢
    subst hs
    have ok := h l (List.mem_of_getElem? hi)
    have iff : l.b ∈ mem n D d ↔ D l.b.toNat = d := by
      rw [mem_mem]
      exact ⟨fun ⟨i, e, _, h⟩ => by rw [e, Int.toNat_natCast]; exact h, fun h => ⟨l.b.toNat, by omega, by omega, h⟩⟩
    unfold u__law_into_1
    rw [take_snc hi]
    by_cases q : D l.b.toNat = d
    · rw [if_pos (decide_eq_true (iff.mpr q)), vec_z ok.1 ok.2.1, zb, vec_st ok.1 ok.2.1, zb]
      refine ⟨_, rfl, vec_congr fun p hp => ?_⟩
      rw [V_snoc]
      unfold upd1
      by_cases z : p = l.a.toNat
      · rw [if_pos z, if_pos ⟨by omega, q⟩, z]
      · rw [if_neg z, if_neg fun y => z (by omega), Int.add_zero]
    · rw [if_neg (by rw [decide_eq_true_eq]; exact fun z => q (iff.mp z))]
      refine ⟨_, rfl, vec_congr fun p hp => ?_⟩
      rw [V_snoc, if_neg fun y => q y.2, Int.add_zero]
  rw [Nat.zero_add, List.take_length] at hs
  unfold t__law_into
  rw [zRng_ok (by omega), zb, rgI_map, zLst_ok (by rw [vec_len]; omega), zb, e, zb, hs]
theorem plain_ok (hn : n < 64) (h : InL n ls) : ∃ b, t__law_is_plain (n : Int) ls (vec n D) = some b ∧ (b = true ↔ Pln n D ls) := by
  let P : Int → Bool := fun d => (rgI n).all fun x => decide (D x.toNat = d) || decide (V ls D x.toNat d = V ls D (fi n D x.toNat) d)
  have step : ∀ d, u__law_is_plain_2 (n : Int) ls (vec n D) d () = some (if P d = true then .go () else .ret false) := fun d => by
    have inner : zForC (u__law_is_plain_1 (vec n D) d (vec n fun i => V ls D i d)) (rgI n) () = some (if P d = true then .inl () else .inr false) := zForC_judge fun x hx => by
      obtain ⟨p, hp, rfl⟩ := rgI_mem.mp hx
      obtain ⟨f1, f2, f3⟩ := fi_ok (D := D) hp
      unfold u__law_is_plain_1
      rw [vec_n hp, zb, vec_n hp, zb, zb, f1, zb, vec_n f2, zb, Int.toNat_natCast]
      by_cases q : D p = d
      · rw [decide_eq_true q]
        show ((zAnd false _).bind _) = _
        rw [zAnd_f, zb, if_neg (by decide), Bool.true_or, if_pos rfl]
      · rw [decide_eq_false q]
        show ((zAnd true _).bind _) = _
        rw [zAnd_t, zb, Bool.false_or]
        by_cases y : V ls D p d = V ls D (fi n D p) d
        · rw [decide_eq_true y]; rfl
        · rw [decide_eq_false y]; rfl
    unfold u__law_is_plain_2
    rw [members_ok (by omega), zb, linto_ok (by omega) h, zb, zRng_ok (by omega), zb, inner, zb]
    cases P d <;> rfl
  have outer : zForC (u__law_is_plain_2 (n : Int) ls (vec n D)) (dst n D) () = some (if (dst n D).all P = true then .inl () else .inr false) := zForC_judge fun d _ => step d
  refine ⟨(dst n D).all P, ?_, ?_⟩
  · unfold t__law_is_plain
    rw [dst_ok hn, zb, outer, zb]
    cases (dst n D).all P <;> rfl
  · rw [List.all_eq_true]
    constructor
    · intro H p hp d ne
      by_cases q : ∃ l ∈ ls, D l.b.toNat = d
      · obtain ⟨l, hl, e⟩ := q
        have ok := h l hl
        have := H d (dst_mem.mpr ⟨l.b.toNat, by omega, e⟩)
        have := List.all_eq_true.mp this (p : Int) (rgI_mem.mpr ⟨p, hp, rfl⟩)
        rw [Int.toNat_natCast, decide_eq_false fun z => ne z.symm, Bool.false_or, decide_eq_true_eq] at this
        exact this.symm
      · have nn : ∀ l ∈ ls, D l.b.toNat ≠ d := fun l hl e => q ⟨l, hl, e⟩
        rw [V_none nn, V_none nn]
    · intro H d _
      refine List.all_eq_true.mpr fun x hx => ?_
      obtain ⟨p, hp, rfl⟩ := rgI_mem.mp hx
      rw [Int.toNat_natCast]
      by_cases q : D p = d
      · rw [decide_eq_true q, Bool.true_or]
      · rw [decide_eq_true (H p hp d fun z => q z.symm).symm, Bool.or_true]
/-- one division is finer than another -/
def Fin' (n : Nat) (F S : Nat → Int) : Prop := ∀ p < n, ∀ q < n, F p = F q → S p = S q
theorem finer_ok {F S : Nat → Int} (hn : n ≤ 1000) : ∃ b, t__law_finer (vec n F) (vec n S) = some b ∧ (b = true ↔ Fin' n F S) := by
  refine ⟨(rgI n).all fun x => decide (S x.toNat = S (fi n F x.toNat)), ?_, ?_⟩
  · have l : zForC (u__law_finer_1 (vec n F) (vec n S)) (rgI n) () = some (if ((rgI n).all fun x => decide (S x.toNat = S (fi n F x.toNat))) = true then .inl () else .inr false) := zForC_judge fun x hx => by
      obtain ⟨p, hp, rfl⟩ := rgI_mem.mp hx
      obtain ⟨f1, f2, f3⟩ := fi_ok (D := F) hp
      unfold u__law_finer_1
      rw [vec_n hp, zb, vec_n hp, zb, f1, zb, vec_n f2, zb, Int.toNat_natCast]
      by_cases y : S p = S (fi n F p)
      · rw [decide_eq_true y]; rfl
      · rw [decide_eq_false y]; rfl
    unfold t__law_finer
    rw [vec_len, zRng_ok (by omega), zb, l, zb]
    cases (rgI n).all fun x => decide (S x.toNat = S (fi n F x.toNat)) <;> rfl
  · rw [List.all_eq_true]
    constructor
    · intro H p hp q hq e
      have a := H (p : Int) (rgI_mem.mpr ⟨p, hp, rfl⟩)
      have b := H (q : Int) (rgI_mem.mpr ⟨q, hq, rfl⟩)
      rw [Int.toNat_natCast, decide_eq_true_eq] at a b
      have : fi n F p = fi n F q := by unfold fi; rw [e]
      rw [a, b, this]
    · intro H x hx
      obtain ⟨p, hp, rfl⟩ := rgI_mem.mp hx
      obtain ⟨f1, f2, f3⟩ := fi_ok (D := F) hp
      rw [Int.toNat_natCast]
      exact decide_eq_true (H p hp _ f2 f3.symm)
end
end Lw

/-! k88: numbers in the order of first places -/
namespace Lw
open PySem PySem.Spec PyL L2 PyL.Enc
set_option autoImplicit false
theorem rgI_snc {n : Nat} : rgI (n + 1) = rgI n ++ [(n : Int)] := by unfold rgI; rw [List.range_succ, List.map_append]; rfl
theorem zIndex_none {α : Type} [DecidableEq α] {x : α} : ∀ {xs : List α}, x ∉ xs → zIndex xs x = none := fun {xs} h => by
  unfold zIndex
  rw [List.findIdx?_eq_none_iff.mpr fun y hy => decide_eq_false fun z => h (by rw [← z]; exact hy)]
  rfl
theorem zIndex_snoc {α : Type} [DecidableEq α] {x k : α} {xs : List α} : zIndex (xs ++ [k]) x = if x ∈ xs then zIndex xs x else if x = k then some (xs.length : Int) else none := by
  by_cases h : x ∈ xs
  · rw [if_pos h]
    obtain ⟨j, e, _⟩ := zIndex_mem h
    unfold zIndex at e ⊢
    rw [List.findIdx?_append]
    cases z : xs.findIdx? (fun y => decide (y = x)) with
    | none => rw [z] at e; cases e
    | some j => rfl
  · rw [if_neg h]
    have e : xs.findIdx? (fun y => decide (y = x)) = none := List.findIdx?_eq_none_iff.mpr fun y hy => decide_eq_false fun z => h (by rw [← z]; exact hy)
    unfold zIndex
    rw [List.findIdx?_append, e, Option.none_or, List.findIdx?_cons]
    by_cases q : x = k
    · rw [if_pos q, if_pos (decide_eq_true q.symm)]
      show some (((0 + xs.length : Nat)) : Int) = _
      rw [Nat.zero_add]
    · rw [if_neg q, if_neg (by rw [decide_eq_true_eq]; exact fun z => q z.symm)]; rfl
/-- what comes first -/
def dd {α : Type} [DecidableEq α] (D : Nat → α) : Nat → List α
  | 0 => []
  | j + 1 => if D j ∈ dd D j then dd D j else dd D j ++ [D j]
section
variable {α : Type} [DecidableEq α] {n : Nat} {D : Nat → α}
theorem dd_mem {x : α} : ∀ {j : Nat}, x ∈ dd D j ↔ ∃ i, i < j ∧ D i = x
  | 0 => ⟨fun h => (by cases h), fun ⟨i, h, _⟩ => absurd h (Nat.not_lt_zero i)⟩
  | j + 1 => by
    unfold dd
    by_cases q : D j ∈ dd D j
    · rw [if_pos q, dd_mem]
      constructor
      · rintro ⟨i, h, e⟩; exact ⟨i, by omega, e⟩
      · rintro ⟨i, h, e⟩
        by_cases z : i = j
        · rw [← e, z]; exact dd_mem.mp q
        · exact ⟨i, by omega, e⟩
    · rw [if_neg q, List.mem_append, List.mem_singleton, dd_mem]
      constructor
      · rintro (⟨i, h, e⟩ | e)
        · exact ⟨i, by omega, e⟩
        · exact ⟨j, by omega, e.symm⟩
      · rintro ⟨i, h, e⟩
        by_cases z : i = j
        · rw [z] at e; exact .inr e.symm
        · exact .inl ⟨i, by omega, e⟩
theorem dd_len : ∀ {j : Nat}, (dd D j).length ≤ j
  | 0 => Nat.le_refl 0
  | j + 1 => by
    have := dd_len (j := j)
    unfold dd
    split
    · omega
    · rw [List.length_append]; show _ + 1 ≤ _; omega
/-- the number of a place's district -/
def ix {α : Type} [DecidableEq α] (n : Nat) (D : Nat → α) (i : Nat) : Int := (zIndex (dd D n) (D i)).getD 0
theorem ix_ok {i : Nat} (hi : i < n) : zIndex (dd D n) (D i) = some (ix n D i) := by
  obtain ⟨k, e, _⟩ := zIndex_mem (dd_mem.mpr ⟨i, hi, rfl⟩ : D i ∈ dd D n)
  unfold ix
  rw [e]; rfl
theorem num_ok {D : Nat → Int} (hn : n ≤ 1000) : t_numbered (vec n D) = some (vec n (ix n D)) := by
  obtain ⟨w, e, hk, hg⟩ := zFor_at (f := u_numbered_1) (fun j (w : Dct Int Int) => w.l.map (·.1) = dd D j ∧ ∀ x, w.get x = zIndex (dd D j) x) (xs := vec n D) (s := ⟨[]⟩) 0 ⟨rfl, fun x => rfl⟩ fun i x w hx ⟨hk, hg⟩ => by
    rw [Nat.zero_add] at hk hg ⊢
    have hi : i < n := by have := (List.getElem?_eq_some_iff.mp hx).1; rwa [vec_len] at this
    rw [vec_get hi] at hx
    cases hx
    have wl : w.l.length ≤ i := by
      have := congrArg List.length hk
      rw [List.length_map] at this
      have := dd_len (D := D) (j := i)
      omega
    unfold u_numbered_1 dd
    by_cases q : D i ∈ dd D i
    · obtain ⟨k, ek, _⟩ := zIndex_mem q
      have hs : (w.get (D i)).isSome = true := by rw [hg, ek]; rfl
      rw [hs, if_neg (by decide), if_pos q]
      exact ⟨w, rfl, hk, hg⟩
    · have hs : (w.get (D i)).isSome = false := by rw [hg, zIndex_none q]; rfl
      have hz : zDPut w (D i) (w.l.length : Int) = some (w.put (D i) (w.l.length : Int)) := if_pos (small (by omega))
      rw [hs, if_pos (show (!false) = true from rfl), if_neg q, hz, zb]
      refine ⟨_, rfl, ?_, fun x => ?_⟩
      · rw [put_keys, hs, if_neg (by decide), hk]
      · rw [Dct.get_put, zIndex_snoc, hg]
        by_cases z : x = D i
        · rw [if_pos z, z, if_neg q, if_pos rfl]
          have := congrArg List.length hk
          rw [List.length_map] at this
          rw [this]
        · rw [if_neg z]
          by_cases y : x ∈ dd D i
          · rw [if_pos y]
          · rw [if_neg y, if_neg z, zIndex_none y]
  rw [Nat.zero_add, vec_len] at hk hg
  have em : zMapM (fun (x_1 : Int) => ((w.get x_1).bind fun v1 => some v1)) (vec n D) = some (vec n (ix n D)) := by
    unfold vec
    refine zMapM_map fun i hi => ?_
    rw [hg, ix_ok (List.mem_range.mp hi), zb]
  unfold t_numbered
  rw [zb, e, zb, em, zb, zLst_ok (by rw [vec_len]; omega), zb]
theorem numT_ok {D : Nat → (T2 Int Int)} (hn : n ≤ 1000) : t_numbered_T ((List.range n).map D) = some (vec n (ix n D)) := by
  obtain ⟨w, e, hk, hg⟩ := zFor_at (f := u_numbered_T_1) (fun j (w : Dct (T2 Int Int) Int) => w.l.map (·.1) = dd D j ∧ ∀ x, w.get x = zIndex (dd D j) x) (xs := (List.range n).map D) (s := ⟨[]⟩) 0 ⟨rfl, fun x => rfl⟩ fun i x w hx ⟨hk, hg⟩ => by
    rw [Nat.zero_add] at hk hg ⊢
    have hi : i < n := by have := (List.getElem?_eq_some_iff.mp hx).1; rwa [List.length_map, List.length_range] at this
    rw [List.getElem?_map, List.getElem?_range hi] at hx
    cases hx
    have wl : w.l.length ≤ i := by
      have := congrArg List.length hk
      rw [List.length_map] at this
      have := dd_len (D := D) (j := i)
      omega
    unfold u_numbered_T_1 dd
    by_cases q : D i ∈ dd D i
    · obtain ⟨k, ek, _⟩ := zIndex_mem q
      have hs : (w.get (D i)).isSome = true := by rw [hg, ek]; rfl
      rw [hs, if_neg (by decide), if_pos q]
      exact ⟨w, rfl, hk, hg⟩
    · have hs : (w.get (D i)).isSome = false := by rw [hg, zIndex_none q]; rfl
      have hz : zDPut w (D i) (w.l.length : Int) = some (w.put (D i) (w.l.length : Int)) := if_pos (small (by omega))
      rw [hs, if_pos (show (!false) = true from rfl), if_neg q, hz, zb]
      refine ⟨_, rfl, ?_, fun x => ?_⟩
      · rw [put_keys, hs, if_neg (by decide), hk]
      · rw [Dct.get_put, zIndex_snoc, hg]
        by_cases z : x = D i
        · rw [if_pos z, z, if_neg q, if_pos rfl]
          have := congrArg List.length hk
          rw [List.length_map] at this
          rw [this]
        · rw [if_neg z]
          by_cases y : x ∈ dd D i
          · rw [if_pos y]
          · rw [if_neg y, if_neg z, zIndex_none y]
  rw [Nat.zero_add, List.length_map, List.length_range] at hk hg
  have em : zMapM (fun (x_1 : (T2 Int Int)) => ((w.get x_1).bind fun v1 => some v1)) ((List.range n).map D) = some (vec n (ix n D)) := by
    unfold vec
    refine zMapM_map fun i hi => ?_
    rw [hg, ix_ok (List.mem_range.mp hi), zb]
  unfold t_numbered_T
  rw [zb, e, zb, em, zb, zLst_ok (by rw [vec_len]; omega), zb]
/-- numbers of numbers -/
theorem ix_inj {i j : Nat} (hi : i < n) (hj : j < n) (e : ix n D i = ix n D j) : D i = D j := by
  obtain ⟨k, e1, h1⟩ := zIndex_mem (dd_mem.mpr ⟨i, hi, rfl⟩ : D i ∈ dd D n)
  obtain ⟨m, e2, h2⟩ := zIndex_mem (dd_mem.mpr ⟨j, hj, rfl⟩ : D j ∈ dd D n)
  rw [ix_ok hi] at e1
  rw [ix_ok hj] at e2
  have a := Option.some.inj e1
  have b := Option.some.inj e2
  have : k = m := by omega
  rw [this, h2] at h1
  exact (Option.some.inj h1).symm
theorem ix_eq {i j : Nat} (e : D i = D j) : ix n D i = ix n D j := by unfold ix; rw [e]
theorem dd_ix : ∀ {j : Nat}, j ≤ n → dd (ix n D) j = (dd D j).map fun x => (zIndex (dd D n) x).getD 0
  | 0, _ => rfl
  | j + 1, h => by
    have ih := dd_ix (j := j) (by omega)
    have iff : ix n D j ∈ dd (ix n D) j ↔ D j ∈ dd D j := by
      rw [dd_mem, dd_mem]
      constructor
      · rintro ⟨i, hi, e⟩; exact ⟨i, hi, ix_inj (by omega) (by omega) e⟩
      · rintro ⟨i, hi, e⟩; exact ⟨i, hi, ix_eq e⟩
    have e1 : dd (ix n D) (j + 1) = if ix n D j ∈ dd (ix n D) j then dd (ix n D) j else dd (ix n D) j ++ [ix n D j] := rfl
    have e2 : dd D (j + 1) = if D j ∈ dd D j then dd D j else dd D j ++ [D j] := rfl
    rw [e1, e2]
    by_cases q : D j ∈ dd D j
    · rw [if_pos q, if_pos (iff.mpr q), ih]
    · rw [if_neg q, if_neg fun z => q (iff.mp z), ih, List.map_append]; rfl
theorem zIndex_map {f : α → Int} {x : α} : ∀ {xs : List α}, (∀ y ∈ xs, f y = f x → y = x) → zIndex (xs.map f) (f x) = zIndex xs x
  | [], _ => rfl
  | y :: xs, h => by
    have ih := zIndex_map (f := f) (x := x) (xs := xs) fun z hz => h z (List.mem_cons_of_mem _ hz)
    unfold zIndex at ih ⊢
    rw [List.map_cons, List.findIdx?_cons, List.findIdx?_cons]
    by_cases q : y = x
    · rw [if_pos (decide_eq_true q), if_pos (decide_eq_true (by rw [q]))]
    · rw [if_neg (by rw [decide_eq_true_eq]; exact fun z => q (h y List.mem_cons_self z)), if_neg (by rw [decide_eq_true_eq]; exact q)]
      generalize xs.findIdx? (fun y => decide (y = x)) = a at *
      generalize (xs.map f).findIdx? (fun y => decide (y = f x)) = b at *
      cases a with
      | none =>
        cases b with
        | none => rfl
        | some j => cases ih
      | some i =>
        cases b with
        | none => cases ih
        | some j =>
          have : ((j : Nat) : Int) = (i : Int) := Option.some.inj ih
          show some (((j + 1 : Nat)) : Int) = some (((i + 1 : Nat)) : Int)
          rw [show j = i by omega]
theorem ix_ix {i : Nat} (hi : i < n) : ix n (ix n D) i = ix n D i := by
  have e := zIndex_map (f := fun x => (zIndex (dd D n) x).getD 0) (x := D i) (xs := dd D n) fun y hy z => by
    obtain ⟨j, hj, rfl⟩ := dd_mem.mp hy
    exact ix_inj hj hi z
  have : ix n (ix n D) i = (zIndex (dd (ix n D) n) (ix n D i)).getD 0 := rfl
  rw [this, dd_ix (Nat.le_refl n)]
  show (zIndex ((dd D n).map fun x => (zIndex (dd D n) x).getD 0) ((fun x => (zIndex (dd D n) x).getD 0) (D i))).getD 0 = _
  rw [e]; rfl
theorem ix_bd {i : Nat} (hi : i < n) : 0 ≤ ix n D i ∧ ix n D i < n := by
  obtain ⟨k, e, h⟩ := zIndex_mem (dd_mem.mpr ⟨i, hi, rfl⟩ : D i ∈ dd D n)
  have kl := (List.getElem?_eq_some_iff.mp h).1
  have dl := dd_len (D := D) (j := n)
  rw [ix_ok hi] at e
  have e := Option.some.inj e
  omega
end
end Lw

/-! k88: the coarsest plain division -/
namespace Lw
open PySem PySem.Spec PyL L2 PyL.Enc
set_option autoImplicit false
theorem sum_z : ∀ X : List Int, (X.map fun _ => (0 : Int)).sum = 0
  | [] => rfl
  | _ :: X => by rw [List.map_cons, List.sum_cons, sum_z X]; rfl
theorem vec_gD {n i : Nat} {f : Nat → Int} (h : i < n) : (vec n f).getD i 0 = f i := by
  have := vec_get (f := f) h
  simp [List.getD, this]
theorem sumN_le {n : Nat} {f g : Nat → Int} (h : ∀ i < n, f i ≤ g i) : sumN n f ≤ sumN n g := by
  induction n with
  | zero => exact Int.le_refl _
  | succ n ih =>
    rw [sumN_succ, sumN_succ]
    have := ih fun i hi => h i (by omega)
    have := h n (by omega)
    omega
theorem sumN_cst {c : Int} : ∀ m : Nat, (sumN m fun _ => c) = (m : Int) * c := fun m => by
  induction m with
  | zero => rw [sumN_zero]; simp
  | succ m ih => rw [sumN_succ, ih, show ((m + 1 : Nat) : Int) = (m : Int) + 1 by omega, Int.add_mul]; omega
theorem sum_one {g : Int → Int} {e0 : Int} : ∀ {X : List Int}, X.Nodup → e0 ∈ X → (∀ e ∈ X, e ≠ e0 → g e = 0) → (X.map g).sum = g e0
  | [], _, h, _ => by cases h
  | e :: X, nd, h, z => by
    obtain ⟨ne, nd⟩ := List.nodup_cons.mp nd
    rw [List.map_cons, List.sum_cons]
    by_cases q : e = e0
    · have : X.map g = X.map fun _ => 0 := List.map_congr_left fun y hy => z y (List.mem_cons_of_mem _ hy) fun w => ne (by rw [q, ← w]; exact hy)
      rw [this, sum_z, q]; omega
    · rw [z e List.mem_cons_self q, sum_one nd ((List.mem_cons.mp h).resolve_left fun w => q w.symm) fun y hy => z y (List.mem_cons_of_mem _ hy)]; omega
theorem sum_swap {f : Int → Lnk → Int} {ls : List Lnk} : ∀ {X : List Int}, (sumK ls fun l => (X.map fun e => f e l).sum) = (X.map fun e => sumK ls (f e)).sum
  | [] => sumK_0 fun _ _ => rfl
  | e :: X => by
    rw [List.map_cons, List.sum_cons, ← sum_swap (X := X), ← sumK_add]
    exact sumK_congr fun l _ => by rw [List.map_cons, List.sum_cons]
section
variable {n : Nat} {D c E : Nat → Int} {ls : List Lnk}
noncomputable def rp (n : Nat) (E : Nat → Int) (e : Int) : Nat := ((zIndex (vec n E) e).getD 0).toNat
theorem rp_fi {p : Nat} : rp n E (E p) = fi n E p := rfl
theorem sumV (h : InL n ls) (F : Fin' n E c) {p : Nat} {d : Int} : V ls c p d = ((dst n E).map fun e => if c (rp n E e) = d then V ls E p e else 0).sum := by
  have one : V ls c p d = sumK ls fun l => ((dst n E).map fun e => if c (rp n E e) = d ∧ l.a = (p : Int) ∧ E l.b.toNat = e then l.c else 0).sum := sumK_congr fun l hl => by
    have ok := h l hl
    have hb : l.b.toNat < n := by omega
    obtain ⟨f1, f2, f3⟩ := fi_ok (D := E) hb
    have same : c (rp n E (E l.b.toNat)) = c l.b.toNat := by rw [rp_fi]; exact F _ f2 _ hb f3
    rw [sum_one (e0 := E l.b.toNat) dst_nd (dst_mem.mpr ⟨_, hb, rfl⟩) fun e _ ne => if_neg fun z => ne z.2.2.symm]
    by_cases q : l.a = (p : Int) ∧ c l.b.toNat = d
    · rw [if_pos q, if_pos ⟨by rw [same]; exact q.2, q.1, rfl⟩]
    · rw [if_neg q, if_neg fun z => q ⟨z.2.1, by rw [← same]; exact z.1⟩]
  rw [one, sum_swap]
  congr 1
  refine List.map_congr_left fun e _ => ?_
  by_cases q : c (rp n E e) = d
  · rw [if_pos q]
    refine sumK_congr fun l _ => ?_
    by_cases z : l.a = (p : Int) ∧ E l.b.toNat = e
    · rw [if_pos z, if_pos ⟨q, z⟩]
    · rw [if_neg z, if_neg fun y => z y.2]
  · rw [if_neg q]
    exact sumK_0 fun l _ => if_neg fun y => q y.1
theorem fine_step (h : InL n ls) (F : Fin' n E c) (P : Pln n E ls) {p q : Nat} {d : Int} (hp : p < n) (hq : q < n) (e : E p = E q) (ne : c p ≠ d) : V ls c p d = V ls c q d := by
  rw [sumV h F, sumV h F]
  congr 1
  refine List.map_congr_left fun x _ => ?_
  by_cases z : c (rp n E x) = d
  · rw [if_pos z, if_pos z]
    have f : fi n E p = fi n E q := by unfold fi; rw [e]
    have xe : x ≠ E p := fun y => by
      obtain ⟨f1, f2, f3⟩ := fi_ok (D := E) hp
      rw [y, rp_fi, F _ f2 _ hp f3] at z
      exact ne z
    rw [← P p hp x xe, ← P q hq x (by rw [← e]; exact xe), f]
  · rw [if_neg z, if_neg z]
/-- the key of a place -/
def ky (ls : List Lnk) (c : Nat → Int) (d : Int) (p : Nat) : T2 Int Int := if c p = d then ⟨c p, 0⟩ else ⟨c p, V ls c p d⟩
theorem split_ok (hn : n ≤ 1000) (h : InL n ls) (hl : ls.length ≤ 400000) {d : Int} : t_split_by (n : Int) ls (vec n c) (mem n c d) = some (vec n (ix n (ky ls c d))) := by
  have key : ∀ p < n, t_split_key ls (vec n c) (mem n c d) (p : Int) = some (ky ls c d p) := fun p hp => by
    have iff : (p : Int) ∈ mem n c d ↔ c p = d := by
      rw [mem_mem]
      exact ⟨fun ⟨i, e, _, h⟩ => by rw [show p = i by omega]; exact h, fun h => ⟨p, rfl, hp, h⟩⟩
    unfold t_split_key ky
    by_cases q : c p = d
    · rw [if_pos (decide_eq_true (iff.mpr q)), if_pos q, vec_n hp, zb]
    · rw [if_neg (by rw [decide_eq_true_eq]; exact fun z => q (iff.mp z)), if_neg q, vec_n hp, zb, into1_ok h hl, zb]
  unfold t_split_by
  rw [zRng_ok (by omega), zb, rgI_mapG (g := ky ls c d) fun i hi => by rw [key i hi, zb], zb, zLst_ok (by rw [List.length_map, List.length_range]; omega), zb, numT_ok hn, zb]
theorem ky_fst {d : Int} {p : Nat} : (ky ls c d p).a = c p := by unfold ky; split <;> rfl
/-- a division on the way -/
structure Gd (n : Nat) (D : Nat → Int) (ls : List Lnk) (c : Nat → Int) : Prop where
  bd : ∀ i < n, 0 ≤ c i ∧ c i < n
  can : ∀ i < n, ix n c i = c i
  fin : Fin' n c D
  top : ∀ E, Pln n E ls → Fin' n E D → Fin' n E c
theorem Gd.one : Gd n D ls (ix n D) := ⟨fun i hi => ix_bd hi, fun i hi => ix_ix hi, fun p hp q hq e => ix_inj hp hq e, fun E _ F p hp q hq e => ix_eq (F p hp q hq e)⟩
theorem Gd.next (h : InL n ls) (G : Gd n D ls c) {d : Int} : Gd n D ls (ix n (ky ls c d)) where
  bd := fun i hi => ix_bd hi
  can := fun i hi => ix_ix hi
  fin := fun p hp q hq e => by
    have := ix_inj hp hq e
    have := congrArg T2.a this
    rw [ky_fst, ky_fst] at this
    exact G.fin p hp q hq this
  top := fun E P F p hp q hq e => by
    refine ix_eq ?_
    have cc := G.top E P F p hp q hq e
    unfold ky
    by_cases z : c p = d
    · rw [if_pos z, if_pos (by rw [← cc]; exact z), cc]
    · rw [if_neg z, if_neg (by rw [← cc]; exact z), cc, fine_step h (G.top E P F) P hp hq e z]
/-- pairs of places alike -/
def prs (n : Nat) (l : List Int) : Nat := (sumN n fun p => sumN n fun q => if l.getD p 0 = l.getD q 0 then 1 else 0).toNat
theorem prs_vec : prs n (vec n c) = (sumN n fun p => sumN n fun q => if c p = c q then (1 : Int) else 0).toNat := by
  unfold prs
  rw [sumN_congr (f := fun p => sumN n fun q => if (vec n c).getD p 0 = (vec n c).getD q 0 then (1 : Int) else 0) (g := fun p => sumN n fun q => if c p = c q then (1 : Int) else 0) fun p hp => sumN_congr fun q hq => by rw [vec_gD hp, vec_gD hq]]
theorem sumN_drop {a b : Nat → Int} : ∀ {n : Nat}, (∀ i, i < n → b i ≤ a i) → (∃ i, i < n ∧ b i < a i) → sumN n b + 1 ≤ sumN n a
  | 0, _, ⟨i, h, _⟩ => by omega
  | n + 1, h, ⟨i, hi, hlt⟩ => by
    rw [sumN_succ, sumN_succ]
    by_cases q : i = n
    · subst q
      have := sumN_le (n := i) (f := b) (g := a) fun j hj => h j (by omega)
      omega
    · have := sumN_drop (n := n) (a := a) (b := b) (fun j hj => h j (by omega)) ⟨i, by omega, hlt⟩
      have := h n (by omega)
      omega
theorem prs_less {c' : Nat → Int} (F : Fin' n c' c) {p q : Nat} (hp : p < n) (hq : q < n) (e : c p = c q) (ne : c' p ≠ c' q) : prs n (vec n c') < prs n (vec n c) := by
  rw [prs_vec, prs_vec]
  have t : ∀ i < n, ∀ j < n, (if c' i = c' j then (1 : Int) else 0) ≤ if c i = c j then 1 else 0 := fun i hi j hj => by
    by_cases z : c' i = c' j
    · rw [if_pos z, if_pos (F i hi j hj z)]; exact Int.le_refl _
    · rw [if_neg z]; split <;> decide
  have r : (sumN n fun j => if c' p = c' j then (1 : Int) else 0) + 1 ≤ sumN n fun j => if c p = c j then (1 : Int) else 0 := sumN_drop (fun j hj => t p hp j hj) ⟨q, hq, by rw [if_neg ne, if_pos e]; decide⟩
  have s := sumN_drop (n := n) (a := fun i => sumN n fun j => if c i = c j then (1 : Int) else 0) (b := fun i => sumN n fun j => if c' i = c' j then (1 : Int) else 0) (fun i hi => sumN_le fun j hj => t i hi j hj) ⟨p, hp, by show (sumN n fun j => if c' p = c' j then (1 : Int) else 0) < sumN n fun j => if c p = c j then (1 : Int) else 0; omega⟩
  have z : 0 ≤ sumN n fun i => sumN n fun j => if c' i = c' j then (1 : Int) else 0 := sumN_nn fun i _ => sumN_nn fun j _ => by
    show (0 : Int) ≤ if c' i = c' j then 1 else 0
    split <;> decide
  omega
theorem prs_up (hn : n ≤ 100) : prs n (vec n c) ≤ 10000 := by
  rw [prs_vec]
  have a : ∀ i, (sumN n fun j => if c i = c j then (1 : Int) else 0) ≤ n := fun i => by
    have := sumN_le (n := n) (f := fun j => if c i = c j then (1 : Int) else 0) (g := fun _ => 1) fun j _ => by
      show (if c i = c j then (1 : Int) else 0) ≤ 1
      split <;> decide
    rw [sumN_cst] at this
    omega
  have b := sumN_le (n := n) (f := fun i => sumN n fun j => if c i = c j then (1 : Int) else 0) (g := fun _ => (n : Int)) fun i _ => a i
  rw [sumN_cst] at b
  have : (n : Int) * (n : Int) ≤ 100 * 100 := Int.mul_le_mul (by omega) (by omega) (by omega) (by decide)
  omega
/-- the answer -/
structure An (n : Nat) (D : Nat → Int) (ls : List Lnk) (c : Nat → Int) : Prop where
  g : Gd n D ls c
  p : Pln n c ls
theorem coarsest_ok (hn : n ≤ 100) (h : InL n ls) (hl : ls.length ≤ 400000) : ∃ c sp, t_coarsest (n : Int) ls (vec n D) = some ⟨vec n c, sp⟩ ∧ An n D ls c := by
  have fo : ∀ c, ∃ ft, t_district_fault (n : Int) ls (vec n c) = some ft ∧ ((ft = none ∧ Pln n c ls) ∨ ∃ p d, ft = some ⟨(fi n c p : Int), (p : Int), d⟩ ∧ p < n ∧ d ≠ c p ∧ V ls c (fi n c p) d ≠ V ls c p d) := fun c => by
    rcases fault_ok (D := c) (by omega) h hl with ⟨e, P⟩ | ⟨p, d, e, hp, dp, ne, _⟩
    · exact ⟨_, e, .inl ⟨rfl, P⟩⟩
    · exact ⟨_, e, .inr ⟨p, d, rfl, hp, dp, ne⟩⟩
  obtain ⟨f0, e0, h0⟩ := fo (ix n D)
  obtain ⟨st, e, c, sp, rfl, G, P⟩ := zWhile_ex (t := y_coarsest_2) (f := u_coarsest_1 (n : Int) ls)
    (fun st => ∃ c sp ft, st = (vec n c, sp, ft) ∧ Gd n D ls c ∧ sp.length + prs n (vec n c) ≤ 10000 ∧ ((ft = none ∧ Pln n c ls) ∨ ∃ p d, ft = some ⟨(fi n c p : Int), (p : Int), d⟩ ∧ p < n ∧ d ≠ c p ∧ V ls c (fi n c p) d ≠ V ls c p d))
    (fun st => prs n st.1) (fun st => ∃ c sp, st = (vec n c, sp, none) ∧ Gd n D ls c ∧ Pln n c ls) (fun st ⟨c, sp, ft, es, G, ln, hf⟩ => by
      subst es
      rcases hf with ⟨rfl, P⟩ | ⟨p, d, rfl, hp, dp, ne⟩
      · exact .inl ⟨rfl, c, sp, rfl, G, P⟩
      · refine .inr ⟨rfl, ?_⟩
        obtain ⟨f1, f2, f3⟩ := fi_ok (D := c) hp
        obtain ⟨ft, ef, hf⟩ := fo (ix n (ky ls c d))
        have fin : Fin' n (ix n (ky ls c d)) c := fun a ha b hb e => by
          have := congrArg T2.a (ix_inj ha hb e)
          rwa [ky_fst, ky_fst] at this
        have less : prs n (vec n (ix n (ky ls c d))) < prs n (vec n c) := prs_less fin f2 hp f3 fun e => by
          have := ix_inj f2 hp e
          unfold ky at this
          rw [f3, if_neg fun z => dp z.symm, if_neg fun z => dp z.symm] at this
          exact ne (congrArg T2.b this)
        refine ⟨(vec n (ix n (ky ls c d)), sp ++ [mem n c d], ft), ?_, ⟨_, _, _, rfl, G.next h, by rw [List.length_append]; show _ + 1 + _ ≤ _; omega, hf⟩, less⟩
        unfold u_coarsest_1
        dsimp only
        rw [zb, pmembers_ok (by omega), zb, split_ok (by omega) h hl, zb, zApp_ok (by omega), zb, ef, zb])
    1000000000 (vec n (ix n D), [], f0) ⟨_, _, _, rfl, Gd.one, by rw [List.length_nil, Nat.zero_add]; exact prs_up hn, h0⟩ (by
      show prs n (vec n (ix n D)) < _
      have := prs_up (c := ix n D) hn
      omega)
  refine ⟨c, sp, ?_, G, P⟩
  unfold t_coarsest
  rw [num_ok (by omega), zb, zb, e0, zb, e, zb]
theorem coarsest_once (hn : n ≤ 1000) (h : InL n ls) (hl : ls.length ≤ 400000) (P : Pln n (ix n D) ls) : t_coarsest (n : Int) ls (vec n D) = some ⟨vec n (ix n D), []⟩ := by
  have e0 : t_district_fault (n : Int) ls (vec n (ix n D)) = some none := by
    rcases fault_ok (D := ix n D) hn h hl with ⟨e, _⟩ | ⟨p, d, e, hp, dp, ne, _⟩
    · exact e
    · exact absurd (P p hp d dp) ne
  obtain ⟨st, e, rfl⟩ := zWhile_ex (t := y_coarsest_2) (f := u_coarsest_1 (n : Int) ls) (fun st => st = (vec n (ix n D), [], none)) (fun _ => 0) (fun st => st = (vec n (ix n D), [], none)) (fun st es => by subst es; exact .inl ⟨rfl, rfl⟩) 1000000000 (vec n (ix n D), [], none) rfl (by decide)
  unfold t_coarsest
  rw [num_ok hn, zb, zb, e0, zb, e, zb]
end
end Lw

/-! k88: the park and the law -/
namespace Lw
open PySem PySem.Spec PyL L2 PyL.Enc
set_option autoImplicit false
theorem em88 {v : Int} {n : Int} (h : 0 < n) : 0 ≤ v % n ∧ v % n < n := ⟨Int.emod_nonneg _ (by omega), Int.emod_lt_of_pos _ h⟩
theorem InL.snoc {n : Nat} {ls : List Lnk} {w : Lnk} (h : InL n ls) (hw : 0 ≤ w.a ∧ w.a < n ∧ 0 ≤ w.b ∧ w.b < n) : InL n (ls ++ [w]) := fun l hl => by
  rcases List.mem_append.mp hl with hl | hl
  · exact h l hl
  · rw [List.mem_singleton.mp hl]; exact hw
theorem case_ok {L : List Int} (hd : Drs L 44) : ∃ (n : Nat) (ls : List Lnk) (D : Nat → Int), t__law_case L = some ⟨(n : Int), ls, vec n D⟩ ∧ 1 ≤ n ∧ n ≤ 6 ∧ InL n ls ∧ ls.length ≤ 60 := by
  have A : ∀ z : Int, 0 ≤ z → z < 44 → atI L z = some (L.getD z.toNat 0) := fun z h0 h1 => hd.at h0 (by omega)
  obtain ⟨n, ej, n1, n6⟩ : ∃ n : Nat, (if (decide (L.getD (0 : Int).toNat 0 / 6 % 2 = (0 : Int))) = true then ((some (L.getD (0 : Int).toNat 0)).bind fun v6 => ((zDiv v6 (12 : Int)).bind fun v7 => ((zMod v7 (5 : Int)).bind fun v8 => ((some ((1 : Int) + v8)).bind fun size_2 => some size_2)))) else some ((1 : Int) + L.getD (0 : Int).toNat 0 % 6) : Option Int) = some (n : Int) ∧ 1 ≤ n ∧ n ≤ 6 := by
    split
    · rw [zb, zDiv_ok (by decide) (by decide), zb, zMod_ok (by decide), zb, zb]
      exact ⟨(1 + L.getD (0 : Int).toNat 0 / 12 % 5).toNat, by rw [Int.toNat_of_nonneg (by omega)], by omega, by omega⟩
    · exact ⟨(1 + L.getD (0 : Int).toNat 0 % 6).toNat, by rw [Int.toNat_of_nonneg (by omega)], by omega, by omega⟩
  obtain ⟨k, ek, k1, k3⟩ : ∃ k : Nat, (1 : Int) + L.getD (3 : Int).toNat 0 % 3 = (k : Int) ∧ 1 ≤ k ∧ k ≤ 3 := ⟨(1 + L.getD (3 : Int).toNat 0 % 3).toNat, by omega, by omega, by omega⟩
  let N : Nat → Int := fun i => L.getD ((4 : Int) + (i : Int)).toNat 0 % 40
  let K : Nat → Int := fun i => L.getD ((10 : Int) + (i : Int)).toNat 0 % (1 + (n : Int) / 2)
  let D : Nat → Int := fun i => N (K i % (k : Int)).toNat
  obtain ⟨m, em, m8⟩ : ∃ m : Nat, L.getD (1 : Int).toNat 0 % 9 = (m : Int) ∧ m ≤ 8 := ⟨(L.getD (1 : Int).toNat 0 % 9).toNat, by omega, by omega⟩
  obtain ⟨ls, el, I, ll⟩ := zFor_rgP (f := u__law_case_2 L (n : Int) (vec n K)) (n := m) (fun j ls => InL n ls ∧ ls.length ≤ j * 6) (s := []) ⟨fun l hl => (by cases hl), Nat.zero_le _⟩ fun j ls hj ⟨I, ll⟩ => by
    have a := em88 (v := L.getD ((20 : Int) + (j : Int)).toNat 0) (n := (n : Int)) (by omega)
    have b := em88 (v := L.getD ((30 : Int) + (j : Int)).toNat 0) (n := (n : Int)) (by omega)
    unfold u__law_case_2
    rw [A _ (by omega) (by omega), zb, zMod_ok (by omega), zb, A _ (by omega) (by omega), zb, zMod_ok (by omega), zb, zb, zDiv_ok (by decide) (by decide), zb, zMod_ok (by decide), zb, zb, A _ (by decide) (by decide), zb, zMod_ok (by decide), zb]
    generalize L.getD ((20 : Int) + (j : Int)).toNat 0 % (n : Int) = u at *
    generalize L.getD ((30 : Int) + (j : Int)).toNat 0 % (n : Int) = v at *
    by_cases q : decide ((0 : Int) < L.getD (2 : Int).toNat 0 % 4) = true
    · rw [if_pos q, zRng_ok (by omega), zb]
      obtain ⟨t, e, It, lt⟩ := zFor_rgP (f := u__law_case_1 (n : Int) (vec n K) u v (1 + L.getD ((20 : Int) + (j : Int)).toNat 0 / 17 % 3)) (n := n) (fun i t => InL n t ∧ t.length ≤ ls.length + i) (s := ls) ⟨I, Nat.le_refl _⟩ fun i t hi ⟨It, lt⟩ => by
        unfold u__law_case_1
        rw [vec_n hi, zb, vec_z a.1 a.2, zb]
        by_cases z : decide (K i = K u.toNat) = true
        · have ef := zFilM_ok (t := fun (x_4 : Int) => ((atI (vec n K) x_4).bind fun v44 => ((atI (vec n K) v).bind fun v45 => some (decide (v44 = v45))))) (f := fun x => some x) (p := fun x => decide (K x.toNat = K v.toNat)) (g := id) (xs := rgI n) (fun x hx => by
            obtain ⟨r, hr, rfl⟩ := rgI_mem.mp hx
            rw [vec_n hr, zb, vec_z b.1 b.2, zb, Int.toNat_natCast]) fun x _ _ => rfl
          rw [List.map_id] at ef
          have fl := List.length_filter_le (fun x : Int => decide (K x.toNat = K v.toNat)) (rgI n)
          rw [rgI_len] at fl
          have mv : v ∈ (rgI n).filter fun x : Int => decide (K x.toNat = K v.toNat) := List.mem_filter.mpr ⟨rgI_mem.mpr ⟨v.toNat, by omega, by omega⟩, decide_eq_true rfl⟩
          have lp := List.length_pos_of_mem mv
          have sub : ∀ x ∈ (rgI n).filter (fun x : Int => decide (K x.toNat = K v.toNat)), 0 ≤ x ∧ x < n := fun x hx => by
            obtain ⟨r, hr, rfl⟩ := rgI_mem.mp (List.mem_filter.mp hx).1
            omega
          rw [if_pos z, zRng_ok (by omega), zb, ef, zb, zLst_ok (by omega), zb]
          generalize (rgI n).filter (fun x : Int => decide (K x.toNat = K v.toNat)) = X at *
          have mm := em88 (v := v + (i : Int)) (n := (X.length : Int)) (by omega)
          have hm : ((v + (i : Int)) % (X.length : Int)).toNat < X.length := by omega
          have xr := sub _ (List.getElem_mem hm)
          rw [zMod_ok (by omega), zb, atI_z mm.1 (List.getElem?_eq_getElem hm), zb, zApp_ok (by omega), zb]
          exact ⟨_, rfl, It.snoc ⟨by show 0 ≤ (i : Int); omega, by show (i : Int) < n; omega, xr.1, xr.2⟩, by rw [List.length_append]; show _ + 1 ≤ _; omega⟩
        · rw [if_neg z]
          exact ⟨t, rfl, It, by omega⟩
      rw [e, zb]
      exact ⟨t, rfl, It, by omega⟩
    · rw [if_neg q, zApp_ok (by omega), zb]
      exact ⟨_, rfl, I.snoc ⟨a.1, a.2, b.1, b.2⟩, by rw [List.length_append]; show _ + 1 ≤ _; omega⟩
  refine ⟨n, ls, D, ?_, n1, n6, I, by omega⟩
  unfold t__law_case
  rw [A _ (by decide) (by decide), zb, zMod_ok (by decide), zb, zb, zb, zDiv_ok (by decide) (by decide), zb, zMod_ok (by decide), zb, ej, zb, A _ (by decide) (by decide), zb, zMod_ok (by decide), zb, ek, zRng_ok (by omega), zb]
  rw [rgI_mapM (g := N) fun i hi => by rw [A _ (by omega) (by omega), zb, zMod_ok (by decide), zb], zb, zLst_ok (by rw [vec_len]; omega), zb, zRng_ok (by omega), zb]
  rw [rgI_mapM (g := K) fun i hi => by rw [A _ (by omega) (by omega), zb, zDiv_ok (by decide) (by decide), zb, zMod_ok (by omega), zb], zb, zLst_ok (by rw [vec_len]; omega), zb, zb]
  rw [rgI_mapM (g := D) fun i hi => by
    have mm := em88 (v := K i) (n := (k : Int)) (by omega)
    rw [vec_n hi, zb, vec_len, zMod_ok (by omega), zb, vec_z mm.1 mm.2, zb], zb, zLst_ok (by rw [vec_len]; omega), zb, zb, A _ (by decide) (by decide), zb, zMod_ok (by decide), zb, em, zRng_ok (by omega), zb, el, zb]
theorem answer_of {n : Nat} {ls : List Lnk} {D c : Nat → Int} {sp : List (List Int)} (e : t_coarsest (n : Int) ls (vec n D) = some ⟨vec n c, sp⟩) (hc : ∀ i < n, 0 ≤ c i ∧ c i < n) : t__law_answer (n : Int) ls (vec n D) = some (some (vec n c)) := by
  have l : zForC (u__law_answer_1 (n : Int)) (vec n c) () = some (.inl ()) := zForC_unit fun x hx => by
    obtain ⟨i, hi, rfl⟩ := List.mem_map.mp hx
    have := hc i (List.mem_range.mp hi)
    unfold u__law_answer_1 t__law_is_number
    rw [zb, decide_eq_false (show ¬ c i < 0 by omega), decide_eq_false (show ¬ (n : Int) ≤ c i by omega)]
    rfl
  unfold t__law_answer
  rw [zb]
  show ((t_coarsest (n : Int) ls (vec n D)).bind _) = _
  rw [e, zb, decide_eq_true rfl, if_neg (by decide)]
  dsimp only
  rw [vec_len, decide_eq_true (rfl : (n : Int) = (n : Int)), if_neg (by decide), l, zb]
theorem div_ok : ∀ n : Fin 7, 1 ≤ n.val → ((t__law_divisions (n.val : Int)).map fun xs => xs.all fun x => decide (x.length = n.val)) = some true := by decide +kernel
theorem divisions_ok {n : Nat} (n1 : 1 ≤ n) (n6 : n ≤ 6) : ∃ xs, t__law_divisions (n : Int) = some xs ∧ ∀ x ∈ xs, ∃ E, x = vec n E := by
  have := div_ok ⟨n, by omega⟩ n1
  dsimp only at this
  cases e : t__law_divisions (n : Int) with
  | none => rw [e] at this; cases this
  | some xs =>
    rw [e] at this
    have this : (xs.all fun x => decide (x.length = n)) = true := Option.some.inj this
    refine ⟨xs, rfl, fun x hx => ?_⟩
    have l := of_decide_eq_true (List.all_eq_true.mp this x hx)
    refine ⟨fun i => x.getD i 0, ?_⟩
    refine List.ext_getElem? fun i => ?_
    by_cases h : i < n
    · have h1 : i < x.length := by omega
      rw [vec_get h, List.getElem?_eq_getElem h1]
      simp [List.getD, h1]
    · rw [List.getElem?_eq_none (by omega), List.getElem?_eq_none (by rw [vec_len]; omega)]
theorem law_true {L : List Int} (h1 : OkN L) (h2 : L.length = 44) : t_law L = some true := by
  have hd : Drs L 44 := ⟨h2, h1⟩
  have b40 := hd.bd (40 : Int).toNat
  obtain ⟨n, ls, D, ec, n1, n6, I, ll⟩ := case_ok hd
  obtain ⟨c, sp, e1, A1⟩ := coarsest_ok (D := D) (show n ≤ 100 by omega) I (by omega)
  have a1 := answer_of e1 A1.g.bd
  obtain ⟨p1, ep1, hp1⟩ := plain_ok (D := c) (show n < 64 by omega) I
  have hp1 := hp1.mpr A1.p
  subst hp1
  obtain ⟨f1, ef1, hf1⟩ := finer_ok (F := c) (S := D) (show n ≤ 1000 by omega)
  have hf1 := hf1.mpr A1.g.fin
  subst hf1
  obtain ⟨xs, ex, hxs⟩ := divisions_ok n1 n6
  have loop : zForC (u_law_1 (⟨(n : Int), ls, vec n D⟩ : T3 Int (List (T3 Int Int Int)) (List Int)) (some (vec n c))) xs () = some (.inl ()) := zForC_unit fun x hx => by
    obtain ⟨E, rfl⟩ := hxs x hx
    obtain ⟨b1, eb1, hb1⟩ := finer_ok (F := E) (S := D) (show n ≤ 1000 by omega)
    obtain ⟨b2, eb2, hb2⟩ := finer_ok (F := E) (S := c) (show n ≤ 1000 by omega)
    obtain ⟨b3, eb3, hb3⟩ := plain_ok (D := E) (show n < 64 by omega) I
    have key : (b1 && (!b2 && b3)) = false := by
      cases z1 : b1
      · rfl
      · cases z3 : b3
        · cases b2 <;> rfl
        · have := hb2.mpr (A1.g.top E (hb3.mp z3) (hb1.mp z1))
          rw [this]; rfl
    unfold u_law_1
    dsimp only
    rw [eb1, zb, zb, eb2, zb, eb3, zb]
    revert key
    cases b1 <;> cases b2 <;> cases b3 <;> intro key <;> first | rfl | cases key
  -- asked of the answer again
  have can : vec n (ix n c) = vec n c := vec_congr A1.g.can
  have pc : Pln n (ix n c) ls := by
    have same : ∀ q d, q < n → V ls (ix n c) q d = V ls c q d := fun q d _ => sumK_congr fun l hl => by
      have ok := I l hl
      rw [A1.g.can _ (by omega)]
    intro p hp d ne
    have fie : fi n (ix n c) p = fi n c p := by unfold fi; rw [can, A1.g.can p hp]
    obtain ⟨_, f2, _⟩ := fi_ok (D := c) hp
    rw [fie, same _ d f2, same _ d hp]
    exact A1.p p hp d (by rw [← A1.g.can p hp]; exact ne)
  have e2 := coarsest_once (D := c) (show n ≤ 1000 by omega) I (by omega) pc
  rw [can] at e2
  have a2 := answer_of e2 A1.g.bd
  -- halves
  let H : Nat → Int := fun p => 2 * (fi n D p : Int) + L.getD (40 : Int).toNat 0 / ((p : Int) + 1) % 2
  have fb : ∀ p < n, fi n D p < n := fun p hp => (fi_ok (D := D) hp).2.1
  obtain ⟨c2, sp2, e3, A3⟩ := coarsest_ok (D := H) (show n ≤ 100 by omega) I (by omega)
  have a3 := answer_of e3 A3.g.bd
  have HD : Fin' n H D := fun p hp q hq e => by
    have e : 2 * (fi n D p : Int) + L.getD (40 : Int).toNat 0 / ((p : Int) + 1) % 2 = 2 * (fi n D q : Int) + L.getD (40 : Int).toNat 0 / ((q : Int) + 1) % 2 := e
    have m1 := em88 (v := L.getD (40 : Int).toNat 0 / ((p : Int) + 1)) (n := 2) (by decide)
    have m2 := em88 (v := L.getD (40 : Int).toNat 0 / ((q : Int) + 1)) (n := 2) (by decide)
    have : fi n D p = fi n D q := by omega
    rw [← (fi_ok (D := D) hp).2.2, ← (fi_ok (D := D) hq).2.2, this]
  obtain ⟨f3, ef3, hf3⟩ := finer_ok (F := c2) (S := H) (show n ≤ 1000 by omega)
  have hf3 := hf3.mpr A3.g.fin
  subst hf3
  obtain ⟨f4, ef4, hf4⟩ := finer_ok (F := c2) (S := c) (show n ≤ 1000 by omega)
  have hf4 := hf4.mpr (A1.g.top c2 A3.p fun p hp q hq e => HD p hp q hq (A3.g.fin p hp q hq e))
  subst hf4
  have eh : zMapM (fun (x_1 : Int) => ((atI (vec n D) x_1).bind fun v19 => ((zIndex (vec n D) v19).bind fun v20 => ((zMul (2 : Int) v20).bind fun v21 => ((atI L (40 : Int)).bind fun v22 => ((zDiv v22 (x_1 + (1 : Int))).bind fun v23 => ((zMod v23 (2 : Int)).bind fun v24 => some (v21 + v24)))))))) (rgI n) = some (vec n H) := rgI_mapM fun i hi => by
    have := fb i hi
    rw [vec_n hi, zb, (fi_ok (D := D) hi).1, zb, zMul_ok (by decide) (by decide) (by omega) (by omega), zb, hd.at (by decide) (by decide), zb, zDiv_ok (by omega) (by omega), zb, zMod_ok (by decide), zb]
  -- one district
  have ddc : ∀ j, dd (fun _ : Nat => (39 : Int)) (j + 1) = [39] := fun j => by
    induction j with
    | zero => rfl
    | succ j ih =>
      show (if (39 : Int) ∈ dd (fun _ : Nat => (39 : Int)) (j + 1) then dd (fun _ : Nat => (39 : Int)) (j + 1) else _) = _
      rw [ih, if_pos (List.mem_singleton.mpr rfl)]
  have ix0 : ∀ i, ix n (fun _ : Nat => (39 : Int)) i = 0 := fun i => by
    unfold ix
    obtain ⟨j, rfl⟩ : ∃ j, n = j + 1 := ⟨n - 1, by omega⟩
    rw [ddc]; rfl
  have v0 : vec n (ix n fun _ : Nat => (39 : Int)) = vec n fun _ => 0 := vec_congr fun i _ => ix0 i
  have p0 : Pln n (ix n fun _ : Nat => (39 : Int)) ls := fun p hp d ne => by
    rw [ix0] at ne
    have nn : ∀ l ∈ ls, ix n (fun _ : Nat => (39 : Int)) l.b.toNat ≠ d := fun l _ e => ne (by rw [← e, ix0])
    rw [V_none nn, V_none nn]
  have e4 := coarsest_once (D := fun _ : Nat => (39 : Int)) (show n ≤ 1000 by omega) I (by omega) p0
  rw [v0] at e4
  have a4 := answer_of e4 fun i _ => ⟨Int.le_refl 0, by omega⟩
  unfold t_law
  rw [zb, ec, zb]
  dsimp only
  rw [a1, zb, Option.isNone_some, zOr_f, zb, ep1, zb, Bool.not_true, zOr_f, zb, ef1, zb, Bool.not_true, zb, zb, if_neg (by decide), ex, zb, loop, zb]
  dsimp only
  rw [zb, a2, zb, decide_eq_true rfl, if_neg (by decide), zRng_ok (by omega), zb, eh, zb, zLst_ok (by rw [vec_len]; omega), zb, a3, zb, Option.isNone_some, zOr_f, zb, ef3, zb, Bool.not_true, zOr_f, zb, zb, ef4, zb, Bool.not_true, zb, zb, if_neg (by decide), zb]
  rw [rgI_map, zLst_ok (by rw [vec_len]; omega), zb, a4, zb, zb, rgI_map, zLst_ok (by rw [vec_len]; omega), zb, decide_eq_true rfl]
end Lw

namespace Lw
open PySem PySem.Spec PyL L2 PyL.Enc
set_option autoImplicit false
structure Top (K : PySem.W.Frag) (mg : Str → Option Value) : Prop where
  f_numbered : TopF K mg "numbered" s_numbered
  f_numbered_T : TopF K mg "numbered" s_numbered_T
  f_members : TopF K mg "members" s_members
  f_weights_out : TopF K mg "weights_out" s_weights_out
  f_unlike_district : TopF K mg "unlike_district" s_unlike_district
  f_weight_into : TopF K mg "weight_into" s_weight_into
  f__law_draws : TopF K mg "_law_draws" s__law_draws
  f__law_is_number : TopF K mg "_law_is_number" s__law_is_number
  f__law_members : TopF K mg "_law_members" s__law_members
  f__law_into : TopF K mg "_law_into" s__law_into
  f__law_case : TopF K mg "_law_case" s__law_case
  f__law_divisions : TopF K mg "_law_divisions" s__law_divisions
  f__law_finer : TopF K mg "_law_finer" s__law_finer
  f_district_fault : TopF K mg "district_fault" s_district_fault
  f_split_key : TopF K mg "split_key" s_split_key
  f__law_is_plain : TopF K mg "_law_is_plain" s__law_is_plain
  f_split_by : TopF K mg "split_by" s_split_by
  f_coarsest : TopF K mg "coarsest" s_coarsest
  f__law_answer : TopF K mg "_law_answer" s__law_answer
  f_law : TopF K mg "law" s_law
  z_abs : mg "abs" = none
  z_bool : mg "bool" = none
  z_int : mg "int" = none
  z_isinstance : mg "isinstance" = none
  z_len : mg "len" = none
  z_list : mg "list" = none
  z_max : mg "max" = none
  z_range : mg "range" = none
  z_set : mg "set" = none
  z_sorted : mg "sorted" = none
  z_sum : mg "sum" = none
  z_tuple : mg "tuple" = none
section
variable {P : Program} {w : World} {K : PySem.W.Frag} {mg : Str → Option Value} {base : Heap}
theorem sc_numbered : FnScope ["districts", "numbers", "district"] ["districts"] (defScope s_numbered) := ⟨rfl, rfl, rfl, by decide +kernel, rfl, by decide +kernel, by decide +kernel⟩
theorem cal_numbered (T : Top K mg) : CalD P w K mg base 1 "numbered" 1 d_numbered := by
  have nd := (sc_numbered).nd
  have z_len := T.z_len
  refine cal_mk (k := 0) T.f_numbered sc_numbered rfl (by decide) (fun _ _ _ _ _ _ us hl => match us, hl with | [_], _ => rfl) fun f cdv A outer s H E hr hu => ?_
  have hv := hu
  replace hu := un62 hu
  exact b_cons (s_set (i := 1) nd rfl (by first | exact .inl rfl | exact .inr rfl) (e_dnewK))
    (b_cons (s_for (vs := [2]) PassesOwn.never rfl (i_seq (e_var 0)) (g_name 2 nd rfl (by first | exact .inl rfl | exact .inr rfl) (by decide)) (b_one (s_if (c_dninT (u62_1 hu) (e_var 2) (e_var 1) (by rfl)) (b_one (s_dput 1 (u62_1 hu) (pv 1) (e_var 2) (e_callB call_lenD ok_lenD (by rfl) z_len PySem.boot_len (a_cons (e_var 1) (a_nil))))) (b_nil))))
    (b_one (s_ret (e_comp rfl nd (i_seq (e_var 0)) (blkOk_by (own := [("district", 2)]) (by kernel_rfl)) (fun _ _ _ _ _ => g_name 2 nd rfl (by first | exact .inl rfl | exact .inr rfl) (by decide)) (fun _ _ _ _ _ => ts_nil) (fun _ _ _ _ _ => e_dget (u62_1 hu) (e_var 1) (e_var 2))))))
theorem sc_numbered_T : FnScope ["districts", "numbers", "district"] ["districts"] (defScope s_numbered_T) := ⟨rfl, rfl, rfl, by decide +kernel, rfl, by decide +kernel, by decide +kernel⟩
theorem cal_numbered_T (T : Top K mg) : CalD P w K mg base 1 "numbered" 1 d_numbered_T := by
  have nd := (sc_numbered_T).nd
  have z_len := T.z_len
  refine cal_mkG (k := 0) T.f_numbered_T sc_numbered_T rfl (by decide) (fun _ _ _ _ _ _ us hl => match us, hl with | [_], _ => rfl) fun f cdv A outer s H E hr hu => ?_
  have hv := hu
  replace hu := un62 hu
  exact b_cons (s_set (i := 1) nd rfl (by first | exact .inl rfl | exact .inr rfl) (e_dnewT))
    (b_cons (s_for (vs := [2]) PassesOwn.never rfl (i_seq (e_var 0)) (g_name 2 nd rfl (by first | exact .inl rfl | exact .inr rfl) (by decide)) (b_one (s_if (c_dninT (u62_1 hu) (e_var 2) (e_var 1) (by rfl)) (b_one (s_dput 1 (u62_1 hu) (pv 1) (e_var 2) (e_callB call_len_dT ok_lenT (by rfl) z_len PySem.boot_len (a_cons (e_var 1) (a_nil))))) (b_nil))))
    (b_one (s_ret (e_comp rfl nd (i_seq (e_var 0)) (blkOk_by (own := [("district", 2)]) (by kernel_rfl)) (fun _ _ _ _ _ => g_name 2 nd rfl (by first | exact .inl rfl | exact .inr rfl) (by decide)) (fun _ _ _ _ _ => ts_nil) (fun _ _ _ _ _ => e_dget (u62_1 hu) (e_var 1) (e_var 2))))))
theorem sc_members : FnScope ["districts", "district", "place"] ["districts", "district"] (defScope s_members) := ⟨rfl, rfl, rfl, by decide +kernel, rfl, by decide +kernel, by decide +kernel⟩
theorem cal_members (T : Top K mg) : CalD P w K mg base 1 "members" 2 d_members := by
  have nd := (sc_members).nd
  have z_len := T.z_len
  have z_range := T.z_range
  refine cal_mk (k := 0) T.f_members sc_members rfl (by decide) (fun _ _ _ _ _ _ us hl => match us, hl with | [_, _], _ => rfl) fun f cdv A outer s H E hr hu => ?_
  have hv := hu
  replace hu := un62 hu
  exact b_one (s_ret (e_comp rfl nd (i_rng1 (by rfl) z_range (a_cons (e_callB cr_len ok_len (by rfl) z_len PySem.boot_len (a_cons (e_var 0) (a_nil))) (a_nil))) (blkOk_by (own := [("place", 2)]) (by kernel_rfl)) (fun _ _ _ _ _ => g_name 2 nd rfl (by first | exact .inl rfl | exact .inr rfl) (by decide)) (fun _ _ _ _ _ => ts_one (t_cmp (or_eq hu) ok_eq (e_ix (e_var 0) (e_var 2)) (e_var 1) (nomark _))) (fun _ _ _ _ _ => e_var 2)))
theorem sc_weights_out : FnScope ["links", "districts", "place", "weights", "source", "target", "weight"] ["links", "districts", "place"] (defScope s_weights_out) := ⟨rfl, rfl, rfl, by decide +kernel, rfl, by decide +kernel, by decide +kernel⟩
theorem cal_weights_out (T : Top K mg) : CalD P w K mg base 1 "weights_out" 3 d_weights_out := by
  have nd := (sc_weights_out).nd
  refine cal_mk (k := 0) T.f_weights_out sc_weights_out rfl (by decide) (fun _ _ _ _ _ _ us hl => match us, hl with | [_, _, _], _ => rfl) fun f cdv A outer s H E hr hu => ?_
  have hv := hu
  replace hu := un62 hu
  exact b_cons (s_set (i := 3) nd rfl (by first | exact .inl rfl | exact .inr rfl) (e_dnewK))
    (b_cons (s_for (vs := [4, 5, 6]) PassesOwn.never rfl (i_seq (e_var 0)) (g_tup rfl (.cons (pg_name (i := 4) nd rfl (by first | exact .inl rfl | exact .inr rfl)) (.cons (pg_name (i := 5) nd rfl (by first | exact .inl rfl | exact .inr rfl)) (.cons (pg_name (i := 6) nd rfl (by first | exact .inl rfl | exact .inr rfl)) .nil))) (by decide)) (b_one (s_if (t_w (w_and (t_cmp (or_eq hu) ok_eq (e_var 4) (e_var 2) (nomark _)) (w_and1 (t_cmp (or_ne hu) ok_ne (e_ix (e_var 1) (e_var 5)) (e_ix (e_var 1) (e_var 2)) (nomark _))))) (b_one (s_dput 3 (u62_1 hu) (pv 3) (e_ix (e_var 1) (e_var 5)) (e_bin or_add ok_add (e_dget2 (u62_1 hu) (e_var 3) (e_ix (e_var 1) (e_var 5)) (e_int) ⟨by rfl, by rfl, by rfl, by rfl⟩) (e_var 6)))) (b_nil))))
    (b_one (s_retV 3)))
theorem sc_unlike_district : FnScope ["first", "second", "district"] ["first", "second"] (defScope s_unlike_district) := ⟨rfl, rfl, rfl, by decide +kernel, rfl, by decide +kernel, by decide +kernel⟩
theorem cal_unlike_district (T : Top K mg) : CalD P w K mg base 1 "unlike_district" 2 d_unlike_district := by
  have nd := (sc_unlike_district).nd
  have z_list := T.z_list
  have z_sorted := T.z_sorted
  refine cal_mk (k := 0) T.f_unlike_district sc_unlike_district rfl (by decide) (fun _ _ _ _ _ _ us hl => match us, hl with | [_, _], _ => rfl) fun f cdv A outer s H E hr hu => ?_
  have hv := hu
  replace hu := un62 hu
  exact b_cons (s_for (vs := [2]) PassesOwn.never rfl (i_seq (e_callB cr_sortedI ok_sorted (by rfl) z_sorted PyProof.Rows.boot_sorted (a_cons (e_bin or_add ok_add (e_callTy (call_listD rfl) ok_listD (by rfl) z_list PyProof.Rows.boot_list (a_cons (e_var 0) (a_nil))) (e_callTy (call_listD rfl) ok_listD (by rfl) z_list PyProof.Rows.boot_list (a_cons (e_var 1) (a_nil)))) (a_nil)))) (g_name 2 nd rfl (by first | exact .inl rfl | exact .inr rfl) (by decide)) (b_one (s_if (t_cmp (or_ne hu) ok_ne (e_dget2 (u62_1 hu) (e_var 0) (e_var 2) (e_int) ⟨by rfl, by rfl, by rfl, by rfl⟩) (e_dget2 (u62_1 hu) (e_var 1) (e_var 2) (e_int) ⟨by rfl, by rfl, by rfl, by rfl⟩) (nomark _)) (b_one (s_retV 2)) (b_nil))))
    (b_one (s_ret (e_non)))
theorem sc_weight_into : FnScope ["links", "place", "inside", "source", "target", "weight"] ["links", "place", "inside"] (defScope s_weight_into) := ⟨rfl, rfl, rfl, by decide +kernel, rfl, by decide +kernel, by decide +kernel⟩
theorem cal_weight_into (T : Top K mg) : CalD P w K mg base 1 "weight_into" 3 d_weight_into := by
  have nd := (sc_weight_into).nd
  have z_sum := T.z_sum
  refine cal_mk (k := 0) T.f_weight_into sc_weight_into rfl (by decide) (fun _ _ _ _ _ _ us hl => match us, hl with | [_, _, _], _ => rfl) fun f cdv A outer s H E hr hu => ?_
  have hv := hu
  replace hu := un62 hu
  exact b_one (s_ret (e_callB (cr_sum rfl) ok_sum (by rfl) z_sum PyProof.Rows.boot_sum (a_cons (e_comp rfl nd (i_seq (e_var 0)) (blkOk_by (own := [("source", 3), ("target", 4), ("weight", 5)]) (by kernel_rfl)) (fun _ _ _ _ _ => g_tup rfl (.cons (pg_name (i := 3) nd rfl (by first | exact .inl rfl | exact .inr rfl)) (.cons (pg_name (i := 4) nd rfl (by first | exact .inl rfl | exact .inr rfl)) (.cons (pg_name (i := 5) nd rfl (by first | exact .inl rfl | exact .inr rfl)) .nil))) (by decide)) (fun _ _ _ _ _ => ts_one (t_w (w_and (t_cmp (or_eq hu) ok_eq (e_var 3) (e_var 1) (nomark _)) (w_and1 (t_cmp (or_in hu) (ok_in false) (e_var 4) (e_var 2) (by rfl)))))) (fun _ _ _ _ _ => e_var 5)) (a_nil))))
theorem sc__law_draws : FnScope ["script", "many", "found", "cell", "number", "k", "mixed", "base"] ["script", "many"] (defScope s__law_draws) := ⟨rfl, rfl, rfl, by decide +kernel, rfl, by decide +kernel, by decide +kernel⟩
theorem cal__law_draws (T : Top K mg) : CalD P w K mg base 1 "_law_draws" 2 (d__law_draws K) := by
  have nd := (sc__law_draws).nd
  have z_abs := T.z_abs
  have z_int := T.z_int
  have z_len := T.z_len
  have z_range := T.z_range
  refine cal_mk (k := 0) T.f__law_draws sc__law_draws rfl (by decide) (fun _ _ _ _ _ _ us hl => match us, hl with | [_, _], _ => rfl) fun f cdv A outer s H E hr hu => ?_
  have hv := hu
  replace hu := un62 hu
  exact b_cons (s_set (i := 2) nd rfl (by first | exact .inl rfl | exact .inr rfl) e_lstE)
    (b_cons (s_for (vs := [3]) PassesOwn.never rfl (i_seq (e_slK (e_var 0) (o_none) (o_some (e_int)))) (g_name 3 nd rfl (by first | exact .inl rfl | exact .inr rfl) (by decide)) (b_cons (s_set (i := 4) nd rfl (by first | exact .inl rfl | exact .inr rfl) (e_callB call_abs ok_abs (by rfl) z_abs PyProof.Rows.boot_abs (a_cons (e_callTy call_int1 ok_int (by rfl) z_int PyProof.Rows.boot_int (a_cons (e_var 3) (a_nil))) (a_nil))))
    (b_one (s_if (t_cmp op_ge ok_ge (e_var 4) (e_bin op_pow ok_pow (e_int) (e_int)) (nomark _)) (b_one (s_for (vs := [5]) PassesOwn.never rfl (i_rng1 (by rfl) z_range (a_cons (e_int) (a_nil))) (g_name 5 nd rfl (by first | exact .inl rfl | exact .inr rfl) (by decide)) (b_one (s_if (t_cmp op_gt ok_gt (e_var 4) (e_int) (nomark _)) (b_cons (s_app 2 (e_bin op_modN ok_mod (e_var 4) (e_int)) (pe_bm PySem.F.plainAttrs_list PySem.F.slot_list_append PySem.F.type_list_append mt_append (pv 2) (pa_cons (e_bin op_modN ok_mod (e_var 4) (e_int)) pa_nil)))
    (b_one (s_set (i := 4) nd rfl (by first | exact .inl rfl | exact .inr rfl) (e_bin op_fdivL ok_div (e_var 4) (e_int))))) (b_nil))))) (b_cons (s_set (i := 6) nd rfl (by first | exact .inl rfl | exact .inr rfl) (e_bin op_modN ok_mod (e_bin or_add ok_add (e_bin or_add ok_add (e_bin (op_mulL.or op_rep) ok_mul (e_var 4) (e_int)) (e_bin (op_mulL.or op_rep) ok_mul (e_int) (e_callB cr_len ok_len (by rfl) z_len PySem.boot_len (a_cons (e_var 2) (a_nil))))) (e_int)) (e_int)))
    (b_one (s_for (vs := [5]) PassesOwn.never rfl (i_rng1 (by rfl) z_range (a_cons (e_int) (a_nil))) (g_name 5 nd rfl (by first | exact .inl rfl | exact .inr rfl) (by decide)) (b_cons (s_set (i := 6) nd rfl (by first | exact .inl rfl | exact .inr rfl) (e_bin op_modN ok_mod (e_bin or_add ok_add (e_bin or_add ok_add (e_bin or_add ok_add (e_bin (op_mulL.or op_rep) ok_mul (e_var 6) (e_int)) (e_bin op_fdivL ok_div (e_var 6) (e_int))) (e_bin (op_mulL.or op_rep) ok_mul (e_int) (e_var 5))) (e_int)) (e_int)))
    (b_one (s_app 2 (e_bin op_modN ok_mod (e_bin op_fdivL ok_div (e_var 6) (e_int)) (e_int)) (pe_bm PySem.F.plainAttrs_list PySem.F.slot_list_append PySem.F.type_list_append mt_append (pv 2) (pa_cons (e_bin op_modN ok_mod (e_bin op_fdivL ok_div (e_var 6) (e_int)) (e_int)) pa_nil))))))))))))
    (b_cons (s_for (vs := [5]) PassesOwn.never rfl (i_rng1 (by rfl) z_range (a_cons (e_var 1) (a_nil))) (g_name 5 nd rfl (by first | exact .inl rfl | exact .inr rfl) (by decide)) (b_one (s_if (t_cmp op_lt ok_lt (e_callB cr_len ok_len (by rfl) z_len PySem.boot_len (a_cons (e_var 2) (a_nil))) (e_var 1) (nomark _)) (b_cons (s_set (i := 7) nd rfl (by first | exact .inl rfl | exact .inr rfl) (e_int))
    (b_cons (s_if (t_cmp op_gt ok_gt (e_callB cr_len ok_len (by rfl) z_len PySem.boot_len (a_cons (e_var 2) (a_nil))) (e_int) (nomark _)) (b_one (s_set (i := 7) nd rfl (by first | exact .inl rfl | exact .inr rfl) (e_ix (e_var 2) (e_bin op_modN ok_mod (e_var 5) (e_callB cr_len ok_len (by rfl) z_len PySem.boot_len (a_cons (e_var 2) (a_nil))))))) (b_nil))
    (b_one (s_app 2 (e_bin op_modN ok_mod (e_bin or_add ok_add (e_bin or_add ok_add (e_bin (op_mulL.or op_rep) ok_mul (e_var 7) (e_int)) (e_bin (op_mulL.or op_rep) ok_mul (e_int) (e_callB cr_len ok_len (by rfl) z_len PySem.boot_len (a_cons (e_var 2) (a_nil))))) (e_int)) (e_int)) (pe_bm PySem.F.plainAttrs_list PySem.F.slot_list_append PySem.F.type_list_append mt_append (pv 2) (pa_cons (e_bin op_modN ok_mod (e_bin or_add ok_add (e_bin or_add ok_add (e_bin (op_mulL.or op_rep) ok_mul (e_var 7) (e_int)) (e_bin (op_mulL.or op_rep) ok_mul (e_int) (e_callB cr_len ok_len (by rfl) z_len PySem.boot_len (a_cons (e_var 2) (a_nil))))) (e_int)) (e_int)) pa_nil)))))) (b_nil))))
    (b_one (s_ret (e_sl (e_var 2) (o_none) (o_some (e_var 1)))))))
theorem sc__law_is_number : FnScope ["value"] ["value"] (defScope s__law_is_number) := ⟨rfl, rfl, rfl, by decide +kernel, rfl, by decide +kernel, by decide +kernel⟩
theorem cal__law_is_number (T : Top K mg) : CalD P w K mg base 1 "_law_is_number" 1 d__law_is_number := by
  have nd := (sc__law_is_number).nd
  have z_bool := T.z_bool
  have z_int := T.z_int
  have z_isinstance := T.z_isinstance
  refine cal_mk (k := 0) T.f__law_is_number sc__law_is_number rfl (by decide) (fun _ _ _ _ _ _ us hl => match us, hl with | [_], _ => rfl) fun f cdv A outer s H E hr hu => ?_
  have hv := hu
  replace hu := un62 hu
  exact b_one (s_ret (e_and (e_isi (T := "int") (.inl rfl) (by rfl) z_isinstance (by rfl) z_int PyProof.Rows.boot_int (e_var 0)) (e_one (e_not (e_isi (T := "bool") (.inr (.inl rfl)) (by rfl) z_isinstance (by rfl) z_bool PyProof.Rows.boot_bool (e_var 0))))))
theorem sc__law_members : FnScope ["districts", "district", "place"] ["districts", "district"] (defScope s__law_members) := ⟨rfl, rfl, rfl, by decide +kernel, rfl, by decide +kernel, by decide +kernel⟩
theorem cal__law_members (T : Top K mg) : CalD P w K mg base 1 "_law_members" 2 d__law_members := by
  have nd := (sc__law_members).nd
  have z_len := T.z_len
  have z_range := T.z_range
  refine cal_mk (k := 0) T.f__law_members sc__law_members rfl (by decide) (fun _ _ _ _ _ _ us hl => match us, hl with | [_, _], _ => rfl) fun f cdv A outer s H E hr hu => ?_
  have hv := hu
  replace hu := un62 hu
  exact b_one (s_ret (e_comp rfl nd (i_rng1 (by rfl) z_range (a_cons (e_callB cr_len ok_len (by rfl) z_len PySem.boot_len (a_cons (e_var 0) (a_nil))) (a_nil))) (blkOk_by (own := [("place", 2)]) (by kernel_rfl)) (fun _ _ _ _ _ => g_name 2 nd rfl (by first | exact .inl rfl | exact .inr rfl) (by decide)) (fun _ _ _ _ _ => ts_one (t_cmp (or_eq hu) ok_eq (e_ix (e_var 0) (e_var 2)) (e_var 1) (nomark _))) (fun _ _ _ _ _ => e_var 2)))
theorem sc__law_into : FnScope ["size", "links", "inside", "totals", "source", "target", "weight", "place"] ["size", "links", "inside"] (defScope s__law_into) := ⟨rfl, rfl, rfl, by decide +kernel, rfl, by decide +kernel, by decide +kernel⟩
theorem cal__law_into (T : Top K mg) : CalD P w K mg base 1 "_law_into" 3 d__law_into := by
  have nd := (sc__law_into).nd
  have z_range := T.z_range
  refine cal_mk (k := 0) T.f__law_into sc__law_into rfl (by decide) (fun _ _ _ _ _ _ us hl => match us, hl with | [_, _, _], _ => rfl) fun f cdv A outer s H E hr hu => ?_
  have hv := hu
  replace hu := un62 hu
  exact b_cons (s_setLc (i := 3) rfl nd rfl rfl (sw_true rfl rfl rfl (by decide +kernel)) (i_rng1 (by rfl) z_range (a_cons (e_var 0) (a_nil))) (blkOk_by (own := [("place", 7)]) (by kernel_rfl)) (fun _ _ _ _ _ => g_name 7 nd rfl (by first | exact .inl rfl | exact .inr rfl) (by decide)) (fun _ _ _ _ _ => ts_nil) (fun _ _ _ _ _ => e_int))
    (b_cons (s_for (vs := [4, 5, 6]) PassesOwn.never rfl (i_seq (e_var 1)) (g_tup rfl (.cons (pg_name (i := 4) nd rfl (by first | exact .inl rfl | exact .inr rfl)) (.cons (pg_name (i := 5) nd rfl (by first | exact .inl rfl | exact .inr rfl)) (.cons (pg_name (i := 6) nd rfl (by first | exact .inl rfl | exact .inr rfl)) .nil))) (by decide)) (b_one (s_if (t_cmp (or_in hu) (ok_in false) (e_var 5) (e_var 2) (by rfl)) (b_one (s_store 3 (e_bin or_add ok_add (e_ix (e_var 3) (e_var 4)) (e_var 6)) (ps_asg (e_bin or_add ok_add (e_ix (e_var 3) (e_var 4)) (e_var 6)) (pg_sub (pv 3) (e_var 4) set_list)))) (b_nil))))
    (b_one (s_retV 3)))
theorem sc__law_case : FnScope ["draws", "size", "at", "names", "place", "kind", "districts", "links", "source", "target", "weight", "alike", "other"] ["draws"] (defScope s__law_case) := ⟨rfl, rfl, rfl, by decide +kernel, rfl, by decide +kernel, by decide +kernel⟩
theorem cal__law_case (T : Top K mg) : CalD P w K mg base 1 "_law_case" 1 d__law_case := by
  have nd := (sc__law_case).nd
  have z_len := T.z_len
  have z_range := T.z_range
  refine cal_mk (k := 0) T.f__law_case sc__law_case rfl (by decide) (fun _ _ _ _ _ _ us hl => match us, hl with | [_], _ => rfl) fun f cdv A outer s H E hr hu => ?_
  have hv := hu
  replace hu := un62 hu
  exact b_cons (s_set (i := 1) nd rfl (by first | exact .inl rfl | exact .inr rfl) (e_bin or_add ok_add (e_int) (e_bin op_modN ok_mod (e_ix (e_var 0) (e_int)) (e_int))))
    (b_cons (s_if (t_cmp (or_eq hu) ok_eq (e_bin op_modN ok_mod (e_bin op_fdivL ok_div (e_ix (e_var 0) (e_int)) (e_int)) (e_int)) (e_int) (nomark _)) (b_one (s_set (i := 1) nd rfl (by first | exact .inl rfl | exact .inr rfl) (e_bin or_add ok_add (e_int) (e_bin op_modN ok_mod (e_bin op_fdivL ok_div (e_ix (e_var 0) (e_int)) (e_int)) (e_int))))) (b_nil))
    (b_cons (s_set (i := 3) nd rfl (by first | exact .inl rfl | exact .inr rfl) (e_comp rfl nd (i_rng1 (by rfl) z_range (a_cons (e_bin or_add ok_add (e_int) (e_bin op_modN ok_mod (e_ix (e_var 0) (e_int)) (e_int))) (a_nil))) (blkOk_by (own := [("at", 2)]) (by kernel_rfl)) (fun _ _ _ _ _ => g_name 2 nd rfl (by first | exact .inl rfl | exact .inr rfl) (by decide)) (fun _ _ _ _ _ => ts_nil) (fun _ _ _ _ _ => e_bin op_modN ok_mod (e_ix (e_var 0) (e_bin or_add ok_add (e_int) (e_var 2))) (e_int))))
    (b_cons (s_set (i := 5) nd rfl (by first | exact .inl rfl | exact .inr rfl) (e_comp rfl nd (i_rng1 (by rfl) z_range (a_cons (e_var 1) (a_nil))) (blkOk_by (own := [("place", 4)]) (by kernel_rfl)) (fun _ _ _ _ _ => g_name 4 nd rfl (by first | exact .inl rfl | exact .inr rfl) (by decide)) (fun _ _ _ _ _ => ts_nil) (fun _ _ _ _ _ => e_bin op_modN ok_mod (e_ix (e_var 0) (e_bin or_add ok_add (e_int) (e_var 4))) (e_bin or_add ok_add (e_int) (e_bin op_fdivL ok_div (e_var 1) (e_int))))))
    (b_cons (s_setLc (i := 6) rfl nd rfl rfl (sw_true rfl rfl rfl (by decide +kernel)) (i_rng1 (by rfl) z_range (a_cons (e_var 1) (a_nil))) (blkOk_by (own := [("place", 4)]) (by kernel_rfl)) (fun _ _ _ _ _ => g_name 4 nd rfl (by first | exact .inl rfl | exact .inr rfl) (by decide)) (fun _ _ _ _ _ => ts_nil) (fun _ _ _ _ _ => e_ix (e_var 3) (e_bin op_modN ok_mod (e_ix (e_var 5) (e_var 4)) (e_callB cr_len ok_len (by rfl) z_len PySem.boot_len (a_cons (e_var 3) (a_nil))))))
    (b_cons (s_set (i := 7) nd rfl (by first | exact .inl rfl | exact .inr rfl) e_lstE)
    (b_cons (s_for (vs := [2]) PassesOwn.never rfl (i_rng1 (by rfl) z_range (a_cons (e_bin op_modN ok_mod (e_ix (e_var 0) (e_int)) (e_int)) (a_nil))) (g_name 2 nd rfl (by first | exact .inl rfl | exact .inr rfl) (by decide)) (b_cons (s_set (i := 8) nd rfl (by first | exact .inl rfl | exact .inr rfl) (e_bin op_modN ok_mod (e_ix (e_var 0) (e_bin or_add ok_add (e_int) (e_var 2))) (e_var 1)))
    (b_cons (s_set (i := 9) nd rfl (by first | exact .inl rfl | exact .inr rfl) (e_bin op_modN ok_mod (e_ix (e_var 0) (e_bin or_add ok_add (e_int) (e_var 2))) (e_var 1)))
    (b_cons (s_set (i := 10) nd rfl (by first | exact .inl rfl | exact .inr rfl) (e_bin or_add ok_add (e_int) (e_bin op_modN ok_mod (e_bin op_fdivL ok_div (e_ix (e_var 0) (e_bin or_add ok_add (e_int) (e_var 2))) (e_int)) (e_int))))
    (b_one (s_if (t_cmp op_gt ok_gt (e_bin op_modN ok_mod (e_ix (e_var 0) (e_int)) (e_int)) (e_int) (nomark _)) (b_one (s_for (vs := [4]) PassesOwn.never rfl (i_rng1 (by rfl) z_range (a_cons (e_var 1) (a_nil))) (g_name 4 nd rfl (by first | exact .inl rfl | exact .inr rfl) (by decide)) (b_one (s_if (t_cmp (or_eq hu) ok_eq (e_ix (e_var 5) (e_var 4)) (e_ix (e_var 5) (e_var 8)) (nomark _)) (b_cons (s_setLc (i := 11) rfl nd rfl rfl (sw_true rfl rfl rfl (by decide +kernel)) (i_rng1 (by rfl) z_range (a_cons (e_var 1) (a_nil))) (blkOk_by (own := [("other", 12)]) (by kernel_rfl)) (fun _ _ _ _ _ => g_name 12 nd rfl (by first | exact .inl rfl | exact .inr rfl) (by decide)) (fun _ _ _ _ _ => ts_one (t_cmp (or_eq hu) ok_eq (e_ix (e_var 5) (e_var 12)) (e_ix (e_var 5) (e_var 9)) (nomark _))) (fun _ _ _ _ _ => e_var 12))
    (b_one (s_app 7 (e_tup (a_cons (e_var 4) (a_cons (e_ix (e_var 11) (e_bin op_modN ok_mod (e_bin or_add ok_add (e_var 9) (e_var 4)) (e_callB cr_len ok_len (by rfl) z_len PySem.boot_len (a_cons (e_var 11) (a_nil))))) (a_cons (e_var 10) (a_nil))))) (pe_bm PySem.F.plainAttrs_list PySem.F.slot_list_append PySem.F.type_list_append mt_append (pv 7) (pa_cons (e_tup (a_cons (e_var 4) (a_cons (e_ix (e_var 11) (e_bin op_modN ok_mod (e_bin or_add ok_add (e_var 9) (e_var 4)) (e_callB cr_len ok_len (by rfl) z_len PySem.boot_len (a_cons (e_var 11) (a_nil))))) (a_cons (e_var 10) (a_nil))))) pa_nil))))) (b_nil))))) (b_one (s_app 7 (e_tup (a_cons (e_var 8) (a_cons (e_var 9) (a_cons (e_var 10) (a_nil))))) (pe_bm PySem.F.plainAttrs_list PySem.F.slot_list_append PySem.F.type_list_append mt_append (pv 7) (pa_cons (e_tup (a_cons (e_var 8) (a_cons (e_var 9) (a_cons (e_var 10) (a_nil))))) pa_nil))))))))))
    (b_one (s_retT (is := [1, 7, 6]) (pe_tup (pa_cons (pv 1) (pa_cons (pv 7) (pa_cons (pv 6) (pa_nil)))))))))))))
theorem sc__law_divisions : FnScope ["size", "found", "place", "longer", "one", "number"] ["size"] (defScope s__law_divisions) := ⟨rfl, rfl, rfl, by decide +kernel, rfl, by decide +kernel, by decide +kernel⟩
theorem cal__law_divisions (T : Top K mg) : CalD P w K mg base 1 "_law_divisions" 1 d__law_divisions := by
  have nd := (sc__law_divisions).nd
  have z_max := T.z_max
  have z_range := T.z_range
  refine cal_mk (k := 0) T.f__law_divisions sc__law_divisions rfl (by decide) (fun _ _ _ _ _ _ us hl => match us, hl with | [_], _ => rfl) fun f cdv A outer s H E hr hu => ?_
  have hv := hu
  replace hu := un62 hu
  exact b_cons (s_set (i := 1) nd rfl (by first | exact .inl rfl | exact .inr rfl) (e_lst (a_cons (e_lst (a_cons (e_int) (a_nil))) (a_nil))))
    (b_cons (s_for (vs := [2]) PassesOwn.never rfl (i_rng2 (by rfl) z_range (a_cons (e_int) (a_cons (e_var 0) (a_nil)))) (g_name 2 nd rfl (by first | exact .inl rfl | exact .inr rfl) (by decide)) (b_cons (s_set (i := 3) nd rfl (by first | exact .inl rfl | exact .inr rfl) e_lstE)
    (b_cons (s_for (vs := [4]) PassesOwn.never rfl (i_seq (e_var 1)) (g_name 4 nd rfl (by first | exact .inl rfl | exact .inr rfl) (by decide)) (b_one (s_set (i := 3) nd rfl (by first | exact .inl rfl | exact .inr rfl) (e_bin or_add ok_add (e_var 3) (e_comp rfl nd (i_rng1 (by rfl) z_range (a_cons (e_bin or_add ok_add (e_callB (cr_max rfl) ok_max (by rfl) z_max PyProof.Rows.boot_max (a_cons (e_var 4) (a_nil))) (e_int)) (a_nil))) (blkOk_by (own := [("number", 5)]) (by kernel_rfl)) (fun _ _ _ _ _ => g_name 5 nd rfl (by first | exact .inl rfl | exact .inr rfl) (by decide)) (fun _ _ _ _ _ => ts_nil) (fun _ _ _ _ _ => e_bin or_add ok_add (e_var 4) (e_lst (a_cons (e_var 5) (a_nil)))))))))
    (b_one (s_set (i := 1) nd rfl (by first | exact .inl rfl | exact .inr rfl) (e_var 3))))))
    (b_one (s_retV 1)))
theorem sc__law_finer : FnScope ["first", "second", "place"] ["first", "second"] (defScope s__law_finer) := ⟨rfl, rfl, rfl, by decide +kernel, rfl, by decide +kernel, by decide +kernel⟩
theorem cal__law_finer (T : Top K mg) : CalD P w K mg base 1 "_law_finer" 2 d__law_finer := by
  have nd := (sc__law_finer).nd
  have z_len := T.z_len
  have z_range := T.z_range
  refine cal_mk (k := 0) T.f__law_finer sc__law_finer rfl (by decide) (fun _ _ _ _ _ _ us hl => match us, hl with | [_, _], _ => rfl) fun f cdv A outer s H E hr hu => ?_
  have hv := hu
  replace hu := un62 hu
  exact b_cons (s_for (vs := [2]) PassesOwn.never rfl (i_rng1 (by rfl) z_range (a_cons (e_callB cr_len ok_len (by rfl) z_len PySem.boot_len (a_cons (e_var 0) (a_nil))) (a_nil))) (g_name 2 nd rfl (by first | exact .inl rfl | exact .inr rfl) (by decide)) (b_one (s_if (t_cmp (or_ne hu) ok_ne (e_ix (e_var 1) (e_var 2)) (e_ix (e_var 1) (e_index hu (pe_bm PySem.F.plainAttrs_list PySem.F.slot_list_index PySem.F.type_list_index (mt_indexD hv) (e_var 0) (pa_cons (e_ix (e_var 0) (e_var 2)) pa_nil)))) (nomark _)) (b_one (s_ret (e_bl))) (b_nil))))
    (b_one (s_ret (e_bl)))
theorem sc_district_fault : FnScope ["size", "links", "districts", "place", "first", "district"] ["size", "links", "districts"] (defScope s_district_fault) := ⟨rfl, rfl, rfl, by decide +kernel, rfl, by decide +kernel, by decide +kernel⟩
theorem cal_district_fault (T : Top K mg) : CalD P w K mg base 2 "district_fault" 3 d_district_fault := by
  have nd := (sc_district_fault).nd
  have z_range := T.z_range
  have C_unlike_district := cal_unlike_district (P := P) (w := w) (base := base) T
  have C_weights_out := cal_weights_out (P := P) (w := w) (base := base) T
  refine cal_mk (k := 1) T.f_district_fault sc_district_fault rfl (by decide) (fun _ _ _ _ _ _ us hl => match us, hl with | [_, _, _], _ => rfl) fun f cdv A outer s H E hr hu => ?_
  have hv := hu
  replace hu := un62 hu
  exact b_cons (s_for (vs := [3]) PassesOwn.never rfl (i_rng1 (by rfl) z_range (a_cons (e_var 0) (a_nil))) (g_name 3 nd rfl (by first | exact .inl rfl | exact .inr rfl) (by decide)) (b_cons (s_set (i := 4) nd rfl (by first | exact .inl rfl | exact .inr rfl) (e_index hu (pe_bm PySem.F.plainAttrs_list PySem.F.slot_list_index PySem.F.type_list_index (mt_indexD hv) (e_var 2) (pa_cons (e_ix (e_var 2) (e_var 3)) pa_nil))))
    (b_cons (s_set (i := 5) nd rfl (by first | exact .inl rfl | exact .inr rfl) (e_cal (C_unlike_district) hr (by decide) (by rfl) (a_cons (e_cal (C_weights_out) hr (by decide) (by rfl) (a_cons (e_var 1) (a_cons (e_var 2) (a_cons (e_var 4) (a_nil))))) (a_cons (e_cal (C_weights_out) hr (by decide) (by rfl) (a_cons (e_var 1) (a_cons (e_var 2) (a_cons (e_var 3) (a_nil))))) (a_nil)))))
    (b_one (s_if (t_notN (e_var 5)) (b_one (s_ret (e_tup (a_cons (e_var 4) (a_cons (e_var 3) (a_cons (e_var 5) (a_nil))))))) (b_nil))))))
    (b_one (s_ret (e_non)))
theorem sc_split_key : FnScope ["links", "division", "inside", "place"] ["links", "division", "inside", "place"] (defScope s_split_key) := ⟨rfl, rfl, rfl, by decide +kernel, rfl, by decide +kernel, by decide +kernel⟩
theorem cal_split_key (T : Top K mg) : CalD P w K mg base 2 "split_key" 4 d_split_key := by
  have nd := (sc_split_key).nd
  have C_weight_into := cal_weight_into (P := P) (w := w) (base := base) T
  refine cal_mk (k := 1) T.f_split_key sc_split_key rfl (by decide) (fun _ _ _ _ _ _ us hl => match us, hl with | [_, _, _, _], _ => rfl) fun f cdv A outer s H E hr hu => ?_
  have hv := hu
  replace hu := un62 hu
  exact b_cons (s_if (t_cmp (or_in hu) (ok_in false) (e_var 3) (e_var 2) (by rfl)) (b_one (s_ret (e_tup (a_cons (e_ix (e_var 1) (e_var 3)) (a_cons (e_int) (a_nil)))))) (b_nil))
    (b_one (s_ret (e_tup (a_cons (e_ix (e_var 1) (e_var 3)) (a_cons (e_cal (C_weight_into) hr (by decide) (by rfl) (a_cons (e_var 0) (a_cons (e_var 3) (a_cons (e_var 2) (a_nil))))) (a_nil))))))
theorem sc__law_is_plain : FnScope ["size", "links", "division", "district", "totals", "place"] ["size", "links", "division"] (defScope s__law_is_plain) := ⟨rfl, rfl, rfl, by decide +kernel, rfl, by decide +kernel, by decide +kernel⟩
theorem cal__law_is_plain (T : Top K mg) : CalD P w K mg base 2 "_law_is_plain" 3 d__law_is_plain := by
  have nd := (sc__law_is_plain).nd
  have z_range := T.z_range
  have z_set := T.z_set
  have z_sorted := T.z_sorted
  have C__law_into := cal__law_into (P := P) (w := w) (base := base) T
  have C__law_members := cal__law_members (P := P) (w := w) (base := base) T
  refine cal_mk (k := 1) T.f__law_is_plain sc__law_is_plain rfl (by decide) (fun _ _ _ _ _ _ us hl => match us, hl with | [_, _, _], _ => rfl) fun f cdv A outer s H E hr hu => ?_
  have hv := hu
  replace hu := un62 hu
  exact b_cons (s_for (vs := [3]) PassesOwn.never rfl (i_seq (e_sortSetI rfl (by rfl) z_sorted (by rfl) z_set (e_var 2))) (g_name 3 nd rfl (by first | exact .inl rfl | exact .inr rfl) (by decide)) (b_cons (s_set (i := 4) nd rfl (by first | exact .inl rfl | exact .inr rfl) (e_cal (C__law_into) hr (by decide) (by rfl) (a_cons (e_var 0) (a_cons (e_var 1) (a_cons (e_cal (C__law_members) hr (by decide) (by rfl) (a_cons (e_var 2) (a_cons (e_var 3) (a_nil)))) (a_nil))))))
    (b_one (s_for (vs := [5]) PassesOwn.never rfl (i_rng1 (by rfl) z_range (a_cons (e_var 0) (a_nil))) (g_name 5 nd rfl (by first | exact .inl rfl | exact .inr rfl) (by decide)) (b_one (s_if (t_w (w_and (t_cmp (or_ne hu) ok_ne (e_ix (e_var 2) (e_var 5)) (e_var 3) (nomark _)) (w_and1 (t_cmp (or_ne hu) ok_ne (e_ix (e_var 4) (e_var 5)) (e_ix (e_var 4) (e_index hu (pe_bm PySem.F.plainAttrs_list PySem.F.slot_list_index PySem.F.type_list_index (mt_indexD hv) (e_var 2) (pa_cons (e_ix (e_var 2) (e_var 5)) pa_nil)))) (nomark _))))) (b_one (s_ret (e_bl))) (b_nil)))))))
    (b_one (s_ret (e_bl)))
theorem sc_split_by : FnScope ["size", "links", "division", "inside", "place"] ["size", "links", "division", "inside"] (defScope s_split_by) := ⟨rfl, rfl, rfl, by decide +kernel, rfl, by decide +kernel, by decide +kernel⟩
theorem cal_split_by (T : Top K mg) : CalD P w K mg base 3 "split_by" 4 d_split_by := by
  have nd := (sc_split_by).nd
  have z_range := T.z_range
  have C_numbered_T := cal_numbered_T (P := P) (w := w) (base := base) T
  have C_split_key := cal_split_key (P := P) (w := w) (base := base) T
  refine cal_mk (k := 2) T.f_split_by sc_split_by rfl (by decide) (fun _ _ _ _ _ _ us hl => match us, hl with | [_, _, _, _], _ => rfl) fun f cdv A outer s H E hr hu => ?_
  have hv := hu
  replace hu := un62 hu
  exact b_one (s_ret (e_cal (C_numbered_T) hr (by decide) (by rfl) (a_cons (e_comp rfl nd (i_rng1 (by rfl) z_range (a_cons (e_var 0) (a_nil))) (blkOk_by (own := [("place", 4)]) (by kernel_rfl)) (fun _ _ _ _ _ => g_name 4 nd rfl (by first | exact .inl rfl | exact .inr rfl) (by decide)) (fun _ _ _ _ _ => ts_nil) (fun _ _ _ _ _ => e_cal (C_split_key) hr (by decide) (by rfl) (a_cons (e_var 1) (a_cons (e_var 2) (a_cons (e_var 3) (a_cons (e_var 4) (a_nil))))))) (a_nil))))
theorem sc_coarsest : FnScope ["size", "links", "districts", "division", "splitters", "fault", "inside"] ["size", "links", "districts"] (defScope s_coarsest) := ⟨rfl, rfl, rfl, by decide +kernel, rfl, by decide +kernel, by decide +kernel⟩
theorem cal_coarsest (T : Top K mg) : CalD P w K mg base 4 "coarsest" 3 d_coarsest := by
  have nd := (sc_coarsest).nd
  have C_numbered := cal_numbered (P := P) (w := w) (base := base) T
  have C_district_fault := cal_district_fault (P := P) (w := w) (base := base) T
  have C_members := cal_members (P := P) (w := w) (base := base) T
  have C_split_by := cal_split_by (P := P) (w := w) (base := base) T
  refine cal_mk (k := 3) T.f_coarsest sc_coarsest rfl (by decide) (fun _ _ _ _ _ _ us hl => match us, hl with | [_, _, _], _ => rfl) fun f cdv A outer s H E hr hu => ?_
  have hv := hu
  replace hu := un62 hu
  exact b_cons (s_set (i := 3) nd rfl (by first | exact .inl rfl | exact .inr rfl) (e_cal (C_numbered) hr (by decide) (by rfl) (a_cons (e_var 2) (a_nil))))
    (b_cons (s_set (i := 4) nd rfl (by first | exact .inl rfl | exact .inr rfl) e_lstE)
    (b_cons (s_set (i := 5) nd rfl (by first | exact .inl rfl | exact .inr rfl) (e_cal (C_district_fault) hr (by decide) (by rfl) (a_cons (e_var 0) (a_cons (e_var 1) (a_cons (e_var 3) (a_nil))))))
    (b_cons (s_while 1000000000 PassesOwn.never (t_notN (e_var 5)) (b_cons (s_set (i := 6) nd rfl (by first | exact .inl rfl | exact .inr rfl) (e_cal (C_members) hr (by decide) (by rfl) (a_cons (e_var 3) (a_cons (e_ix (e_var 5) (e_int)) (a_nil)))))
    (b_cons (s_set (i := 3) nd rfl (by first | exact .inl rfl | exact .inr rfl) (e_cal (C_split_by) hr (by decide) (by rfl) (a_cons (e_var 0) (a_cons (e_var 1) (a_cons (e_var 3) (a_cons (e_var 6) (a_nil)))))))
    (b_cons (s_app 4 (e_var 6) (pe_bm PySem.F.plainAttrs_list PySem.F.slot_list_append PySem.F.type_list_append mt_append (pv 4) (pa_cons (e_var 6) pa_nil)))
    (b_one (s_set (i := 5) nd rfl (by first | exact .inl rfl | exact .inr rfl) (e_cal (C_district_fault) hr (by decide) (by rfl) (a_cons (e_var 0) (a_cons (e_var 1) (a_cons (e_var 3) (a_nil)))))))))))
    (b_one (s_retT (is := [3, 4]) (pe_tup (pa_cons (pv 3) (pa_cons (pv 4) (pa_nil)))))))))
theorem sc__law_answer : FnScope ["size", "links", "districts", "passed", "told", "item"] ["size", "links", "districts"] (defScope s__law_answer) := ⟨rfl, rfl, rfl, by decide +kernel, rfl, by decide +kernel, by decide +kernel⟩
theorem cal__law_answer (T : Top K mg) : CalD P w K mg base 5 "_law_answer" 3 d__law_answer := by
  have nd := (sc__law_answer).nd
  have z_isinstance := T.z_isinstance
  have z_len := T.z_len
  have z_list := T.z_list
  have z_tuple := T.z_tuple
  have C_coarsest := cal_coarsest (P := P) (w := w) (base := base) T
  have C__law_is_number := cal__law_is_number (P := P) (w := w) (base := base) T
  refine cal_mk (k := 4) T.f__law_answer sc__law_answer rfl (by decide) (fun _ _ _ _ _ _ us hl => match us, hl with | [_, _, _], _ => rfl) fun f cdv A outer s H E hr hu => ?_
  have hv := hu
  replace hu := un62 hu
  exact b_cons (s_set (i := 3) nd rfl (by first | exact .inl rfl | exact .inr rfl) (e_lst (a_cons (e_callTy call_list_of ok_list (by rfl) z_list PyProof.Rows.boot_list (a_cons (e_var 1) (a_nil))) (a_cons (e_callTy call_list_of ok_list (by rfl) z_list PyProof.Rows.boot_list (a_cons (e_var 2) (a_nil))) (a_nil)))))
    (b_cons (s_set (i := 4) nd rfl (by first | exact .inl rfl | exact .inr rfl) (e_cal (C_coarsest) hr (by decide) (by rfl) (a_cons (e_var 0) (a_cons (e_ix (e_var 3) (e_int)) (a_cons (e_ix (e_var 3) (e_int)) (a_nil))))))
    (b_cons (s_if (t_w (w_or (t_cmp (or_ne hu) ok_ne (e_var 3) (e_lst (a_cons (e_var 1) (a_cons (e_var 2) (a_nil)))) (nomark _)) (w_or (t_not (t_val (e_isi (T := "tuple") (.inr (.inr (.inr (.inl rfl)))) (by rfl) z_isinstance (by rfl) z_tuple PyProof.Rows.boot_tuple (e_var 4)))) (w_or1 (t_cmp (or_ne hu) ok_ne (e_callB cr_len ok_len (by rfl) z_len PySem.boot_len (a_cons (e_var 4) (a_nil))) (e_int) (nomark _)))))) (b_one (s_retNKc 1 (e_non))) (b_nil))
    (b_cons (s_if (t_w (w_or (t_not (t_val (e_isi (T := "list") (.inr (.inr (.inl rfl))) (by rfl) z_isinstance (by rfl) z_list PyProof.Rows.boot_list (e_ix (e_var 4) (e_int))))) (w_or1 (t_cmp (or_ne hu) ok_ne (e_callB cr_len ok_len (by rfl) z_len PySem.boot_len (a_cons (e_ix (e_var 4) (e_int)) (a_nil))) (e_var 0) (nomark _))))) (b_one (s_retNKc 1 (e_non))) (b_nil))
    (b_cons (s_for (vs := [5]) PassesOwn.never rfl (i_seq (e_ix (e_var 4) (e_int))) (g_name 5 nd rfl (by first | exact .inl rfl | exact .inr rfl) (by decide)) (b_one (s_if (t_w (w_or (t_not (t_val (e_cal (C__law_is_number) hr (by decide) (by rfl) (a_cons (e_var 5) (a_nil))))) (w_or (t_cmp op_lt ok_lt (e_var 5) (e_int) (nomark _)) (w_or1 (t_cmp op_ge ok_ge (e_var 5) (e_var 0) (nomark _)))))) (b_one (s_retNKc 1 (e_non))) (b_nil))))
    (b_one (s_ret (e_callTy call_list_of ok_list (by rfl) z_list PyProof.Rows.boot_list (a_cons (e_ix (e_var 4) (e_int)) (a_nil)))))))))
theorem sc_law : FnScope ["script", "draws", "size", "links", "districts", "answer", "division", "halves", "other", "whole", "place"] ["script"] (defScope s_law) := ⟨rfl, rfl, rfl, by decide +kernel, rfl, by decide +kernel, by decide +kernel⟩
theorem ok_law {fa : Addr} {fd : FuncData} (F : Fun K "law" "law" s_law fa fd) (T : Top K mg) : FnOk P w K mg base CX0 6 fa fd ["script"] (spD 1 (d_law K)) := by
  have nd := (sc_law).nd
  have z_range := T.z_range
  have C__law_draws := cal__law_draws (P := P) (w := w) (base := base) T
  have C__law_case := cal__law_case (P := P) (w := w) (base := base) T
  have C__law_answer := cal__law_answer (P := P) (w := w) (base := base) T
  have C__law_is_plain := cal__law_is_plain (P := P) (w := w) (base := base) T
  have C__law_finer := cal__law_finer (P := P) (w := w) (base := base) T
  have C__law_divisions := cal__law_divisions (P := P) (w := w) (base := base) T
  refine def_ok (k := 5) F sc_law rfl (by decide) fun cdv A outer s H E hr hu => ?_
  have hv := hu
  replace hu := un62 hu
  exact b_cons (s_set (i := 1) nd rfl (by first | exact .inl rfl | exact .inr rfl) (e_cal (C__law_draws) hr (by decide) (by rfl) (a_cons (e_var 0) (a_cons (e_int) (a_nil)))))
    (b_cons (s_setT (is := [2, 3, 4]) (ps_asg (e_cal (C__law_case) hr (by decide) (by rfl) (a_cons (e_var 1) (a_nil))) (pg_tup rfl (PNs.pgs (is := [2, 3, 4]) (.cons (pg_name (i := 2) nd rfl (by first | exact .inl rfl | exact .inr rfl)) (.cons (pg_name (i := 3) nd rfl (by first | exact .inl rfl | exact .inr rfl)) (.cons (pg_name (i := 4) nd rfl (by first | exact .inl rfl | exact .inr rfl)) .nil)))))))
    (b_cons (s_set (i := 5) nd rfl (by first | exact .inl rfl | exact .inr rfl) (e_cal (C__law_answer) hr (by decide) (by rfl) (a_cons (e_var 2) (a_cons (e_var 3) (a_cons (e_var 4) (a_nil))))))
    (b_cons (s_if (t_w (w_or (t_isN (e_var 5)) (w_or (t_not (t_val (e_cal (C__law_is_plain) hr (by decide) (by rfl) (a_cons (e_var 2) (a_cons (e_var 3) (a_cons (e_var 5) (a_nil))))))) (w_or1 (t_not (t_val (e_cal (C__law_finer) hr (by decide) (by rfl) (a_cons (e_var 5) (a_cons (e_var 4) (a_nil)))))))))) (b_one (s_ret (e_bl))) (b_nil))
    (b_cons (s_for (vs := [6]) PassesOwn.never rfl (i_seq (e_cal (C__law_divisions) hr (by decide) (by rfl) (a_cons (e_var 2) (a_nil)))) (g_name 6 nd rfl (by first | exact .inl rfl | exact .inr rfl) (by decide)) (b_one (s_if (t_w (w_and (t_val (e_cal (C__law_finer) hr (by decide) (by rfl) (a_cons (e_var 6) (a_cons (e_var 4) (a_nil))))) (w_and (t_not (t_val (e_cal (C__law_finer) hr (by decide) (by rfl) (a_cons (e_var 6) (a_cons (e_var 5) (a_nil)))))) (w_and1 (t_val (e_cal (C__law_is_plain) hr (by decide) (by rfl) (a_cons (e_var 2) (a_cons (e_var 3) (a_cons (e_var 6) (a_nil)))))))))) (b_one (s_ret (e_bl))) (b_nil))))
    (b_cons (s_if (t_cmp (or_ne hu) ok_ne (e_cal (C__law_answer) hr (by decide) (by rfl) (a_cons (e_var 2) (a_cons (e_var 3) (a_cons (e_var 5) (a_nil))))) (e_var 5) (nomark _)) (b_one (s_ret (e_bl))) (b_nil))
    (b_cons (s_setLc (i := 7) rfl nd rfl rfl (sw_true rfl rfl rfl (by decide +kernel)) (i_rng1 (by rfl) z_range (a_cons (e_var 2) (a_nil))) (blkOk_by (own := [("place", 10)]) (by kernel_rfl)) (fun _ _ _ _ _ => g_name 10 nd rfl (by first | exact .inl rfl | exact .inr rfl) (by decide)) (fun _ _ _ _ _ => ts_nil) (fun _ _ _ _ _ => e_bin or_add ok_add (e_bin (op_mulL.or op_rep) ok_mul (e_int) (e_index hu (pe_bm PySem.F.plainAttrs_list PySem.F.slot_list_index PySem.F.type_list_index (mt_indexD hv) (e_var 4) (pa_cons (e_ix (e_var 4) (e_var 10)) pa_nil)))) (e_bin op_modN ok_mod (e_bin op_fdivL ok_div (e_ix (e_var 1) (e_int)) (e_bin or_add ok_add (e_var 10) (e_int))) (e_int))))
    (b_cons (s_set (i := 8) nd rfl (by first | exact .inl rfl | exact .inr rfl) (e_cal (C__law_answer) hr (by decide) (by rfl) (a_cons (e_var 2) (a_cons (e_var 3) (a_cons (e_var 7) (a_nil))))))
    (b_cons (s_if (t_w (w_or (t_isN (e_var 8)) (w_or (t_not (t_val (e_cal (C__law_finer) hr (by decide) (by rfl) (a_cons (e_var 8) (a_cons (e_var 7) (a_nil)))))) (w_or1 (t_not (t_val (e_cal (C__law_finer) hr (by decide) (by rfl) (a_cons (e_var 8) (a_cons (e_var 5) (a_nil)))))))))) (b_one (s_ret (e_bl))) (b_nil))
    (b_cons (s_set (i := 9) nd rfl (by first | exact .inl rfl | exact .inr rfl) (e_cal (C__law_answer) hr (by decide) (by rfl) (a_cons (e_var 2) (a_cons (e_var 3) (a_cons (e_comp rfl nd (i_rng1 (by rfl) z_range (a_cons (e_var 2) (a_nil))) (blkOk_by (own := [("place", 10)]) (by kernel_rfl)) (fun _ _ _ _ _ => g_name 10 nd rfl (by first | exact .inl rfl | exact .inr rfl) (by decide)) (fun _ _ _ _ _ => ts_nil) (fun _ _ _ _ _ => e_int)) (a_nil))))))
    (b_one (s_ret (e_cmp (or_eq hu) ok_eq (e_var 9) (e_comp rfl nd (i_rng1 (by rfl) z_range (a_cons (e_var 2) (a_nil))) (blkOk_by (own := [("place", 10)]) (by kernel_rfl)) (fun _ _ _ _ _ => g_name 10 nd rfl (by first | exact .inl rfl | exact .inr rfl) (by decide)) (fun _ _ _ _ _ => ts_nil) (fun _ _ _ _ _ => e_int)) (nomark _)))))))))))))
end
theorem law_holds {K : PySem.W.Frag} {ns : List Int} {d : D} (hl : ns.length ≤ 63) (h : ScrD K ns d) : ∃ k, d_law K [d] = .ok (.bl true, k) := by
  obtain ⟨L, h1, h2, e⟩ := draws_ok (m := 44) h (by decide)
  obtain ⟨k, e2, _⟩ := x_law (K := K) (d := d) (L := L) (r := true) ⟨1, e, fun m q => by cases q; rfl⟩ (law_true h1 h2)
  exact ⟨k, e2⟩
theorem top_mk {K : PySem.W.Frag} {h : Heap} {mg : Str → Option Value} (X : K.In h) (G : h.Ns mainGlobals mg) {f0 f1 f2 f3 f4 f5 f6 f7 f8 f9 f10 f11 f12 f13 f14 f15 f16 f17 f18 f19  : Addr} {od0 an0 od1 an1 od2 an2 od3 an3 od4 an4 od5 an5 od6 an6 od7 an7 od8 an8 od9 an9 od10 an10 od11 an11 od12 an12 od13 an13 od14 an14 od15 an15 od16 an16 od17 an17 od18 an18 od19 an19 : Option Addr} {sl0 sl1 sl2 sl3 sl4 sl5 sl6 sl7 sl8 sl9 sl10 sl11 sl12 sl13 sl14 sl15 sl16 sl17 sl18 sl19 : Array (Option Value)} {oc0 kV0 dc0 pm0 cd0 ct0 oc1 kV1 dc1 pm1 cd1 ct1 oc2 kV2 dc2 pm2 cd2 ct2 oc3 kV3 dc3 pm3 cd3 ct3 oc4 kV4 dc4 pm4 cd4 ct4 oc5 kV5 dc5 pm5 cd5 ct5 oc6 kV6 dc6 pm6 cd6 ct6 oc7 kV7 dc7 pm7 cd7 ct7 oc8 kV8 dc8 pm8 cd8 ct8 oc9 kV9 dc9 pm9 cd9 ct9 oc10 kV10 dc10 pm10 cd10 ct10 oc11 kV11 dc11 pm11 cd11 ct11 oc12 kV12 dc12 pm12 cd12 ct12 oc13 kV13 dc13 pm13 cd13 ct13 oc14 kV14 dc14 pm14 cd14 ct14 oc15 kV15 dc15 pm15 cd15 ct15 oc16 kV16 dc16 pm16 cd16 ct16 oc17 kV17 dc17 pm17 cd17 ct17 oc18 kV18 dc18 pm18 cd18 ct18 oc19 kV19 dc19 pm19 cd19 ct19 : Value} 
  (a0 : PySem.W.nsIn K mainGlobals "numbered" = some (some (.ref f0))) (l0 : K.lookup f0 = some ⟨oc0, od0, .func (PySem.W.fnOf "numbered" "numbered" (defArgs s_numbered) (defBody s_numbered) (defScope s_numbered) .none kV0 dc0 pm0 an0 cd0 ct0), sl0⟩) (c0 : PySem.W.codeIn K cd0 "numbered" = true) (k0 : PySem.W.keepIn K (.ref f0) = true)
  (a1 : PySem.W.nsIn K mainGlobals "numbered" = some (some (.ref f1))) (l1 : K.lookup f1 = some ⟨oc1, od1, .func (PySem.W.fnOf "numbered" "numbered" (defArgs s_numbered_T) (defBody s_numbered_T) (defScope s_numbered_T) .none kV1 dc1 pm1 an1 cd1 ct1), sl1⟩) (c1 : PySem.W.codeIn K cd1 "numbered" = true) (k1 : PySem.W.keepIn K (.ref f1) = true)
  (a2 : PySem.W.nsIn K mainGlobals "members" = some (some (.ref f2))) (l2 : K.lookup f2 = some ⟨oc2, od2, .func (PySem.W.fnOf "members" "members" (defArgs s_members) (defBody s_members) (defScope s_members) .none kV2 dc2 pm2 an2 cd2 ct2), sl2⟩) (c2 : PySem.W.codeIn K cd2 "members" = true) (k2 : PySem.W.keepIn K (.ref f2) = true)
  (a3 : PySem.W.nsIn K mainGlobals "weights_out" = some (some (.ref f3))) (l3 : K.lookup f3 = some ⟨oc3, od3, .func (PySem.W.fnOf "weights_out" "weights_out" (defArgs s_weights_out) (defBody s_weights_out) (defScope s_weights_out) .none kV3 dc3 pm3 an3 cd3 ct3), sl3⟩) (c3 : PySem.W.codeIn K cd3 "weights_out" = true) (k3 : PySem.W.keepIn K (.ref f3) = true)
  (a4 : PySem.W.nsIn K mainGlobals "unlike_district" = some (some (.ref f4))) (l4 : K.lookup f4 = some ⟨oc4, od4, .func (PySem.W.fnOf "unlike_district" "unlike_district" (defArgs s_unlike_district) (defBody s_unlike_district) (defScope s_unlike_district) .none kV4 dc4 pm4 an4 cd4 ct4), sl4⟩) (c4 : PySem.W.codeIn K cd4 "unlike_district" = true) (k4 : PySem.W.keepIn K (.ref f4) = true)
  (a5 : PySem.W.nsIn K mainGlobals "weight_into" = some (some (.ref f5))) (l5 : K.lookup f5 = some ⟨oc5, od5, .func (PySem.W.fnOf "weight_into" "weight_into" (defArgs s_weight_into) (defBody s_weight_into) (defScope s_weight_into) .none kV5 dc5 pm5 an5 cd5 ct5), sl5⟩) (c5 : PySem.W.codeIn K cd5 "weight_into" = true) (k5 : PySem.W.keepIn K (.ref f5) = true)
  (a6 : PySem.W.nsIn K mainGlobals "_law_draws" = some (some (.ref f6))) (l6 : K.lookup f6 = some ⟨oc6, od6, .func (PySem.W.fnOf "_law_draws" "_law_draws" (defArgs s__law_draws) (defBody s__law_draws) (defScope s__law_draws) .none kV6 dc6 pm6 an6 cd6 ct6), sl6⟩) (c6 : PySem.W.codeIn K cd6 "_law_draws" = true) (k6 : PySem.W.keepIn K (.ref f6) = true)
  (a7 : PySem.W.nsIn K mainGlobals "_law_is_number" = some (some (.ref f7))) (l7 : K.lookup f7 = some ⟨oc7, od7, .func (PySem.W.fnOf "_law_is_number" "_law_is_number" (defArgs s__law_is_number) (defBody s__law_is_number) (defScope s__law_is_number) .none kV7 dc7 pm7 an7 cd7 ct7), sl7⟩) (c7 : PySem.W.codeIn K cd7 "_law_is_number" = true) (k7 : PySem.W.keepIn K (.ref f7) = true)
  (a8 : PySem.W.nsIn K mainGlobals "_law_members" = some (some (.ref f8))) (l8 : K.lookup f8 = some ⟨oc8, od8, .func (PySem.W.fnOf "_law_members" "_law_members" (defArgs s__law_members) (defBody s__law_members) (defScope s__law_members) .none kV8 dc8 pm8 an8 cd8 ct8), sl8⟩) (c8 : PySem.W.codeIn K cd8 "_law_members" = true) (k8 : PySem.W.keepIn K (.ref f8) = true)
  (a9 : PySem.W.nsIn K mainGlobals "_law_into" = some (some (.ref f9))) (l9 : K.lookup f9 = some ⟨oc9, od9, .func (PySem.W.fnOf "_law_into" "_law_into" (defArgs s__law_into) (defBody s__law_into) (defScope s__law_into) .none kV9 dc9 pm9 an9 cd9 ct9), sl9⟩) (c9 : PySem.W.codeIn K cd9 "_law_into" = true) (k9 : PySem.W.keepIn K (.ref f9) = true)
  (a10 : PySem.W.nsIn K mainGlobals "_law_case" = some (some (.ref f10))) (l10 : K.lookup f10 = some ⟨oc10, od10, .func (PySem.W.fnOf "_law_case" "_law_case" (defArgs s__law_case) (defBody s__law_case) (defScope s__law_case) .none kV10 dc10 pm10 an10 cd10 ct10), sl10⟩) (c10 : PySem.W.codeIn K cd10 "_law_case" = true) (k10 : PySem.W.keepIn K (.ref f10) = true)
  (a11 : PySem.W.nsIn K mainGlobals "_law_divisions" = some (some (.ref f11))) (l11 : K.lookup f11 = some ⟨oc11, od11, .func (PySem.W.fnOf "_law_divisions" "_law_divisions" (defArgs s__law_divisions) (defBody s__law_divisions) (defScope s__law_divisions) .none kV11 dc11 pm11 an11 cd11 ct11), sl11⟩) (c11 : PySem.W.codeIn K cd11 "_law_divisions" = true) (k11 : PySem.W.keepIn K (.ref f11) = true)
  (a12 : PySem.W.nsIn K mainGlobals "_law_finer" = some (some (.ref f12))) (l12 : K.lookup f12 = some ⟨oc12, od12, .func (PySem.W.fnOf "_law_finer" "_law_finer" (defArgs s__law_finer) (defBody s__law_finer) (defScope s__law_finer) .none kV12 dc12 pm12 an12 cd12 ct12), sl12⟩) (c12 : PySem.W.codeIn K cd12 "_law_finer" = true) (k12 : PySem.W.keepIn K (.ref f12) = true)
  (a13 : PySem.W.nsIn K mainGlobals "district_fault" = some (some (.ref f13))) (l13 : K.lookup f13 = some ⟨oc13, od13, .func (PySem.W.fnOf "district_fault" "district_fault" (defArgs s_district_fault) (defBody s_district_fault) (defScope s_district_fault) .none kV13 dc13 pm13 an13 cd13 ct13), sl13⟩) (c13 : PySem.W.codeIn K cd13 "district_fault" = true) (k13 : PySem.W.keepIn K (.ref f13) = true)
  (a14 : PySem.W.nsIn K mainGlobals "split_key" = some (some (.ref f14))) (l14 : K.lookup f14 = some ⟨oc14, od14, .func (PySem.W.fnOf "split_key" "split_key" (defArgs s_split_key) (defBody s_split_key) (defScope s_split_key) .none kV14 dc14 pm14 an14 cd14 ct14), sl14⟩) (c14 : PySem.W.codeIn K cd14 "split_key" = true) (k14 : PySem.W.keepIn K (.ref f14) = true)
  (a15 : PySem.W.nsIn K mainGlobals "_law_is_plain" = some (some (.ref f15))) (l15 : K.lookup f15 = some ⟨oc15, od15, .func (PySem.W.fnOf "_law_is_plain" "_law_is_plain" (defArgs s__law_is_plain) (defBody s__law_is_plain) (defScope s__law_is_plain) .none kV15 dc15 pm15 an15 cd15 ct15), sl15⟩) (c15 : PySem.W.codeIn K cd15 "_law_is_plain" = true) (k15 : PySem.W.keepIn K (.ref f15) = true)
  (a16 : PySem.W.nsIn K mainGlobals "split_by" = some (some (.ref f16))) (l16 : K.lookup f16 = some ⟨oc16, od16, .func (PySem.W.fnOf "split_by" "split_by" (defArgs s_split_by) (defBody s_split_by) (defScope s_split_by) .none kV16 dc16 pm16 an16 cd16 ct16), sl16⟩) (c16 : PySem.W.codeIn K cd16 "split_by" = true) (k16 : PySem.W.keepIn K (.ref f16) = true)
  (a17 : PySem.W.nsIn K mainGlobals "coarsest" = some (some (.ref f17))) (l17 : K.lookup f17 = some ⟨oc17, od17, .func (PySem.W.fnOf "coarsest" "coarsest" (defArgs s_coarsest) (defBody s_coarsest) (defScope s_coarsest) .none kV17 dc17 pm17 an17 cd17 ct17), sl17⟩) (c17 : PySem.W.codeIn K cd17 "coarsest" = true) (k17 : PySem.W.keepIn K (.ref f17) = true)
  (a18 : PySem.W.nsIn K mainGlobals "_law_answer" = some (some (.ref f18))) (l18 : K.lookup f18 = some ⟨oc18, od18, .func (PySem.W.fnOf "_law_answer" "_law_answer" (defArgs s__law_answer) (defBody s__law_answer) (defScope s__law_answer) .none kV18 dc18 pm18 an18 cd18 ct18), sl18⟩) (c18 : PySem.W.codeIn K cd18 "_law_answer" = true) (k18 : PySem.W.keepIn K (.ref f18) = true)
  (a19 : PySem.W.nsIn K mainGlobals "law" = some (some (.ref f19))) (l19 : K.lookup f19 = some ⟨oc19, od19, .func (PySem.W.fnOf "law" "law" (defArgs s_law) (defBody s_law) (defScope s_law) .none kV19 dc19 pm19 an19 cd19 ct19), sl19⟩) (c19 : PySem.W.codeIn K cd19 "law" = true) (k19 : PySem.W.keepIn K (.ref f19) = true)
  (y0 : PySem.W.nsIn K mainGlobals "abs" = some none)
  (y1 : PySem.W.nsIn K mainGlobals "bool" = some none)
  (y2 : PySem.W.nsIn K mainGlobals "int" = some none)
  (y3 : PySem.W.nsIn K mainGlobals "isinstance" = some none)
  (y4 : PySem.W.nsIn K mainGlobals "len" = some none)
  (y5 : PySem.W.nsIn K mainGlobals "list" = some none)
  (y6 : PySem.W.nsIn K mainGlobals "max" = some none)
  (y7 : PySem.W.nsIn K mainGlobals "range" = some none)
  (y8 : PySem.W.nsIn K mainGlobals "set" = some none)
  (y9 : PySem.W.nsIn K mainGlobals "sorted" = some none)
  (y10 : PySem.W.nsIn K mainGlobals "sum" = some none)
  (y11 : PySem.W.nsIn K mainGlobals "tuple" = some none) : Top K mg where
  f_numbered := ⟨f0, _, fun_mk (st := s_numbered) l0 c0 k0, PySem.W.mg_of X G a0⟩
  f_numbered_T := ⟨f1, _, fun_mk (st := s_numbered_T) l1 c1 k1, PySem.W.mg_of X G a1⟩
  f_members := ⟨f2, _, fun_mk (st := s_members) l2 c2 k2, PySem.W.mg_of X G a2⟩
  f_weights_out := ⟨f3, _, fun_mk (st := s_weights_out) l3 c3 k3, PySem.W.mg_of X G a3⟩
  f_unlike_district := ⟨f4, _, fun_mk (st := s_unlike_district) l4 c4 k4, PySem.W.mg_of X G a4⟩
  f_weight_into := ⟨f5, _, fun_mk (st := s_weight_into) l5 c5 k5, PySem.W.mg_of X G a5⟩
  f__law_draws := ⟨f6, _, fun_mk (st := s__law_draws) l6 c6 k6, PySem.W.mg_of X G a6⟩
  f__law_is_number := ⟨f7, _, fun_mk (st := s__law_is_number) l7 c7 k7, PySem.W.mg_of X G a7⟩
  f__law_members := ⟨f8, _, fun_mk (st := s__law_members) l8 c8 k8, PySem.W.mg_of X G a8⟩
  f__law_into := ⟨f9, _, fun_mk (st := s__law_into) l9 c9 k9, PySem.W.mg_of X G a9⟩
  f__law_case := ⟨f10, _, fun_mk (st := s__law_case) l10 c10 k10, PySem.W.mg_of X G a10⟩
  f__law_divisions := ⟨f11, _, fun_mk (st := s__law_divisions) l11 c11 k11, PySem.W.mg_of X G a11⟩
  f__law_finer := ⟨f12, _, fun_mk (st := s__law_finer) l12 c12 k12, PySem.W.mg_of X G a12⟩
  f_district_fault := ⟨f13, _, fun_mk (st := s_district_fault) l13 c13 k13, PySem.W.mg_of X G a13⟩
  f_split_key := ⟨f14, _, fun_mk (st := s_split_key) l14 c14 k14, PySem.W.mg_of X G a14⟩
  f__law_is_plain := ⟨f15, _, fun_mk (st := s__law_is_plain) l15 c15 k15, PySem.W.mg_of X G a15⟩
  f_split_by := ⟨f16, _, fun_mk (st := s_split_by) l16 c16 k16, PySem.W.mg_of X G a16⟩
  f_coarsest := ⟨f17, _, fun_mk (st := s_coarsest) l17 c17 k17, PySem.W.mg_of X G a17⟩
  f__law_answer := ⟨f18, _, fun_mk (st := s__law_answer) l18 c18 k18, PySem.W.mg_of X G a18⟩
  f_law := ⟨f19, _, fun_mk (st := s_law) l19 c19 k19, PySem.W.mg_of X G a19⟩
  z_abs := PySem.W.mg_none_of X G y0
  z_bool := PySem.W.mg_none_of X G y1
  z_int := PySem.W.mg_none_of X G y2
  z_isinstance := PySem.W.mg_none_of X G y3
  z_len := PySem.W.mg_none_of X G y4
  z_list := PySem.W.mg_none_of X G y5
  z_max := PySem.W.mg_none_of X G y6
  z_range := PySem.W.mg_none_of X G y7
  z_set := PySem.W.mg_none_of X G y8
  z_sorted := PySem.W.mg_none_of X G y9
  z_sum := PySem.W.mg_none_of X G y10
  z_tuple := PySem.W.mg_none_of X G y11
theorem fin_mk {l : PySem.W.OpenLaw} {w : World} {K : PySem.W.Frag} {h : Heap} {mg : Str → Option Value} {fa : Addr} (T : Top K mg) (hfa : mg "law" = some (.ref fa)) :
    ∃ fd : FuncData, (∀ (s : Shared) (v : Value), BindsTo s fd ⟨[v], []⟩ [("script", v)]) ∧ ∀ base : Heap, K.In base → base.Ns mainGlobals mg → FnOk l.prog w K mg base CX0 6 fa fd ["script"] (spD 1 (d_law K)) := by
  obtain ⟨f, fd, F, hm⟩ := T.f_law
  have e := hfa.symm.trans hm
  cases e
  refine ⟨fd, ?_, fun base _ _ => ok_law F T⟩
  obtain ⟨oc, od, kV, doc, pm, an, cdv, ct, osl, rfl, lk, hcd⟩ := F.ex
  exact fun s v => .of_eq rfl
end Lw

open PySem PySem.W PyProof.Rows
set_option maxHeartbeats 0 in
theorem PySem.Challenge.cw_linktrees_k88_whole_the_coarsest_plain_d_holds : PySem.Challenge.rw_linktrees_k88_whole_the_coarsest_plain_d.Holds := by
  w_on; o_law; k_head; (case hw => w_witness2)
  k_fill
  refine L2.walk_of (l := PySem.Challenge.rw_linktrees_k88_whole_the_coarsest_plain_d) (n := 63) (k := 6) (x := "script") (CX := fun _ => L2.CX0) (sp := fun w => PyL.spD 1 (Lw.d_law _)) rfl (by decide) rfl ⟨rfl, by decide, by decide⟩ (fun w h Y => PySem.W.kIn_of Y) ?F (fun _ _ a ns hl _ hS => PyL.law_sp2 hS fun d hd => Lw.law_holds hl hd) (fun _ _ _ _ _ h => h)
  case F =>
    intro w mg fa h KX G hmg
    refine' Lw.fin_mk (h := h) (Lw.top_mk KX G ?a0 ?l0 ?c0 ?k0 ?a1 ?l1 ?c1 ?k1 ?a2 ?l2 ?c2 ?k2 ?a3 ?l3 ?c3 ?k3 ?a4 ?l4 ?c4 ?k4 ?a5 ?l5 ?c5 ?k5 ?a6 ?l6 ?c6 ?k6 ?a7 ?l7 ?c7 ?k7 ?a8 ?l8 ?c8 ?k8 ?a9 ?l9 ?c9 ?k9 ?a10 ?l10 ?c10 ?k10 ?a11 ?l11 ?c11 ?k11 ?a12 ?l12 ?c12 ?k12 ?a13 ?l13 ?c13 ?k13 ?a14 ?l14 ?c14 ?k14 ?a15 ?l15 ?c15 ?k15 ?a16 ?l16 ?c16 ?k16 ?a17 ?l17 ?c17 ?k17 ?a18 ?l18 ?c18 ?k18 ?a19 ?l19 ?c19 ?k19 ?y0 ?y1 ?y2 ?y3 ?y4 ?y5 ?y6 ?y7 ?y8 ?y9 ?y10 ?y11) hmg
    (case a0 => k_is); (case l0 => k_is); (case c0 => k_is); (case k0 => k_is); (case a1 => k_is); (case l1 => k_is); (case c1 => k_is); (case k1 => k_is); (case a2 => k_is); (case l2 => k_is); (case c2 => k_is); (case k2 => k_is); (case a3 => k_is); (case l3 => k_is); (case c3 => k_is); (case k3 => k_is); (case a4 => k_is); (case l4 => k_is); (case c4 => k_is); (case k4 => k_is); (case a5 => k_is); (case l5 => k_is); (case c5 => k_is); (case k5 => k_is); (case a6 => k_is); (case l6 => k_is); (case c6 => k_is); (case k6 => k_is); (case a7 => k_is); (case l7 => k_is); (case c7 => k_is); (case k7 => k_is); (case a8 => k_is); (case l8 => k_is); (case c8 => k_is); (case k8 => k_is); (case a9 => k_is); (case l9 => k_is); (case c9 => k_is); (case k9 => k_is); (case a10 => k_is); (case l10 => k_is); (case c10 => k_is); (case k10 => k_is); (case a11 => k_is); (case l11 => k_is); (case c11 => k_is); (case k11 => k_is); (case a12 => k_is); (case l12 => k_is); (case c12 => k_is); (case k12 => k_is); (case a13 => k_is); (case l13 => k_is); (case c13 => k_is); (case k13 => k_is); (case a14 => k_is); (case l14 => k_is); (case c14 => k_is); (case k14 => k_is); (case a15 => k_is); (case l15 => k_is); (case c15 => k_is); (case k15 => k_is); (case a16 => k_is); (case l16 => k_is); (case c16 => k_is); (case k16 => k_is); (case a17 => k_is); (case l17 => k_is); (case c17 => k_is); (case k17 => k_is); (case a18 => k_is); (case l18 => k_is); (case c18 => k_is); (case k18 => k_is); (case a19 => k_is); (case l19 => k_is); (case c19 => k_is); (case k19 => k_is); (case y0 => k_is); (case y1 => k_is); (case y2 => k_is); (case y3 => k_is); (case y4 => k_is); (case y5 => k_is); (case y6 => k_is); (case y7 => k_is); (case y8 => k_is); (case y9 => k_is); (case y10 => k_is); (case y11 => k_is)
