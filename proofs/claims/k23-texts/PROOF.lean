import PyProof.Rows.All
import Wide.All
import OpenK.AllK
import Wide.FinOn
import HandS.ForMost
import HandS.Exc
import HandS.ExcOwn
import HandS.WordsExc
import HandS.TryOnly
import HandS.Zip
import HandS.Strs
import HandS.Deep
import HandS.TupAny
import HandS.IsInst
import HandS.SetFor
import HandS.Wide
import HandS.SortInts
import HandS.Conv
import KE.SortData
import KE.KDictPairs
import KE.GoesMore
import KE.DataMinMax
import HandS.More
import HandS.ExcIs
import KE.DatumOrd
import KE.DatumMore
import KE.DatumMoreOrd
import KE.GoesComp
import HandS.Codes
import PySem.Challenge.RW_fewturned_k23_texts
set_option Elab.async false
set_option linter.all false
set_option maxRecDepth 100000
namespace Pv
open PySem PySem.Spec PyProof.Rows L2
/-! the data that values stand for -/
inductive D where
  | non | bl (b : Bool) | int (i : Int) | str (x : Str)
  | tup (l : List D) | ktup (l : List D) | lst (l : List D) | klst (l : List D)
  | dk (ks : List Key) (l : List D) | dt (ks : List (List Key)) (l : List D)
  | adr (a : Addr) | ty (n : String)

/-- a tuple of which the whole object is known: it is no dict's key here, but its methods may be called -/
def KTup (K : PySem.W.Frag) (F : Hp) (a : Addr) (vs : List V) : Prop :=
  (∃ o, F a = some (.frz o (.tup vs)) ∧ o.dict = none) ∨
    ∃ (o : Obj) (its : Array Value) (n : Nat), K.lookup a = some o ∧ o.cls = .type "tuple" ∧ o.dict = none ∧ o.data = .seq its n ∧ its.size ≤ sizeLine ∧ Vals vs its.toList
theorem KTup.mono {K : PySem.W.Frag} {F F' : Hp} {a : Addr} {vs : List V} (e : Same F F') (h : KTup K F a vs) : KTup K F' a vs := by
  rcases h with ⟨o, h, d⟩ | h
  · exact .inl ⟨o, e _ _ h, d⟩
  · exact .inr h
theorem KTup.sqt {K : PySem.W.Frag} {F : Hp} {a : Addr} {vs : List V} (h : KTup K F a vs) : SqT K F a vs := by
  rcases h with ⟨o, h, d⟩ | ⟨o, its, n, h1, h2, h3, h4, h5, h6⟩
  · exact .inl (.inr ⟨o, h⟩)
  · exact .inr ⟨o, its, n, h1, h2, h4, h5, h6⟩
mutual
inductive Rep (K : PySem.W.Frag) (F : Hp) : V → D → Prop
  | non : Rep K F .non .non
  | bl (b : Bool) : Rep K F (.bl b) (.bl b)
  | int (i : Int) : Rep K F (.int i) (.int i)
  | str (x : Str) : Rep K F (.str x) (.str x)
  | tup {a : Addr} {vs : List V} {ds : List D} : F a = some (.tup vs) → vs.length ≤ sizeLine → Reps K F vs ds → Rep K F (.ref a) (.tup ds)
  | ktup {a : Addr} {vs : List V} {ds : List D} : KTup K F a vs → vs.length ≤ sizeLine → Reps K F vs ds → Rep K F (.ref a) (.ktup ds)
  | lst {a : Addr} {vs : List V} {ds : List D} : F a = some (.lst vs) → vs.length ≤ sizeLine → Reps K F vs ds → Rep K F (.ref a) (.lst ds)
  | klst {a : Addr} {vs : List V} {ds : List D} : SqL K F a vs → vs.length ≤ sizeLine → Reps K F vs ds → Rep K F (.ref a) (.klst ds)
  | dk {a : Addr} {kvs : List (Key × V)} {ds : List D} : Rd F a (.dK kvs) → kvs.length ≤ sizeLine → Reps K F (kvs.map (·.2)) ds → Rep K F (.ref a) (.dk (kvs.map (·.1)) ds)
  | dt {a : Addr} {kvs : List (List Key × V)} {ds : List D} : Rd F a (.dT kvs) → kvs.length ≤ sizeLine → Reps K F (kvs.map (·.2)) ds → Rep K F (.ref a) (.dt (kvs.map (·.1)) ds)
  | adr (a : Addr) : Rep K F (.ref a) (.adr a)
  | ty (n : String) : Rep K F (.ty n) (.ty n)
inductive Reps (K : PySem.W.Frag) (F : Hp) : List V → List D → Prop
  | nil : Reps K F [] []
  | cons {v : V} {vs : List V} {d : D} {ds : List D} : Rep K F v d → Reps K F vs ds → Reps K F (v :: vs) (d :: ds)
end

theorem same_rd {H H' : Hp} {a : Addr} {u : HO} (e : Same H H') (h : Rd H a u) : Rd H' a u := by
  rcases h with h | ⟨o, h⟩
  · exact .inl (e _ _ h)
  · exact .inr ⟨o, e _ _ h⟩
theorem same_sqt {K : PySem.W.Frag} {H H' : Hp} {a : Addr} {xs : List V} (e : Same H H') (h : SqT K H a xs) : SqT K H' a xs := by
  rcases h with h | h
  · exact .inl (same_rd e h)
  · exact .inr h
theorem same_sql {K : PySem.W.Frag} {H H' : Hp} {a : Addr} {xs : List V} (e : Same H H') (h : SqL K H a xs) : SqL K H' a xs := by
  rcases h with h | h
  · exact .inl (same_rd e h)
  · exact .inr h
theorem same_nil (H : Hp) : Same (fun _ => none) H := fun _ _ h => nomatch h

mutual
theorem Rep.mono {K : PySem.W.Frag} {F F' : Hp} (e : Same F F') : ∀ {v : V} {d : D}, Rep K F v d → Rep K F' v d
  | _, _, .non => .non
  | _, _, .bl _ => .bl _
  | _, _, .int _ => .int _
  | _, _, .str _ => .str _
  | _, _, .tup a b c => .tup (e _ _ a) b (Reps.mono e c)
  | _, _, .ktup a b c => .ktup (a.mono e) b (Reps.mono e c)
  | _, _, .lst a b c => .lst (e _ _ a) b (Reps.mono e c)
  | _, _, .klst a b c => .klst (same_sql e a) b (Reps.mono e c)
  | _, _, .dk a b c => .dk (same_rd e a) b (Reps.mono e c)
  | _, _, .dt a b c => .dt (same_rd e a) b (Reps.mono e c)
  | _, _, .adr _ => .adr _
  | _, _, .ty _ => .ty _
theorem Reps.mono {K : PySem.W.Frag} {F F' : Hp} (e : Same F F') : ∀ {vs : List V} {ds : List D}, Reps K F vs ds → Reps K F' vs ds
  | _, _, .nil => .nil
  | _, _, .cons a b => .cons (Rep.mono e a) (Reps.mono e b)
end
theorem Reps.length {K : PySem.W.Frag} {F : Hp} : ∀ {vs : List V} {ds : List D}, Reps K F vs ds → vs.length = ds.length
  | _, _, .nil => rfl
  | _, _, .cons _ b => congrArg (· + 1) (Reps.length b)
theorem Reps.append {K : PySem.W.Frag} {F : Hp} : ∀ {vs ws : List V} {ds es : List D}, Reps K F vs ds → Reps K F ws es → Reps K F (vs ++ ws) (ds ++ es)
  | _, _, _, _, .nil, h => h
  | _, _, _, _, .cons a b, h => .cons a (Reps.append b h)
theorem Reps.get {K : PySem.W.Frag} {F : Hp} : ∀ {vs : List V} {ds : List D} {i : Nat} {d : D}, Reps K F vs ds → ds[i]? = some d → ∃ v, vs[i]? = some v ∧ Rep K F v d
  | _, _, _, _, .nil, h => by simp at h
  | _, _, 0, _, .cons a b, h => by simp at h; subst h; exact ⟨_, rfl, a⟩
  | _, _, i + 1, d, .cons a b, h => by
    obtain ⟨v, h1, h2⟩ := Reps.get (i := i) (d := d) b (by simpa using h)
    exact ⟨v, by simpa using h1, h2⟩
theorem Reps.getV {K : PySem.W.Frag} {F : Hp} : ∀ {vs : List V} {ds : List D} {i : Nat} {v : V}, Reps K F vs ds → vs[i]? = some v → ∃ d, ds[i]? = some d ∧ Rep K F v d
  | _, _, _, _, .nil, h => by simp at h
  | _, _, 0, _, .cons a b, h => by simp at h; subst h; exact ⟨_, rfl, a⟩
  | _, _, i + 1, d, .cons a b, h => by
    obtain ⟨v, h1, h2⟩ := Reps.getV (i := i) (v := d) b (by simpa using h)
    exact ⟨v, by simpa using h1, h2⟩
theorem Reps.take {K : PySem.W.Frag} {F : Hp} : ∀ {vs : List V} {ds : List D} (n : Nat), Reps K F vs ds → Reps K F (vs.take n) (ds.take n)
  | _, _, 0, _ => .nil
  | _, _, _ + 1, .nil => .nil
  | _, _, n + 1, .cons a b => .cons a (Reps.take n b)
theorem Reps.drop {K : PySem.W.Frag} {F : Hp} : ∀ {vs : List V} {ds : List D} (n : Nat), Reps K F vs ds → Reps K F (vs.drop n) (ds.drop n)
  | _, _, 0, h => h
  | _, _, _ + 1, .nil => .nil
  | _, _, n + 1, .cons _ b => Reps.drop n b
theorem Reps.set {K : PySem.W.Frag} {F : Hp} {v : V} {d : D} (r : Rep K F v d) : ∀ {vs : List V} {ds : List D} (i : Nat), Reps K F vs ds → Reps K F (vs.set i v) (ds.set i d)
  | _, _, _, .nil => .nil
  | _, _, 0, .cons _ b => .cons r b
  | _, _, i + 1, .cons a b => .cons a (Reps.set r i b)
theorem Reps.eraseIdx {K : PySem.W.Frag} {F : Hp} : ∀ {vs : List V} {ds : List D} (i : Nat), Reps K F vs ds → Reps K F (vs.eraseIdx i) (ds.eraseIdx i)
  | _, _, _, .nil => .nil
  | _, _, 0, .cons _ b => b
  | _, _, i + 1, .cons a b => .cons a (Reps.eraseIdx i b)
theorem Reps.dropLast {K : PySem.W.Frag} {F : Hp} {vs : List V} {ds : List D} (h : Reps K F vs ds) : Reps K F vs.dropLast ds.dropLast := by
  rw [List.dropLast_eq_take, List.dropLast_eq_take, h.length]
  exact h.take _
theorem Reps.reverse {K : PySem.W.Frag} {F : Hp} : ∀ {vs : List V} {ds : List D}, Reps K F vs ds → Reps K F vs.reverse ds.reverse
  | _, _, .nil => .nil
  | _, _, .cons a b => by
    rw [List.reverse_cons, List.reverse_cons]
    exact (Reps.reverse b).append (.cons a .nil)
theorem Reps.ints {K : PySem.W.Frag} {F : Hp} : ∀ ns : List Int, Reps K F (ns.map V.int) (ns.map D.int)
  | [] => .nil
  | _ :: r => .cons (.int _) (Reps.ints r)

/-! owned things: lists and dicts that one name alone holds -/
inductive Own where
  | li (x : List D) | di (kvs : List (Key × D)) | ti (kvs : List (List Key × D))
def Own.toD : Own → D
  | .li x => .lst x
  | .di kvs => .dk (kvs.map (·.1)) (kvs.map (·.2))
  | .ti kvs => .dt (kvs.map (·.1)) (kvs.map (·.2))
abbrev PR {κ : Type} (K : PySem.W.Frag) (F : Hp) : List (κ × V) → List (κ × D) → Prop := Paired fun p q => p.1 = q.1 ∧ Rep K F p.2 q.2
theorem PR.mono {κ : Type} {K : PySem.W.Frag} {F F' : Hp} (e : Same F F') {x : List (κ × V)} {y : List (κ × D)} (h : PR K F x y) : PR K F' x y := Paired.mapP h fun _ _ z => ⟨z.1, z.2.mono e⟩
theorem PR.keys {κ : Type} {K : PySem.W.Frag} {F : Hp} {x : List (κ × V)} {y : List (κ × D)} (h : PR K F x y) : x.map (·.1) = y.map (·.1) := by
  unfold PR at h
  induction h with
  | nil => rfl
  | cons a b ih => rw [List.map_cons, List.map_cons, ih, a.1]
theorem PR.vals {κ : Type} {K : PySem.W.Frag} {F : Hp} {x : List (κ × V)} {y : List (κ × D)} (h : PR K F x y) : Reps K F (x.map (·.2)) (y.map (·.2)) := by
  unfold PR at h
  induction h with
  | nil => exact .nil
  | cons a b ih => exact .cons a.2 ih
def OwnR (K : PySem.W.Frag) (F : Hp) (ho : HO) : Own → Prop
  | .li l => ∃ vs, ho = .lst vs ∧ vs.length ≤ sizeLine ∧ Reps K F vs l
  | .di l => ∃ kvs, ho = .dK kvs ∧ kvs.length ≤ sizeLine ∧ PR K F kvs l
  | .ti l => ∃ kvs, ho = .dT kvs ∧ kvs.length ≤ sizeLine ∧ PR K F kvs l
theorem OwnR.mono {K : PySem.W.Frag} {F F' : Hp} {ho : HO} (e : Same F F') : ∀ {o : Own}, OwnR K F ho o → OwnR K F' ho o
  | .li _, ⟨vs, h1, h2, h3⟩ => ⟨vs, h1, h2, h3.mono e⟩
  | .di _, ⟨vs, h1, h2, h3⟩ => ⟨vs, h1, h2, h3.mono e⟩
  | .ti _, ⟨vs, h1, h2, h3⟩ => ⟨vs, h1, h2, h3.mono e⟩
theorem OwnR.rep {K : PySem.W.Frag} {F : Hp} {a : Addr} {ho : HO} (h : F a = some ho) : ∀ {o : Own}, OwnR K F ho o → Rep K F (.ref a) o.toD
  | .li _, ⟨vs, h1, h2, h3⟩ => by subst h1; exact .lst h h2 h3
  | .di l, ⟨vs, h1, h2, h3⟩ => by
    subst h1
    show Rep K F (.ref a) (.dk (l.map (·.1)) (l.map (·.2)))
    rw [← h3.keys]
    exact .dk (.inl h) h2 h3.vals
  | .ti l, ⟨vs, h1, h2, h3⟩ => by
    subst h1
    show Rep K F (.ref a) (.dt (l.map (·.1)) (l.map (·.2)))
    rw [← h3.keys]
    exact .dt (.inl h) h2 h3.vals
theorem OwnR.notIns {K : PySem.W.Frag} {F : Hp} {ho : HO} {C dx : Addr} {fs : List (Str × V)} : ∀ {o : Own}, OwnR K F ho o → ho ≠ .ins C dx fs
  | .li _, ⟨vs, h1, h2, h3⟩ => by subst h1; intro z; cases z
  | .di _, ⟨vs, h1, h2, h3⟩ => by subst h1; intro z; cases z
  | .ti _, ⟨vs, h1, h2, h3⟩ => by subst h1; intro z; cases z
theorem OwnR.notTup {K : PySem.W.Frag} {F : Hp} {ho : HO} {ws : List V} : ∀ {o : Own}, OwnR K F ho o → ho ≠ .tup ws
  | .li _, ⟨vs, h1, h2, h3⟩ => by subst h1; intro z; cases z
  | .di _, ⟨vs, h1, h2, h3⟩ => by subst h1; intro z; cases z
  | .ti _, ⟨vs, h1, h2, h3⟩ => by subst h1; intro z; cases z

inductive Slot where
  | un | fz (d : D) | ow (o : Own) | self
def Slot.isOw : Slot → Bool
  | .ow _ => true
  | _ => false
inductive Exc where
  | noWeb | noRow | noNumber | noArrows | tooBig | noText
structure Pr where
  K : PySem.W.Frag
  ec : Exc → Value
  n : Nat
  fns : List Str
  C : Addr
  me : Addr

abbrev Ob := Option (Addr × List (Option V))
def tau (σ : L2.St) : Ob → List (Option V)
  | none => σ
  | some (_, fv) => σ ++ fv
def SlotR (K : PySem.W.Frag) (F H : Hp) (ob : Ob) (a : Addr) (v : Option V) : Slot → Prop
  | .un => True
  | .fz d => ∃ u, v = some u ∧ Rep K F u d
  | .ow o => v = some (.ref a) ∧ ∃ ho, H a = some ho ∧ OwnR K F ho o
  | .self => ∃ p fv, ob = some (p, fv) ∧ v = some (.ref p)
structure ObR (P : Pr) (B F H : Hp) (p : Addr) (fv : List (Option V)) : Prop where
  me : p = P.me
  len : fv.length = P.fns.length
  fp : F p = none
  bp : B p = none
  at_ : ∃ dx fs, H p = some (.ins P.C dx fs) ∧ (∀ (j : Nat) (f : Str), P.fns[j]? = some f → fs.lookup f = (fv[j]? : Option (Option V)).join) ∧ (∀ g, g ∉ P.fns → fs.lookup g = none) ∧ (fs.map (·.1)).Nodup

structure Wf (P : Pr) (B F0 F H : Hp) (σ : L2.St) (ob : Ob) (ρ : List Slot) : Prop where
  fh : Same F H
  bh : Same B H
  ff : Same F0 F
  nw : ∀ b o, F b = some o → F0 b = some o ∨ B b = none ∨ ∃ vs, o = .tup vs
  n : σ.length = P.n
  len : ρ.length = (tau σ ob).length
  sl : ∃ al : Nat → Addr, (∀ (i : Nat) (s : Slot), ρ[i]? = some s → SlotR P.K F H ob (al i) ((tau σ ob)[i]?).join s) ∧
    (∀ (i : Nat) (s : Slot), ρ[i]? = some s → s.isOw = true → F (al i) = none ∧ B (al i) = none) ∧
    (∀ (i j : Nat) (s t : Slot), ρ[i]? = some s → ρ[j]? = some t → s.isOw = true → t.isOw = true → al i = al j → i = j)
  ob : ∀ p fv, ob = some (p, fv) → ObR P B F H p fv
end Pv

set_option Elab.async false
set_option linter.all false
set_option maxRecDepth 100000
namespace Pv
open PySem PySem.Spec PyProof.Rows L2
theorem same_new {H : Hp} {p : Addr} {o : HO} (h : H p = none) : Same H (upd H p o) := fun b x e => by
  rw [upd_ne (ne_of_none e h)]
  exact e
theorem SlotR.imp {K : PySem.W.Frag} {F F' H H' : Hp} {ob : Ob} {a : Addr} {v : Option V} (e : Same F F') : ∀ {s : Slot}, SlotR K F H ob a v s → (∀ ho, s.isOw = true → H a = some ho → H' a = some ho) → SlotR K F' H' ob a v s
  | .un, _, _ => True.intro
  | .fz d, ⟨u, h1, h2⟩, _ => ⟨u, h1, h2.mono e⟩
  | .ow o, ⟨h1, ho, h2, h3⟩, h => ⟨h1, ho, h ho rfl h2, h3.mono e⟩
  | .self, h, _ => h
theorem SlotR.there {K : PySem.W.Frag} {F H : Hp} {ob : Ob} {a : Addr} {v : Option V} : ∀ {s : Slot}, SlotR K F H ob a v s → s.isOw = true → ∃ ho, H a = some ho ∧ (∀ C dx fs, ho ≠ .ins C dx fs) ∧ ∀ vs, ho ≠ .tup vs
  | .ow o, ⟨h1, ho, h2, h3⟩, _ => ⟨ho, h2, (fun _ _ _ => h3.notIns), fun _ => h3.notTup⟩
  | .un, _, h => nomatch h
  | .fz _, _, h => nomatch h
  | .self, _, h => nomatch h

theorem ObR.keep {P : Pr} {B B' F F' H H' : Hp} {p : Addr} {fv : List (Option V)} (x : ObR P B F H p fv) (hf : F p = none → F' p = none) (hb : B p = none → B' p = none) (h : ∀ ho, H p = some ho → H' p = some ho) : ObR P B' F' H' p fv := by
  obtain ⟨me, l, a, b, dx, fs, e, r⟩ := x
  exact ⟨me, l, hf a, hb b, dx, fs, h _ e, r⟩
theorem ObR.ins {P : Pr} {B F H : Hp} {p : Addr} {fv : List (Option V)} (x : ObR P B F H p fv) : ∃ dx fs, H p = some (.ins P.C dx fs) := by
  obtain ⟨me, l, a, b, dx, fs, e, r⟩ := x
  exact ⟨dx, fs, e⟩

section
variable {P : Pr} {B F0 F H : Hp} {σ : L2.St} {ob : Ob} {ρ : List Slot}
/-- a new frozen object -/
theorem Wf.grow (w : Wf P B F0 F H σ ob ρ) {p : Addr} {o : HO} (hp : H p = none) : Wf P B F0 (upd F p o) (upd H p o) σ ob ρ := by
  obtain ⟨fh, bh, ff, nw, n, len, ⟨al, s1, s2, s3⟩, hob⟩ := w
  have fp : F p = none := fh.free hp
  have bp : B p = none := bh.free hp
  have sF : Same F (upd F p o) := same_new fp
  have sH : Same H (upd H p o) := same_new hp
  refine ⟨fun b x e => ?_, bh.trans sH, ff.trans sF, fun b x e => ?_, n, len, ⟨al, fun i s h => (s1 i s h).imp sF fun ho _ e => sH _ _ e, fun i s h ho => ?_, s3⟩, fun q fv e => ?_⟩
  · by_cases hb : b = p
    · subst hb; rw [upd_same] at e ⊢; exact e
    · rw [upd_ne hb] at e ⊢; exact fh _ _ e
  · by_cases hb : b = p
    · subst hb; exact .inr (.inl bp)
    · rw [upd_ne hb] at e; exact nw _ _ e
  · obtain ⟨z, e, _⟩ := (s1 i s h).there ho
    rw [upd_ne (ne_of_none e hp)]
    exact s2 i s h ho
  · have x := hob q fv e
    obtain ⟨dx, fs, e1⟩ := x.ins
    exact x.keep (fun h => by rw [upd_ne (ne_of_none e1 hp)]; exact h) (fun h => h) (fun ho h => sH _ _ h)
/-- a temporary owned object -/
theorem Wf.tmp (w : Wf P B F0 F H σ ob ρ) {p : Addr} {o : HO} (hp : H p = none) : Wf P (upd B p o) F0 F (upd H p o) σ ob ρ := by
  obtain ⟨fh, bh, ff, nw, n, len, ⟨al, s1, s2, s3⟩, hob⟩ := w
  have fp : F p = none := fh.free hp
  have sH : Same H (upd H p o) := same_new hp
  refine ⟨fh.trans sH, fun b x e => ?_, ff, fun b x e => ?_, n, len, ⟨al, fun i s h => (s1 i s h).imp (Same.refl _) fun ho _ e => sH _ _ e, fun i s h ho => ?_, s3⟩, fun q fv e => ?_⟩
  · by_cases hb : b = p
    · subst hb; rw [upd_same] at e ⊢; exact e
    · rw [upd_ne hb] at e ⊢; exact bh _ _ e
  · rcases nw b x e with h | h
    · exact .inl h
    · exact .inr (h.imp_left fun h => by rw [upd_ne (ne_of_none e fp)]; exact h)
  · obtain ⟨z, e, _⟩ := (s1 i s h).there ho
    rw [upd_ne (ne_of_none e hp)]
    exact s2 i s h ho
  · have x := hob q fv e
    obtain ⟨dx, fs, e1⟩ := x.ins
    exact x.keep (fun h => h) (fun h => by rw [upd_ne (ne_of_none e1 hp)]; exact h) (fun ho h => sH _ _ h)
/-- the temporary one changes -/
theorem Wf.tmpUpd {a : Addr} {ho ho' : HO} (w : Wf P (upd B a ho) F0 F H σ ob ρ) (fa : F a = none) : Wf P (upd B a ho') F0 F (upd H a ho') σ ob ρ := by
  obtain ⟨fh, bh, ff, nw, n, len, ⟨al, s1, s2, s3⟩, hob⟩ := w
  have own : ∀ (i : Nat) (s : Slot), ρ[i]? = some s → s.isOw = true → al i ≠ a := fun i s h e z => by
    have := (s2 i s h e).2
    rw [z, upd_same] at this
    cases this
  refine ⟨fun b x e => ?_, fun b x e => ?_, ff, fun b x e => ?_, n, len, ⟨al, fun i s h => (s1 i s h).imp (Same.refl _) fun u hs e => ?_, fun i s h hs => ?_, s3⟩, fun q fv e => ?_⟩
  · rw [upd_ne (ne_of_none e fa)]; exact fh _ _ e
  · by_cases hb : b = a
    · subst hb; rw [upd_same] at e ⊢; exact e
    · rw [upd_ne hb] at e ⊢
      exact bh b x (by rw [upd_ne hb]; exact e)
  · rcases nw b x e with h | h
    · exact .inl h
    · have hb : b ≠ a := ne_of_none e fa
      rw [upd_ne hb] at h
      exact .inr (by rw [upd_ne hb]; exact h)
  · rw [upd_ne (own i s h hs)]; exact e
  · have q := s2 i s h hs
    rw [upd_ne (own i s h hs)] at q ⊢
    exact q
  · have x := hob q fv e
    have hq : q ≠ a := fun z => by
      have := x.bp
      rw [z, upd_same] at this
      cases this
    exact x.keep (fun h => h) (fun h => by rw [upd_ne hq] at h ⊢; exact h) (fun u h => by rw [upd_ne hq]; exact h)
/-- the temporary one is frozen -/
theorem Wf.tmpFrz {a : Addr} {ho : HO} (w : Wf P (upd B a ho) F0 F H σ ob ρ) (fa : F a = none) (ba : B a = none) : Wf P B F0 (upd F a ho) H σ ob ρ := by
  obtain ⟨fh, bh, ff, nw, n, len, ⟨al, s1, s2, s3⟩, hob⟩ := w
  have own : ∀ (i : Nat) (s : Slot), ρ[i]? = some s → s.isOw = true → al i ≠ a := fun i s h e z => by
    have := (s2 i s h e).2
    rw [z, upd_same] at this
    cases this
  have sF : Same F (upd F a ho) := same_new fa
  refine ⟨fun b x e => ?_, fun b x e => bh b x (by rw [upd_ne (ne_of_none e ba)]; exact e), ff.trans sF, fun b x e => ?_, n, len, ⟨al, fun i s h => (s1 i s h).imp sF fun u hs e => e, fun i s h hs => ?_, s3⟩, fun q fv e => ?_⟩
  · by_cases hb : b = a
    · subst hb; rw [upd_same] at e; rw [← e]; exact bh b _ upd_same
    · rw [upd_ne hb] at e; exact fh _ _ e
  · by_cases hb : b = a
    · subst hb; exact .inr (.inl ba)
    · rw [upd_ne hb] at e
      rcases nw b x e with h | h
      · exact .inl h
      · rw [upd_ne hb] at h; exact .inr h
  · have q := s2 i s h hs
    rw [upd_ne (own i s h hs)] at q ⊢
    exact q
  · have x := hob q fv e
    have hq : q ≠ a := fun z => by
      have := x.bp
      rw [z, upd_same] at this
      cases this
    exact x.keep (fun h => by rw [upd_ne hq]; exact h) (fun h => by rw [upd_ne hq] at h; exact h) (fun u h => h)
theorem Wf.getH (w : Wf P (upd B a ho) F0 F H σ ob ρ) : H a = some ho := w.bh a ho upd_same
/-- B may be anything smaller, for what is new -/
theorem Wf.lessB {B' : Hp} (w : Wf P B' F0 F H σ ob ρ) (hb : Same B B') : Wf P B F0 F H σ ob ρ := by
  obtain ⟨fh, bh, ff, nw, n, len, ⟨al, s1, s2, s3⟩, hob⟩ := w
  refine ⟨fh, hb.trans bh, ff, fun b x e => ?_, n, len, ⟨al, s1, fun i s h hs => ⟨(s2 i s h hs).1, hb.free (s2 i s h hs).2⟩, s3⟩, fun q fv e => (hob q fv e).keep (fun h => h) (fun h => hb.free h) fun u h => h⟩
  rcases nw b x e with h | h
  · exact .inl h
  · exact .inr (h.imp_left hb.free)
theorem tau_lt (h : i < σ.length) : (tau σ ob)[i]? = σ[i]? := by
  cases ob with
  | none => rfl
  | some q =>
    obtain ⟨p, fv⟩ := q
    exact List.getElem?_append_left h
theorem tau_set (h : i < σ.length) (v : Option V) : tau (σ.set i v) ob = (tau σ ob).set i v := by
  cases ob with
  | none => rfl
  | some q =>
    obtain ⟨p, fv⟩ := q
    show σ.set i v ++ fv = (σ ++ fv).set i v
    rw [List.set_append_left _ _ h]
theorem tau_len_le : σ.length ≤ (tau σ ob).length := by
  cases ob with
  | none => exact Nat.le_refl _
  | some q =>
    obtain ⟨p, fv⟩ := q
    show σ.length ≤ (σ ++ fv).length
    rw [List.length_append]; omega
/-- a local is stored: something frozen, or the object, or nothing known -/
theorem Wf.set (w : Wf P B F0 F H σ ob ρ) {i : Nat} {v : Option V} {s : Slot} (hi : i < P.n) (hs : s.isOw = false) (hr : ∀ a, SlotR P.K F H ob a v s) : Wf P B F0 F H (σ.set i v) ob (ρ.set i s) := by
  obtain ⟨fh, bh, ff, nw, n, len, ⟨al, s1, s2, s3⟩, hob⟩ := w
  have hi' : i < σ.length := by rw [n]; exact hi
  have hiρ : i < ρ.length := by rw [len]; exact Nat.lt_of_lt_of_le hi' tau_len_le
  have hiτ : i < (tau σ ob).length := by rw [← len]; exact hiρ
  refine ⟨fh, bh, ff, nw, by rw [List.length_set]; exact n, by rw [tau_set hi', List.length_set, List.length_set]; exact len, ⟨al, fun j t h => ?_, fun j t h ht => ?_, fun j k t u h h' ht hu => ?_⟩, hob⟩
  · rw [tau_set hi']
    by_cases hj : i = j
    · subst hj
      rw [List.getElem?_set_self hiρ] at h
      cases h
      rw [List.getElem?_set_self hiτ]
      exact hr _
    · rw [List.getElem?_set_ne hj] at h ⊢
      exact s1 j t h
  · by_cases hj : i = j
    · subst hj
      rw [List.getElem?_set_self hiρ] at h
      cases h
      rw [hs] at ht; cases ht
    · rw [List.getElem?_set_ne hj] at h
      exact s2 j t h ht
  · by_cases hj : i = j
    · subst hj
      rw [List.getElem?_set_self hiρ] at h
      cases h
      rw [hs] at ht; cases ht
    · by_cases hk : i = k
      · subst hk
        rw [List.getElem?_set_self hiρ] at h'
        cases h'
        rw [hs] at hu; cases hu
      · rw [List.getElem?_set_ne hj] at h
        rw [List.getElem?_set_ne hk] at h'
        exact s3 j k t u h h' ht hu
/-- a local takes the temporary object -/
theorem Wf.setOw {a : Addr} {ho : HO} {o : Own} (w : Wf P (upd B a ho) F0 F H σ ob ρ) {i : Nat} (hi : i < P.n) (fa : F a = none) (ba : B a = none) (hr : OwnR P.K F ho o) : Wf P B F0 F H (σ.set i (some (.ref a))) ob (ρ.set i (.ow o)) := by
  have eH := w.getH
  obtain ⟨fh, bh, ff, nw, n, len, ⟨al, s1, s2, s3⟩, hob⟩ := w.lessB (same_new ba)
  obtain ⟨_, _, _, _, _, _, ⟨bl, t1, t2, t3⟩, hob'⟩ := w
  have own : ∀ (i : Nat) (s : Slot), ρ[i]? = some s → s.isOw = true → bl i ≠ a := fun i s h e z => by
    have := (t2 i s h e).2
    rw [z, upd_same] at this
    cases this
  have hi' : i < σ.length := by rw [n]; exact hi
  have hiρ : i < ρ.length := by rw [len]; exact Nat.lt_of_lt_of_le hi' tau_len_le
  have hiτ : i < (tau σ ob).length := by rw [← len]; exact hiρ
  refine ⟨fh, bh, ff, nw, by rw [List.length_set]; exact n, by rw [tau_set hi', List.length_set, List.length_set]; exact len, ⟨fun j => if j = i then a else bl j, fun j t h => ?_, fun j t h ht => ?_, fun j k t u h h' ht hu => ?_⟩, hob⟩
  · rw [tau_set hi']
    by_cases hj : i = j
    · subst hj
      rw [List.getElem?_set_self hiρ] at h
      cases h
      rw [List.getElem?_set_self hiτ]
      dsimp only
      rw [if_pos rfl]
      exact ⟨rfl, ho, eH, hr⟩
    · rw [List.getElem?_set_ne hj] at h ⊢
      dsimp only
      rw [if_neg (fun z => hj z.symm)]
      exact t1 j t h
  · by_cases hj : i = j
    · subst hj
      dsimp only
      rw [if_pos rfl]
      exact ⟨fa, ba⟩
    · rw [List.getElem?_set_ne hj] at h
      dsimp only
      rw [if_neg (fun z => hj z.symm)]
      have q := t2 j t h ht
      rw [upd_ne (own j t h ht)] at q
      exact q
  · by_cases hj : i = j
    · by_cases hk : i = k
      · omega
      · subst hj
        rw [List.getElem?_set_ne hk] at h'
        dsimp only
        rw [if_pos rfl, if_neg (fun z => hk z.symm)]
        intro z
        exact absurd z.symm (own k u h' hu)
    · by_cases hk : i = k
      · subst hk
        rw [List.getElem?_set_ne hj] at h
        dsimp only
        rw [if_pos rfl, if_neg (fun z => hj z.symm)]
        intro z
        exact absurd z (own j t h ht)
      · rw [List.getElem?_set_ne hj] at h
        rw [List.getElem?_set_ne hk] at h'
        dsimp only
        rw [if_neg (fun z => hj z.symm), if_neg (fun z => hk z.symm)]
        exact t3 j k t u h h' ht hu
/-- an owned slot, read -/
theorem Wf.owned (w : Wf P B F0 F H σ ob ρ) {i : Nat} {o : Own} (h : ρ[i]? = some (.ow o)) : ∃ a ho, (tau σ ob)[i]? = some (some (.ref a)) ∧ H a = some ho ∧ OwnR P.K F ho o ∧ F a = none ∧ B a = none ∧
    (∀ ho' o', OwnR P.K F ho' o' → Wf P B F0 F (upd H a ho') σ ob (ρ.set i (.ow o'))) ∧ Wf P B F0 (upd F a ho) H σ ob (ρ.set i (.fz o.toD)) := by
  obtain ⟨fh, bh, ff, nw, n, len, ⟨al, s1, s2, s3⟩, hob⟩ := w
  obtain ⟨e1, ho, e2, e3⟩ := s1 i _ h
  obtain ⟨fa, ba⟩ := s2 i _ h rfl
  have hiρ : i < ρ.length := (List.getElem?_eq_some_iff.mp h).1
  have hiτ : i < (tau σ ob).length := by rw [← len]; exact hiρ
  have e0 : (tau σ ob)[i]? = some (some (.ref (al i))) := by
    rw [List.getElem?_eq_getElem hiτ] at e1 ⊢
    rw [show (tau σ ob)[i] = some (.ref (al i)) from e1]
  refine ⟨al i, ho, e0, e2, e3, fa, ba, fun ho' o' hr => ?_, ?_⟩
  · have ne : ∀ (j : Nat) (s : Slot), ρ[j]? = some s → s.isOw = true → i ≠ j → al j ≠ al i := fun j s hj hs hij z => hij (s3 j i s _ hj h hs rfl z).symm
    refine ⟨fun b x e => ?_, fun b x e => ?_, ff, nw, n, by rw [List.length_set]; exact len, ⟨al, fun j t hj => ?_, fun j t hj ht => ?_, fun j k t u hj hk ht hu => ?_⟩, fun q fv e => ?_⟩
    · rw [upd_ne (ne_of_none e fa)]; exact fh _ _ e
    · rw [upd_ne (ne_of_none e ba)]; exact bh _ _ e
    · by_cases hij : i = j
      · subst hij
        rw [List.getElem?_set_self hiρ] at hj
        cases hj
        exact ⟨e1, ho', upd_same, hr⟩
      · rw [List.getElem?_set_ne hij] at hj
        exact (s1 j t hj).imp (Same.refl _) fun u hu e => by rw [upd_ne (ne j t hj hu hij)]; exact e
    · by_cases hij : i = j
      · subst hij; exact ⟨fa, ba⟩
      · rw [List.getElem?_set_ne hij] at hj
        exact s2 j t hj ht
    · intro z
      have g : ∀ (j : Nat) (t : Slot), (ρ.set i (.ow o'))[j]? = some t → t.isOw = true → ∃ s : Slot, ρ[j]? = some s ∧ s.isOw = true := fun j t hj ht => by
        by_cases hij : i = j
        · subst hij; exact ⟨_, h, rfl⟩
        · rw [List.getElem?_set_ne hij] at hj
          exact ⟨t, hj, ht⟩
      obtain ⟨s, a1, a2⟩ := g j t hj ht
      obtain ⟨s', b1, b2⟩ := g k u hk hu
      exact s3 j k s s' a1 b1 a2 b2 z
    · have x := hob q fv e
      obtain ⟨dx, fs, ei⟩ := x.ins
      have hq : q ≠ al i := ne_of ei e2 fun z => e3.notIns z.symm
      exact x.keep (fun h => h) (fun h => h) fun u hu => by rw [upd_ne hq]; exact hu
  · have sF : Same F (upd F (al i) ho) := same_new fa
    refine ⟨fun b x e => ?_, bh, ff.trans sF, fun b x e => ?_, n, by rw [List.length_set]; exact len, ⟨al, fun j t hj => ?_, fun j t hj ht => ?_, fun j k t u hj hk ht hu => ?_⟩, fun q fv e => ?_⟩
    · by_cases hb : b = al i
      · subst hb; rw [upd_same] at e; cases e; exact e2
      · rw [upd_ne hb] at e; exact fh _ _ e
    · by_cases hb : b = al i
      · subst hb; exact .inr (.inl ba)
      · rw [upd_ne hb] at e; exact nw _ _ e
    · by_cases hij : i = j
      · subst hij
        rw [List.getElem?_set_self hiρ] at hj
        cases hj
        exact ⟨_, e1, (e3.mono sF).rep upd_same⟩
      · rw [List.getElem?_set_ne hij] at hj
        exact (s1 j t hj).imp sF fun u hu e => e
    · by_cases hij : i = j
      · subst hij
        rw [List.getElem?_set_self hiρ] at hj
        cases hj
        cases ht
      · rw [List.getElem?_set_ne hij] at hj
        rw [upd_ne (fun z => hij (s3 j i t _ hj h ht rfl z).symm)]
        exact s2 j t hj ht
    · have g : ∀ (j : Nat) (t : Slot), (ρ.set i (.fz o.toD))[j]? = some t → t.isOw = true → ρ[j]? = some t := fun j t hj ht => by
        by_cases hij : i = j
        · subst hij
          rw [List.getElem?_set_self hiρ] at hj
          cases hj
          cases ht
        · rw [List.getElem?_set_ne hij] at hj
          exact hj
      exact s3 j k t u (g j t hj ht) (g k u hk hu) ht hu
    · have x := hob q fv e
      obtain ⟨dx, fs, ei⟩ := x.ins
      have hq : q ≠ al i := ne_of ei e2 fun z => e3.notIns z.symm
      exact x.keep (fun h => by rw [upd_ne hq]; exact h) (fun h => h) fun u hu => hu
end
end Pv

set_option Elab.async false
set_option linter.all false
set_option maxRecDepth 100000
namespace Pv
open PySem PySem.Spec PyProof.Rows L2
/-! the pure side: results, handles -/
abbrev Envi := List Slot
inductive R (α : Type) where
  | ok (a : α) (ρ : Envi) | exc (c : Exc) (ρ : Envi) | stuck
def R.bind {α β : Type} (r : R α) (k : α → Envi → R β) : R β :=
  match r with
  | .ok a ρ => k a ρ
  | .exc c ρ => .exc c ρ
  | .stuck => .stuck
inductive Hd where
  | dat (d : D) | pl (i : Nat) | fl (i : Nat) | tm (o : Own) | obj
def deref (ρ : Envi) : Hd → Option D
  | .dat d => some d
  | .pl i => match ρ[i]? with
    | some (.fz d) => some d
    | some (.ow o) => some o.toD
    | _ => none
  | .fl i => match ρ[i]? with
    | some (.fz d) => some d
    | some (.ow o) => some o.toD
    | _ => none
  | .tm _ => none
  | .obj => none
def mat (ρ : Envi) : Hd → Option (D × Envi)
  | .dat d => some (d, ρ)
  | .pl i => match ρ[i]? with
    | some (.fz d) => some (d, ρ)
    | some (.ow o) => some (o.toD, ρ.set i (.fz o.toD))
    | _ => none
  | .fl i => match ρ[i]? with
    | some (.fz d) => some (d, ρ)
    | some (.ow o) => some (o.toD, ρ.set i (.fz o.toD))
    | _ => none
  | .tm _ => none
  | .obj => none
def matAll (ρ : Envi) : List Hd → Option (List D × Envi)
  | [] => some ([], ρ)
  | h :: hs => match mat ρ h with
    | some (d, ρ1) => match matAll ρ1 hs with
      | some (ds, ρ2) => some (d :: ds, ρ2)
      | none => none
    | none => none
def derefAll (ρ : Envi) : List Hd → Option (List D)
  | [] => some []
  | h :: hs => match deref ρ h, derefAll ρ hs with
    | some d, some ds => some (d :: ds)
    | _, _ => none
def R.frz : R Hd → R Hd
  | .ok (.tm o) ρ => .ok (.dat o.toD) ρ
  | r => r

/-! what a handle says of a value -/
def HR1 (P : Pr) (F : Hp) (σ : L2.St) (ob : Ob) (v : V) : Hd → Prop
  | .dat d => Rep P.K F v d
  | .pl i => i < P.n ∧ σ[i]? = some (some v)
  | .fl i => P.n ≤ i ∧ (tau σ ob)[i]? = some (some v)
  | .tm _ => False
  | .obj => ∃ p fv, ob = some (p, fv) ∧ v = .ref p
def HR (P : Pr) (B B' F : Hp) (σ : L2.St) (ob : Ob) (v : V) : Hd → Prop
  | .tm o => ∃ a ho, v = .ref a ∧ B' = upd B a ho ∧ B a = none ∧ F a = none ∧ OwnR P.K F ho o
  | h => B' = B ∧ HR1 P F σ ob v h
def Post {α β : Type} (P : Pr) (B F0 F : Hp) (σ : L2.St) (ob : Ob) (m : Bool) (W : WX) (Rel : Hp → Hp → Ob → β → α → Prop) (Q : β → Hp → Prop) : R α → Prop
  | .ok a ρ' => ∀ B' F' H' ob' v, Wf P B' F0 F' H' σ ob' ρ' → Same F F' → (m = false → ob' = ob) → Rel B' F' ob' v a → Q v H'
  | .exc c ρ' => ∀ F' H' ob', Wf P B F0 F' H' σ ob' ρ' → Same F F' → W (P.ec c) none σ H'
  | .stuck => False
abbrev RelE (P : Pr) (B : Hp) (σ : L2.St) : Hp → Hp → Ob → V → Hd → Prop := fun B' F' ob' v h => HR P B B' F' σ ob' v h
abbrev RelF (P : Pr) (B : Hp) (σ : L2.St) : Hp → Hp → Ob → V → Hd → Prop := fun B' F' ob' v h => B' = B ∧ HR1 P F' σ ob' v h
def HRs (P : Pr) (F : Hp) (σ : L2.St) (ob : Ob) : List V → List Hd → Prop
  | [], [] => True
  | v :: vs, h :: hs => HR1 P F σ ob v h ∧ HRs P F σ ob vs hs
  | _, _ => False
abbrev RelA (P : Pr) (B : Hp) (σ : L2.St) : Hp → Hp → Ob → List V → List Hd → Prop := fun B' F' ob' vs hs => B' = B ∧ HRs P F' σ ob' vs hs
abbrev RelT (B : Hp) : Hp → Hp → Ob → Bool → Bool → Prop := fun B' _ _ b c => B' = B ∧ b = c
def SndE (P : Pr) (m : Bool) (W : WX) (te : TE) (f : Envi → R Hd) : Prop :=
  ∀ B F0 F H σ ob ρ Q, Wf P B F0 F H σ ob ρ → Post P B F0 F σ ob m W (RelE P B σ) Q (f ρ) → te σ H Q
def SndF (P : Pr) (m : Bool) (W : WX) (te : TE) (f : Envi → R Hd) : Prop :=
  ∀ B F0 F H σ ob ρ Q, Wf P B F0 F H σ ob ρ → Post P B F0 F σ ob m W (RelF P B σ) Q (f ρ) → te σ H Q
def SndA (P : Pr) (m : Bool) (W : WX) (n : Nat) (ta : TA) (f : Envi → R (List Hd)) : Prop :=
  ∀ B F0 F H σ ob ρ Q, Wf P B F0 F H σ ob ρ → Post P B F0 F σ ob m W (fun B' F' ob' vs hs => RelA P B σ B' F' ob' vs hs ∧ vs.length = n) Q (f ρ) → ta σ H Q
def SndT (P : Pr) (m : Bool) (W : WX) (tt : TT) (f : Envi → R Bool) : Prop :=
  ∀ B F0 F H σ ob ρ Q, Wf P B F0 F H σ ob ρ → Post P B F0 F σ ob m W (RelT B) Q (f ρ) → tt σ H Q

section
variable {P : Pr} {B F0 F H : Hp} {σ : L2.St} {ob : Ob} {ρ : Envi}
theorem HR1.mono {v : V} {F' : Hp} {ob' : Ob} (e : Same F F') (ho : ob' = ob) : ∀ {h : Hd}, HR1 P F σ ob v h → HR1 P F' σ ob' v h
  | .dat d, h => Rep.mono e h
  | .pl i, h => h
  | .fl i, h => by rw [ho]; exact h
  | .tm _, h => h
  | .obj, h => by rw [ho]; exact h
theorem HRs.mono {F' : Hp} {ob' : Ob} (e : Same F F') (ho : ob' = ob) : ∀ {vs : List V} {hs : List Hd}, HRs P F σ ob vs hs → HRs P F' σ ob' vs hs
  | [], [], h => h
  | v :: vs, h :: hs, ⟨a, b⟩ => ⟨a.mono e ho, HRs.mono e ho b⟩
  | [], _ :: _, h => h.elim
  | _ :: _, [], h => h.elim
theorem Post.up {α β : Type} {m : Bool} {W : WX} {Rel : Hp → Hp → Ob → β → α → Prop} {Q : β → Hp → Prop} : ∀ {r : R α}, Post P B F0 F σ ob m W Rel Q r → Post P B F0 F σ ob false W Rel Q r
  | .ok a ρ', h => fun B' F' H' ob' v w s i r => h B' F' H' ob' v w s (fun _ => i rfl) r
  | .exc c ρ', h => h
  | .stuck, h => h
theorem SndE.up {m : Bool} {W : WX} {te : TE} {f : Envi → R Hd} (h : SndE P false W te f) : SndE P m W te f := fun B F0 F H σ ob ρ Q w q => h B F0 F H σ ob ρ Q w q.up
theorem SndT.up {m : Bool} {W : WX} {te : TT} {f : Envi → R Bool} (h : SndT P false W te f) : SndT P m W te f := fun B F0 F H σ ob ρ Q w q => h B F0 F H σ ob ρ Q w q.up
theorem SndE.frz {m : Bool} {W : WX} {te : TE} {f : Envi → R Hd} (h : SndE P m W te f) : SndF P m W te (fun ρ => (f ρ).frz) := fun B F0 F H σ ob ρ Q w q => by
  refine h B F0 F H σ ob ρ Q w ?_
  dsimp only at q
  cases e : f ρ with
  | stuck => rw [e] at q; exact q
  | exc c ρ' => rw [e] at q; exact q
  | ok h ρ' =>
    rw [e] at q
    cases h with
    | tm o =>
      intro B' F' H' ob' v w' s i r
      obtain ⟨a, ho, e1, e2, e3, e4, e5⟩ := r
      subst e2
      refine q B (upd F' a ho) H' ob' v (w'.tmpFrz e4 e3) (s.trans (same_new e4)) i ⟨rfl, ?_⟩
      rw [e1]
      exact (e5.mono (same_new e4)).rep upd_same
    | dat d => exact q
    | pl d => exact q
    | fl d => exact q
    | obj => exact q
/-- the continuation behind a first part -/
theorem Post.shift {α β : Type} {m : Bool} {W : WX} {F1 : Hp} {ob1 : Ob} {Rel : Hp → Hp → Ob → β → α → Prop} {Q : β → Hp → Prop} (e : Same F F1) (ho : m = false → ob1 = ob) : ∀ {r : R α}, Post P B F0 F σ ob m W Rel Q r → Post P B F0 F1 σ ob1 m W Rel Q r
  | .ok a ρ', h => fun B' F' H' ob' v w s i r => h B' F' H' ob' v w (e.trans s) (fun z => (i z).trans (ho z)) r
  | .exc c ρ', h => fun F' H' ob' w s => h F' H' ob' w (e.trans s)
  | .stuck, h => h
/-- from one part's result to the whole's -/
theorem Post.of_bind {α β γ δ : Type} {m m' : Bool} {W : WX} {Rel : Hp → Hp → Ob → γ → α → Prop} {Rel' : Hp → Hp → Ob → δ → β → Prop} {Q : γ → Hp → Prop} {Q' : δ → Hp → Prop} {k : α → Envi → R β} {r : R α}
    (h : Post P B F0 F σ ob m W Rel' Q' (r.bind k))
    (step : ∀ a ρ' B' F' H' ob' v, Wf P B' F0 F' H' σ ob' ρ' → Same F F' → (m' = false → ob' = ob) → Rel B' F' ob' v a → Post P B F0 F σ ob m W Rel' Q' (k a ρ') → Q v H') : Post P B F0 F σ ob m' W Rel Q r := by
  cases r with
  | ok a ρ' => exact fun B' F' H' ob' v w s i r => step a ρ' B' F' H' ob' v w s i r h
  | exc c ρ' => exact h
  | stuck => exact h

/-! a borrowed thing -/
def BRep (K : PySem.W.Frag) (F H : Hp) (v : V) (d : D) : Prop := Rep K F v d ∨ ∃ a ho o, v = .ref a ∧ H a = some ho ∧ OwnR K F ho o ∧ d = o.toD
theorem Wf.deref (w : Wf P B F0 F H σ ob ρ) {v : V} {h : Hd} {d : D} (r : HR1 P F σ ob v h) (e : deref ρ h = some d) : BRep P.K F H v d := by
  have key : ∀ i : Nat, (tau σ ob)[i]? = some (some v) → (match ρ[i]? with | some (.fz d) => some d | some (.ow o) => some o.toD | _ => none) = some d → BRep P.K F H v d := fun i hi e => by
    obtain ⟨al, s1, s2, s3⟩ := w.sl
    cases q : ρ[i]? with
    | none => rw [q] at e; cases e
    | some s =>
      have x := s1 i s q
      rw [hi] at x
      rw [q] at e
      cases s with
      | un => cases e
      | self => cases e
      | fz d' =>
        cases e
        obtain ⟨u, e1, e2⟩ := x
        cases e1
        exact .inl e2
      | ow o =>
        cases e
        obtain ⟨e1, ho, e2, e3⟩ := x
        cases e1
        exact .inr ⟨_, ho, o, rfl, e2, e3, rfl⟩
  cases h with
  | dat d' => cases e; exact .inl r
  | pl i => exact key i (by rw [tau_lt (by rw [w.n]; exact r.1)]; exact r.2) e
  | fl i => exact key i r.2 e
  | tm o => exact r.elim
  | obj => cases e
theorem Wf.mat (w : Wf P B F0 F H σ ob ρ) {v : V} {h : Hd} {d : D} {ρ' : Envi} (r : HR1 P F σ ob v h) (e : mat ρ h = some (d, ρ')) : ∃ F', Wf P B F0 F' H σ ob ρ' ∧ Same F F' ∧ Rep P.K F' v d := by
  have key : ∀ i : Nat, (tau σ ob)[i]? = some (some v) → (match ρ[i]? with | some (.fz d) => some (d, ρ) | some (.ow o) => some (o.toD, ρ.set i (.fz o.toD)) | _ => none) = some (d, ρ') → ∃ F', Wf P B F0 F' H σ ob ρ' ∧ Same F F' ∧ Rep P.K F' v d := fun i hi e => by
    cases q : ρ[i]? with
    | none => rw [q] at e; cases e
    | some s =>
      rw [q] at e
      cases s with
      | un => cases e
      | self => cases e
      | fz d' =>
        cases e
        obtain ⟨al, s1, s2, s3⟩ := w.sl
        have x := s1 i _ q
        rw [hi] at x
        obtain ⟨u, e1, e2⟩ := x
        cases e1
        exact ⟨F, w, Same.refl _, e2⟩
      | ow o =>
        cases e
        obtain ⟨a, ho, e1, e2, e3, fa, ba, _, w'⟩ := w.owned q
        rw [hi] at e1
        cases e1
        exact ⟨_, w', same_new fa, (e3.mono (same_new fa)).rep upd_same⟩
  cases h with
  | dat d' => cases e; exact ⟨F, w, Same.refl _, r⟩
  | pl i => exact key i (by rw [tau_lt (by rw [w.n]; exact r.1)]; exact r.2) e
  | fl i => exact key i r.2 e
  | tm o => exact r.elim
  | obj => cases e
theorem Wf.matAll : ∀ {hs : List Hd} {F : Hp} {ρ : Envi} {vs : List V} {ds : List D} {ρ' : Envi}, Wf P B F0 F H σ ob ρ → HRs P F σ ob vs hs → matAll ρ hs = some (ds, ρ') → ∃ F', Wf P B F0 F' H σ ob ρ' ∧ Same F F' ∧ Reps P.K F' vs ds
  | [], F, ρ, [], ds, ρ', w, r, e => by cases e; exact ⟨F, w, Same.refl _, .nil⟩
  | [], F, ρ, _ :: _, ds, ρ', w, r, e => r.elim
  | h :: hs, F, ρ, [], ds, ρ', w, r, e => r.elim
  | h :: hs, F, ρ, v :: vs, ds, ρ', w, ⟨r, rs⟩, e => by
    unfold Pv.matAll at e
    cases q : Pv.mat ρ h with
    | none => rw [q] at e; cases e
    | some x =>
      obtain ⟨d, ρ1⟩ := x
      rw [q] at e
      obtain ⟨F1, w1, s1, r1⟩ := w.mat r q
      dsimp only at e
      cases q2 : Pv.matAll ρ1 hs with
      | none => rw [q2] at e; cases e
      | some x =>
        obtain ⟨ds', ρ2⟩ := x
        rw [q2] at e
        cases e
        obtain ⟨F2, w2, s2, r2⟩ := Wf.matAll w1 (rs.mono s1 rfl) q2
        exact ⟨F2, w2, s1.trans s2, .cons (Rep.mono s2 r1) r2⟩
inductive BReps (K : PySem.W.Frag) (F H : Hp) : List V → List D → Prop
  | nil : BReps K F H [] []
  | cons {v : V} {vs : List V} {d : D} {ds : List D} : BRep K F H v d → BReps K F H vs ds → BReps K F H (v :: vs) (d :: ds)
theorem Wf.derefAll (w : Wf P B F0 F H σ ob ρ) : ∀ {hs : List Hd} {vs : List V} {ds : List D}, HRs P F σ ob vs hs → derefAll ρ hs = some ds → BReps P.K F H vs ds
  | [], [], ds, r, e => by cases e; exact .nil
  | [], _ :: _, ds, r, e => r.elim
  | h :: hs, [], ds, r, e => r.elim
  | h :: hs, v :: vs, ds, ⟨r, rs⟩, e => by
    unfold Pv.derefAll at e
    cases q : Pv.deref ρ h with
    | none => rw [q] at e; cases e
    | some d =>
      cases q2 : Pv.derefAll ρ hs with
      | none => rw [q, q2] at e; cases e
      | some ds' =>
        rw [q, q2] at e
        cases e
        exact .cons (w.deref r q) (w.derefAll rs q2)
inductive Grow : Hp → Hp → Hp → Hp → Prop
  | refl (F H : Hp) : Grow F H F H
  | new {F H F1 H1 : Hp} {p : Addr} {o : HO} : Grow F H F1 H1 → H1 p = none → Grow F H (upd F1 p o) (upd H1 p o)
  | known {F H F1 H1 : Hp} {p : Addr} {vs : List V} : Grow F H F1 H1 → H1 p = some (.tup vs) → Grow F H (upd F1 p (.tup vs)) H1
/-- a tuple that stands there may be known -/
theorem Wf.growT (w : Wf P B F0 F H σ ob ρ) {p : Addr} {vs : List V} (hp : H p = some (.tup vs)) : Wf P B F0 (upd F p (.tup vs)) H σ ob ρ ∧ Same F (upd F p (.tup vs)) := by
  obtain ⟨fh, bh, ff, nw, n, len, ⟨al, s1, s2, s3⟩, hob⟩ := w
  have sF : Same F (upd F p (.tup vs)) := fun b x e => by
    by_cases hb : b = p
    · subst hb
      have := fh _ _ e
      rw [hp] at this
      rw [upd_same]; exact this
    · rw [upd_ne hb]; exact e
  refine ⟨⟨fun b x e => ?_, bh, ff.trans sF, fun b x e => ?_, n, len, ⟨al, fun i s h => (s1 i s h).imp sF fun ho _ e => e, fun i s h ho => ?_, s3⟩, fun q fv e => ?_⟩, sF⟩
  · by_cases hb : b = p
    · subst hb; rw [upd_same] at e; rw [← e]; exact hp
    · rw [upd_ne hb] at e; exact fh _ _ e
  · by_cases hb : b = p
    · subst hb; rw [upd_same] at e; cases e; exact .inr (.inr ⟨_, rfl⟩)
    · rw [upd_ne hb] at e; exact nw _ _ e
  · obtain ⟨z, e, _, hz⟩ := (s1 i s h).there ho
    have hne : al i ≠ p := fun g => by
      rw [g, hp] at e
      exact hz vs (Option.some.inj e).symm
    rw [upd_ne hne]
    exact s2 i s h ho
  · have x := hob q fv e
    obtain ⟨dx, fs, e1⟩ := x.ins
    have hne : q ≠ p := fun g => by
      rw [g, hp] at e1
      cases e1
    exact x.keep (fun h => by rw [upd_ne hne]; exact h) (fun h => h) (fun ho h => h)
theorem Wf.growN {F' H' : Hp} (w : Wf P B F0 F H σ ob ρ) (g : Grow F H F' H') : Wf P B F0 F' H' σ ob ρ ∧ Same F F' := by
  induction g with
  | refl => exact ⟨w, Same.refl _⟩
  | @new F1 H1 p o g hp ih =>
    obtain ⟨w1, s1⟩ := ih
    exact ⟨w1.grow hp, s1.trans (same_new (w1.fh.free hp))⟩
  | @known F1 H1 p vs g hp ih =>
    obtain ⟨w1, s1⟩ := ih
    have w2 := w1.growT hp
    exact ⟨w2.1, s1.trans w2.2⟩
end
end Pv

set_option Elab.async false
set_option linter.all false
set_option maxRecDepth 100000
namespace Pv
open PySem PySem.Spec PyProof.Rows L2
/-! expressions: the pure functions -/
def eVar (i : Nat) : Envi → R Hd := fun ρ => match ρ[i]? with
  | some (.fz d) => .ok (.dat d) ρ
  | some (.ow _) => .ok (.pl i) ρ
  | some .self => .ok .obj ρ
  | _ => .stuck
def eC (d : D) : Envi → R Hd := fun ρ => .ok (.dat d) ρ
def eMat (f : Envi → R Hd) : Envi → R Hd := fun ρ => (f ρ).frz.bind fun h ρ1 => match mat ρ1 h with
  | some (d, ρ2) => .ok (.dat d) ρ2
  | none => .stuck
def opt1 (ρ : Envi) : Option D → R Hd
  | some d => .ok (.dat d) ρ
  | none => .stuck
def on1 (op : D → Option D) (ρ : Envi) (h : Hd) : R Hd := match deref ρ h with
  | some a => opt1 ρ (op a)
  | none => .stuck
def on2 (op : D → D → Option D) (ρ : Envi) (h k : Hd) : R Hd := match deref ρ h, deref ρ k with
  | some a, some b => opt1 ρ (op a b)
  | _, _ => .stuck
def eBin (op : D → D → Option D) (f g : Envi → R Hd) : Envi → R Hd := fun ρ => (f ρ).frz.bind fun h ρ1 => (g ρ1).frz.bind fun k ρ2 => on2 op ρ2 h k
def eUn (op : D → Option D) (f : Envi → R Hd) : Envi → R Hd := fun ρ => (f ρ).frz.bind fun h ρ1 => on1 op ρ1 h
def aNil : Envi → R (List Hd) := fun ρ => .ok [] ρ
def aCons (f : Envi → R Hd) (g : Envi → R (List Hd)) : Envi → R (List Hd) := fun ρ => (f ρ).frz.bind fun h ρ1 => (g ρ1).bind fun hs ρ2 => .ok (h :: hs) ρ2
def eTup (g : Envi → R (List Hd)) : Envi → R Hd := fun ρ => (g ρ).bind fun hs ρ1 => match matAll ρ1 hs with
  | some (ds, ρ2) => .ok (.dat (.tup ds)) ρ2
  | none => .stuck
def eLst (g : Envi → R (List Hd)) : Envi → R Hd := fun ρ => (g ρ).bind fun hs ρ1 => match matAll ρ1 hs with
  | some (ds, ρ2) => .ok (.tm (.li ds)) ρ2
  | none => .stuck
/-- what a def gives -/
inductive Rf where
  | fz (d : D) | ow (o : Own) | exc (c : Exc) | stuck
def ofRf (ρ : Envi) : Rf → R Hd
  | .fz d => .ok (.dat d) ρ
  | .ow o => .ok (.tm o) ρ
  | .exc c => .exc c ρ
  | .stuck => .stuck
def eCall (fs : List D → Rf) (g : Envi → R (List Hd)) : Envi → R Hd := fun ρ => (g ρ).bind fun hs ρ1 => match matAll ρ1 hs with
  | some (ds, ρ2) => ofRf ρ2 (fs ds)
  | none => .stuck
/-- a built-in's call: its arguments are looked at only -/
def eCB (fs : List D → Rf) (g : Envi → R (List Hd)) : Envi → R Hd := fun ρ => (g ρ).bind fun hs ρ1 => match derefAll ρ1 hs with
  | some ds => ofRf ρ1 (fs ds)
  | none => .stuck
def ofBl (ρ : Envi) : Option D → R Bool
  | some (.bl b) => .ok b ρ
  | _ => .stuck
def tsE (f : Envi → R Hd) : Envi → R Bool := fun ρ => (f ρ).frz.bind fun h ρ1 => ofBl ρ1 (deref ρ1 h)
def tsAnd (f g : Envi → R Bool) : Envi → R Bool := fun ρ => (f ρ).bind fun b ρ1 => if b = true then g ρ1 else .ok false ρ1
def tsOr (f g : Envi → R Bool) : Envi → R Bool := fun ρ => (f ρ).bind fun b ρ1 => if b = true then .ok true ρ1 else g ρ1
def tsNot (f : Envi → R Bool) : Envi → R Bool := fun ρ => (f ρ).bind fun b ρ1 => .ok (!b) ρ1
/-- a test's answer as a value -/
def eOfT (f : Envi → R Bool) : Envi → R Hd := fun ρ => (f ρ).bind fun b ρ1 => .ok (.dat (.bl b)) ρ1
def eIf (c : Envi → R Bool) (f g : Envi → R Hd) : Envi → R Hd := fun ρ => (c ρ).bind fun b ρ1 => if b = true then f ρ1 else g ρ1

/-! the promises of values' rules, by data -/
def OpS (K : PySem.W.Frag) (r : R2) (op : D → D → Option D) : Prop :=
  ∀ F H x y a b c Q, Same F H → BRep K F H x a → BRep K F H y b → op a b = some c → (∀ F' H' v, Grow F H F' H' → Rep K F' v c → Q v H') → r x y H Q
def UnS (K : PySem.W.Frag) (r : V → Hp → VK → Prop) (op : D → Option D) : Prop :=
  ∀ F H x a c Q, Same F H → BRep K F H x a → op a = some c → (∀ F' H' v, Grow F H F' H' → Rep K F' v c → Q v H') → r x H Q
/-- a built-in's answer -/
def PostB (K : PySem.W.Frag) (F H : Hp) (Q : VK) : Rf → Prop
  | .fz d => ∀ F' H' v, Grow F H F' H' → Rep K F' v d → Q v H'
  | .ow o => ∀ F' H' a ho, Grow F H F' H' → H' a = none → OwnR K F' ho o → Q (.ref a) (upd H' a ho)
  | .exc _ => False
  | .stuck => False
def CallS (K : PySem.W.Frag) (r : List V → Hp → VK → Prop) (fs : List D → Rf) : Prop :=
  ∀ F H xs ds Q, Same F H → BReps K F H xs ds → PostB K F H Q (fs ds) → r xs H Q
/-- a def's promise by a pure function -/
def PostF (K : PySem.W.Frag) (ec : Exc → Value) (F H : Hp) (Q : VK) (E : XK) : Rf → Prop
  | .fz d => ∀ F' H' v, Same F F' → Same F' H' → Same H H' → (∀ b o, F' b = some o → F b = some o ∨ H b = none ∨ ∃ vs, o = .tup vs) → Rep K F' v d → Q v H'
  | .ow o => ∀ F' H' a ho, Same F F' → Same F' H' → Same H H' → (∀ b o, F' b = some o → F b = some o ∨ H b = none ∨ ∃ vs, o = .tup vs) → H' a = some ho → F' a = none → H a = none → OwnR K F' ho o → Q (.ref a) H'
  | .exc c => ∀ H', Same H H' → E (ec c) none H'
  | .stuck => False
def spF (K : PySem.W.Frag) (ec : Exc → Value) (n : Nat) (fs : List D → Rf) : Sp := fun vs H Q E => vs.length = n ∧ ∃ F ds, Same F H ∧ Reps K F vs ds ∧ PostF K ec F H Q E (fs ds)

section
variable {P : Pr} {m : Bool} {W : WX} {te ta tb : TE} {f g : Envi → R Hd} {F H : Hp}
theorem snd_var {i : Nat} (hi : i < P.n) : SndE P m W (tVar i) (eVar i) := fun B F0 F H σ ob ρ Q w q => by
  unfold eVar at q
  cases e : ρ[i]? with
  | none => rw [e] at q; exact q.elim
  | some s =>
    rw [e] at q
    obtain ⟨al, s1, s2, s3⟩ := w.sl
    have x := s1 i s e
    have hi' : i < σ.length := by rw [w.n]; exact hi
    rw [tau_lt hi'] at x
    have e1 : ∀ u, (σ[i]?).join = some u → σ[i]? = some (some u) := fun u h => by
      rw [List.getElem?_eq_getElem hi'] at h ⊢
      rw [show σ[i] = some u from h]
    cases s with
    | un => exact q.elim
    | fz d =>
      obtain ⟨u, h1, h2⟩ := x
      exact ⟨u, e1 u h1, q B F H ob u w (Same.refl _) (fun _ => rfl) ⟨rfl, h2⟩⟩
    | ow o =>
      obtain ⟨h1, _⟩ := x
      exact ⟨_, e1 _ h1, q B F H ob _ w (Same.refl _) (fun _ => rfl) ⟨rfl, hi, e1 _ h1⟩⟩
    | self =>
      obtain ⟨p, fv, h1, h2⟩ := x
      exact ⟨_, e1 _ h2, q B F H ob _ w (Same.refl _) (fun _ => rfl) ⟨rfl, p, fv, h1, rfl⟩⟩
theorem snd_con {v : V} {d : D} (r : ∀ F, Rep P.K F v d) : SndE P m W (tC v) (eC d) := fun B F0 F H σ ob ρ Q w q => q B F H ob v w (Same.refl _) (fun _ => rfl) ⟨rfl, r F⟩
theorem snd_int {i : Int} : SndE P m W (tC (.int i)) (eC (.int i)) := snd_con fun _ => .int i
theorem snd_bl {b : Bool} : SndE P m W (tC (.bl b)) (eC (.bl b)) := snd_con fun _ => .bl b
theorem snd_str {x : Str} : SndE P m W (tC (.str x)) (eC (.str x)) := snd_con fun _ => .str x
theorem snd_non : SndE P m W (tC .non) (eC .non) := snd_con fun _ => .non
theorem snd_ty {n : String} : SndE P m W (tC (.ty n)) (eC (.ty n)) := snd_con fun _ => .ty n
theorem snd_adr {a : Addr} : SndE P m W (tC (.ref a)) (eC (.adr a)) := snd_con fun _ => .adr a
theorem snd_ktup {a : Addr} {vs : List V} {ds : List D} (h : KTup P.K (fun _ => none) a vs) (hl : vs.length ≤ sizeLine) (r : Reps P.K (fun _ => none) vs ds) : SndE P m W (tC (.ref a)) (eC (.ktup ds)) :=
  snd_con fun F => .ktup (h.mono (same_nil F)) hl (Reps.mono (same_nil F) r)
theorem snd_mat (h : SndE P m W te f) : SndE P m W te (eMat f) := fun B F0 F H σ ob ρ Q w q => by
  refine h.frz B F0 F H σ ob ρ Q w (Post.of_bind (k := fun h ρ1 => match mat ρ1 h with | some (d, ρ2) => R.ok (Hd.dat d) ρ2 | none => R.stuck) q ?_)
  rintro a ρ' B' F' H' ob' v w' s i ⟨rfl, r⟩ q
  cases e : mat ρ' a with
  | none => rw [e] at q; exact q.elim
  | some x =>
    obtain ⟨d, ρ2⟩ := x
    rw [e] at q
    obtain ⟨F2, w2, s2, r2⟩ := w'.mat r e
    exact q B' F2 H' ob' v w2 (s.trans s2) i ⟨rfl, r2⟩
theorem opt_post {B F0 : Hp} {σ : L2.St} {ob ob' : Ob} {F' H' : Hp} {ρ' : Envi} {Q : VK} {c : Option D} (w : Wf P B F0 F' H' σ ob' ρ') (s : Same F F') (i : m = false → ob' = ob)
    (q : Post P B F0 F σ ob m W (RelE P B σ) Q (opt1 ρ' c)) {r : VK → Prop} (hr : ∀ d, c = some d → (∀ F2 H2 v, Grow F' H' F2 H2 → Rep P.K F2 v d → Q v H2) → r Q) : r Q := by
  cases c with
  | none => exact q.elim
  | some d =>
    refine hr d rfl fun F2 H2 v g r2 => ?_
    obtain ⟨w2, s2⟩ := w.growN g
    exact q B F2 H2 ob' v w2 (s.trans s2) i ⟨rfl, r2⟩
theorem snd_bin0 {r : R2} {op : D → D → Option D} (ho : OpS P.K r op) (ha : SndE P m W ta f) (hb : SndE P m W tb g) (hm : m = false ∨ ∀ ρ h ρ', (f ρ).frz = .ok h ρ' → ∃ d, h = .dat d) : SndE P m W (tOp r ta tb) (eBin op f g) := fun B F0 F H σ ob ρ Q w q => by
  show ta σ H _
  have keep : ∀ h ρ', (f ρ).frz = .ok h ρ' → ∀ {F1 F2 : Hp} {ob1 ob2 : Ob} {x : V}, Same F1 F2 → (m = false → ob2 = ob1) → HR1 P F1 σ ob1 x h → HR1 P F2 σ ob2 x h := fun h ρ' e => by
    intro F1 F2 ob1 ob2 x s hob r
    rcases hm with z | z
    · exact r.mono s (hob z)
    · obtain ⟨d, rfl⟩ := z ρ h ρ' e
      exact Rep.mono s r
  refine ha.frz B F0 F H σ ob ρ _ w ?_
  dsimp only
  cases e : (f ρ).frz with
  | stuck =>
    unfold eBin at q
    rw [e] at q; exact q
  | exc c ρ' =>
    unfold eBin at q
    rw [e] at q; exact q
  | ok h ρ1 =>
    unfold eBin at q
    rw [e] at q
    have q : Post P B F0 F σ ob m W (RelE P B σ) Q ((g ρ1).frz.bind fun k ρ2 => on2 op ρ2 h k) := q
    rintro B' F1 H1 ob1 x w1 s1 i1 ⟨rfl, r1⟩
    refine hb.frz _ F0 F1 H1 σ ob1 ρ1 _ w1 (Post.of_bind (q.shift s1 i1) ?_)
    rintro k ρ2 B' F2 H2 ob2 y w2 s2 i2 ⟨rfl, r2⟩ q
    have r1' := keep h ρ1 e s2 i2 r1
    unfold on2 at q
    cases d1 : deref ρ2 h with
    | none => rw [d1] at q; exact q.elim
    | some a =>
      cases d2 : deref ρ2 k with
      | none => rw [d1, d2] at q; exact q.elim
      | some b =>
        rw [d1, d2] at q
        exact opt_post (r := fun Q => r x y H2 Q) w2 s2 i2 q fun c e hq => ho F2 H2 x y a b c Q w2.fh (w2.deref r1' d1) (w2.deref r2 d2) e hq
theorem snd_bin {r : R2} {op : D → D → Option D} (ho : OpS P.K r op) (ha : SndE P false W ta f) (hb : SndE P false W tb g) : SndE P m W (tOp r ta tb) (eBin op f g) := (snd_bin0 ho ha hb (.inl rfl)).up
theorem eMat_dat {ρ : Envi} {h : Hd} {ρ' : Envi} (e : (eMat f ρ).frz = .ok h ρ') : ∃ d, h = .dat d := by
  unfold eMat at e
  cases q : (f ρ).frz with
  | stuck => rw [q] at e; cases e
  | exc c ρ' => rw [q] at e; cases e
  | ok k ρ1 =>
    rw [q] at e
    have e : R.frz (match mat ρ1 k with | some (d, ρ2) => R.ok (.dat d) ρ2 | none => .stuck) = .ok h ρ' := e
    cases q2 : mat ρ1 k with
    | none => rw [q2] at e; cases e
    | some x =>
      obtain ⟨d, ρ2⟩ := x
      rw [q2] at e
      cases e
      exact ⟨d, rfl⟩
theorem snd_binM {r : R2} {op : D → D → Option D} (ho : OpS P.K r op) (ha : SndE P m W ta f) (hb : SndE P m W tb g) : SndE P m W (tOp r ta tb) (eBin op (eMat f) g) :=
  snd_bin0 ho (snd_mat ha) hb (.inr fun _ _ _ e => eMat_dat e)
theorem snd_un {r : V → Hp → VK → Prop} {op : D → Option D} (ho : UnS P.K r op) (ha : SndE P m W ta f) : SndE P m W (tUn r ta) (eUn op f) := fun B F0 F H σ ob ρ Q w q => by
  refine ha.frz B F0 F H σ ob ρ _ w (Post.of_bind q ?_)
  rintro k ρ2 B' F2 H2 ob2 y w2 s2 i2 ⟨rfl, r2⟩ q
  unfold on1 at q
  cases d1 : deref ρ2 k with
  | none => rw [d1] at q; exact q.elim
  | some a =>
    rw [d1] at q
    exact opt_post (r := fun Q => r y H2 Q) w2 s2 i2 q fun c e hq => ho F2 H2 y a c Q w2.fh (w2.deref r2 d1) e hq
/-! arguments -/
variable {fa : Envi → R (List Hd)} {tr : TA} {n : Nat}
theorem snd_nil : SndA P m W 0 tNil aNil := fun B F0 F H σ ob ρ Q w q => q B F H ob [] w (Same.refl _) (fun _ => rfl) ⟨⟨rfl, True.intro⟩, rfl⟩
theorem SndA.up (h : SndA P false W n tr fa) : SndA P m W n tr fa := fun B F0 F H σ ob ρ Q w q => h B F0 F H σ ob ρ Q w q.up
theorem snd_cons0 (ha : SndE P m W ta f) (hr : SndA P m W n tr fa) (hm : m = false ∨ ∀ ρ h ρ', (f ρ).frz = .ok h ρ' → ∃ d, h = .dat d) : SndA P m W (n + 1) (tCons ta tr) (aCons f fa) := fun B F0 F H σ ob ρ Q w q => by
  show ta σ H _
  have keep : ∀ h ρ', (f ρ).frz = .ok h ρ' → ∀ {F1 F2 : Hp} {ob1 ob2 : Ob} {x : V}, Same F1 F2 → (m = false → ob2 = ob1) → HR1 P F1 σ ob1 x h → HR1 P F2 σ ob2 x h := fun h ρ' e => by
    intro F1 F2 ob1 ob2 x s hob r
    rcases hm with z | z
    · exact r.mono s (hob z)
    · obtain ⟨d, rfl⟩ := z ρ h ρ' e
      exact Rep.mono s r
  refine ha.frz B F0 F H σ ob ρ _ w ?_
  dsimp only
  cases e : (f ρ).frz with
  | stuck =>
    unfold aCons at q
    rw [e] at q; exact q
  | exc c ρ' =>
    unfold aCons at q
    rw [e] at q; exact q
  | ok h ρ1 =>
    unfold aCons at q
    rw [e] at q
    have q : Post P B F0 F σ ob m W (fun B' F' ob' vs hs => RelA P B σ B' F' ob' vs hs ∧ vs.length = n + 1) Q ((fa ρ1).bind fun hs ρ2 => .ok (h :: hs) ρ2) := q
    rintro B' F1 H1 ob1 x w1 s1 i1 ⟨rfl, r1⟩
    refine hr _ F0 F1 H1 σ ob1 ρ1 _ w1 (Post.of_bind (q.shift s1 i1) ?_)
    rintro hs ρ2 B' F2 H2 ob2 ys w2 s2 i2 ⟨⟨rfl, r2⟩, hl⟩ q
    exact q _ F2 H2 ob2 (x :: ys) w2 s2 i2 ⟨⟨rfl, keep h ρ1 e s2 i2 r1, r2⟩, congrArg (· + 1) hl⟩
theorem snd_cons (ha : SndE P false W ta f) (hr : SndA P false W n tr fa) : SndA P m W (n + 1) (tCons ta tr) (aCons f fa) := (snd_cons0 ha hr (.inl rfl)).up
theorem snd_consM (ha : SndE P m W ta f) (hr : SndA P m W n tr fa) : SndA P m W (n + 1) (tCons ta tr) (aCons (eMat f) fa) := snd_cons0 (snd_mat ha) hr (.inr fun _ _ _ e => eMat_dat e)
theorem snd_one (ha : SndE P m W ta f) : SndA P m W 1 (tCons ta tNil) (aCons f aNil) := fun B F0 F H σ ob ρ Q w q => by
  refine ha.frz B F0 F H σ ob ρ _ w (Post.of_bind q ?_)
  rintro k ρ2 B' F2 H2 ob2 y w2 s2 i2 ⟨rfl, r2⟩ q
  exact q _ F2 H2 ob2 [y] w2 s2 i2 ⟨⟨rfl, r2, True.intro⟩, rfl⟩
theorem small_line {n : Nat} (h : n ≤ 1000) : n ≤ sizeLine := Nat.le_of_lt (small1000 h)
theorem snd_tup (h : SndA P m W n tr fa) (hn : n ≤ 1000 := by decide) : SndE P m W (tTup tr) (eTup fa) := fun B F0 F H σ ob ρ Q w q => by
  refine h B F0 F H σ ob ρ _ w (Post.of_bind (k := fun hs ρ1 => match matAll ρ1 hs with | some (ds, ρ2) => R.ok (Hd.dat (.tup ds)) ρ2 | none => R.stuck) q ?_)
  rintro hs ρ2 B' F2 H2 ob2 ys w2 s2 i2 ⟨⟨rfl, r2⟩, hl⟩ q
  have hl' : ys.length ≤ sizeLine := by rw [hl]; exact small_line hn
  refine ⟨hl', fun p hp => ?_⟩
  cases e : matAll ρ2 hs with
  | none => rw [e] at q; exact q.elim
  | some x =>
    obtain ⟨ds, ρ3⟩ := x
    rw [e] at q
    obtain ⟨F3, w3, s3, r3⟩ := w2.matAll r2 e
    have w4 := w3.grow (o := .tup ys) hp
    have s4 : Same F3 (upd F3 p (.tup ys)) := same_new (w3.fh.free hp)
    exact q B' _ _ ob2 _ w4 ((s2.trans s3).trans s4) i2 ⟨rfl, .tup upd_same hl' (Reps.mono s4 r3)⟩
theorem snd_lst (h : SndA P m W n tr fa) (hn : n ≤ 1000 := by decide) : SndE P m W (tLst tr) (eLst fa) := fun B F0 F H σ ob ρ Q w q => by
  refine h B F0 F H σ ob ρ _ w (Post.of_bind (k := fun hs ρ1 => match matAll ρ1 hs with | some (ds, ρ2) => R.ok (Hd.tm (.li ds)) ρ2 | none => R.stuck) q ?_)
  rintro hs ρ2 B' F2 H2 ob2 ys w2 s2 i2 ⟨⟨rfl, r2⟩, hl⟩ q
  have hl' : ys.length ≤ sizeLine := by rw [hl]; exact small_line hn
  refine ⟨hl', fun p hp => ?_⟩
  cases e : matAll ρ2 hs with
  | none => rw [e] at q; exact q.elim
  | some x =>
    obtain ⟨ds, ρ3⟩ := x
    rw [e] at q
    obtain ⟨F3, w3, s3, r3⟩ := w2.matAll r2 e
    exact q (upd B' p (.lst ys)) F3 _ ob2 _ (w3.tmp hp) (s2.trans s3) i2 ⟨p, _, rfl, rfl, w3.bh.free hp, w3.fh.free hp, ys, rfl, hl', r3⟩
/-! calls -/
theorem Wf.call {B F0 : Hp} {σ : L2.St} {ob : Ob} {ρ : Envi} {F' H' : Hp} (w : Wf P B F0 F H σ ob ρ) (h1 : Same F F') (h2 : Same F' H') (h3 : Same H H') (h4 : ∀ b o, F' b = some o → F b = some o ∨ H b = none ∨ ∃ vs, o = .tup vs) : Wf P B F0 F' H' σ ob ρ := by
  obtain ⟨fh, bh, ff, nw, n, len, ⟨al, s1, s2, s3⟩, hob⟩ := w
  have out : ∀ {a : Addr} {u : HO}, H a = some u → (∀ vs, u ≠ .tup vs) → F a = none → F' a = none := fun {a u} ha hu hf => by
    cases e : F' a with
    | none => rfl
    | some o =>
      rcases h4 a o e with z | z | ⟨vs, rfl⟩
      · rw [hf] at z; cases z
      · rw [ha] at z; cases z
      · have q := h2 _ _ e
        rw [h3 _ _ ha] at q
        exact absurd (Option.some.inj q) (hu vs)
  refine ⟨h2, bh.trans h3, ff.trans h1, fun b o e => ?_, n, len, ⟨al, fun i s h => (s1 i s h).imp h1 fun ho _ e => h3 _ _ e, fun i s h hs => ?_, s3⟩, fun q fv e => ?_⟩
  · rcases h4 b o e with z | z
    · exact nw b o z
    · exact .inr (z.imp_left bh.free)
  · obtain ⟨z, e, _, hz⟩ := (s1 i s h).there hs
    exact ⟨out e hz (s2 i s h hs).1, (s2 i s h hs).2⟩
  · have x := hob q fv e
    obtain ⟨dx, fs, ei⟩ := x.ins
    exact x.keep (fun z => out ei (fun _ => nofun) z) (fun z => z) fun u hu => h3 _ _ hu
theorem Wf.callOw {B F0 : Hp} {σ : L2.St} {ob : Ob} {ρ : Envi} {F' H' : Hp} {a : Addr} {ho : HO} (w : Wf P B F0 F H σ ob ρ) (h1 : Same F F') (h2 : Same F' H') (h3 : Same H H') (h4 : ∀ b o, F' b = some o → F b = some o ∨ H b = none ∨ ∃ vs, o = .tup vs) (ha : H' a = some ho) (fa : F' a = none) (na : H a = none) :
    Wf P (upd B a ho) F0 F' H' σ ob ρ := by
  have w' := w.call h1 h2 h3 h4
  have ba : B a = none := w.bh.free na
  have f0 : F a = none := w.fh.free na
  obtain ⟨fh, bh, ff, nw, n, len, ⟨al, s1, s2, s3⟩, hob⟩ := w
  have out : ∀ {a : Addr} {u : HO}, H a = some u → (∀ vs, u ≠ .tup vs) → F a = none → F' a = none := fun {a u} ha hu hf => by
    cases e : F' a with
    | none => rfl
    | some o =>
      rcases h4 a o e with z | z | ⟨vs, rfl⟩
      · rw [hf] at z; cases z
      · rw [ha] at z; cases z
      · have q := h2 _ _ e
        rw [h3 _ _ ha] at q
        exact absurd (Option.some.inj q) (hu vs)
  refine ⟨h2, fun b o e => ?_, ff.trans h1, fun b o e => ?_, n, len, ⟨al, fun i s h => (s1 i s h).imp h1 fun ho _ e => h3 _ _ e, fun i s h hs => ?_, s3⟩, fun q fv e => ?_⟩
  · by_cases hb : b = a
    · subst hb; rw [upd_same] at e; rw [← e]; exact ha
    · rw [upd_ne hb] at e; exact h3 _ _ (bh _ _ e)
  · have hb : b ≠ a := ne_of_none e fa
    rw [upd_ne hb]
    rcases h4 b o e with z | z
    · exact nw b o z
    · exact .inr (z.imp_left bh.free)
  · obtain ⟨z, e, _, hz⟩ := (s1 i s h).there hs
    rw [upd_ne (ne_of_none e na)]
    exact ⟨out e hz (s2 i s h hs).1, (s2 i s h hs).2⟩
  · have x := hob q fv e
    obtain ⟨dx, fs, ei⟩ := x.ins
    exact x.keep (fun z => out ei (fun _ => nofun) z) (fun z => by rw [upd_ne (ne_of_none ei na)]; exact z) fun u hu => h3 _ _ hu
theorem snd_call {fs : List D → Rf} (h : SndA P m W n tr fa) : SndE P m W (tCallS (spF P.K P.ec n fs) (WE W) tr) (eCall fs fa) := fun B F0 F H σ ob ρ Q w q => by
  refine h B F0 F H σ ob ρ _ w (Post.of_bind (k := fun hs ρ1 => match matAll ρ1 hs with | some (ds, ρ2) => ofRf ρ2 (fs ds) | none => .stuck) q ?_)
  rintro hs ρ2 B' F2 H2 ob2 ys w2 s2 i2 ⟨⟨rfl, r2⟩, hl⟩ q
  refine ⟨hl, ?_⟩
  cases e : matAll ρ2 hs with
  | none => rw [e] at q; exact q.elim
  | some x =>
    obtain ⟨ds, ρ3⟩ := x
    rw [e] at q
    obtain ⟨F3, w3, s3, r3⟩ := w2.matAll r2 e
    refine ⟨F3, ds, w3.fh, r3, ?_⟩
    have q : Post P B' F0 F σ ob m W (RelE P B' σ) Q (ofRf ρ3 (fs ds)) := q
    cases e2 : fs ds with
    | stuck => rw [e2] at q; exact q
    | exc c =>
      rw [e2] at q
      intro H' s
      exact q F3 H' ob2 (w3.call (Same.refl _) (w3.fh.trans s) s fun b o z => .inl z) (s2.trans s3)
    | fz d =>
      rw [e2] at q
      intro F' H' v h1 h2 h3 h4 r
      exact q B' F' H' ob2 v (w3.call h1 h2 h3 h4) ((s2.trans s3).trans h1) i2 ⟨rfl, r⟩
    | ow o =>
      rw [e2] at q
      intro F' H' a ho h1 h2 h3 h4 ha fa na r
      exact q (upd B' a ho) F' H' ob2 _ (w3.callOw h1 h2 h3 h4 ha fa na) ((s2.trans s3).trans h1) i2 ⟨a, ho, rfl, rfl, w3.bh.free na, fa, r⟩
theorem ofRf_post {B F0 : Hp} {σ : L2.St} {ob ob' : Ob} {F' H' : Hp} {ρ' : Envi} {Q : VK} {c : Rf} (hx : ∀ e, c ≠ .exc e) (w : Wf P B F0 F' H' σ ob' ρ') (s : Same F F') (i : m = false → ob' = ob)
    (q : Post P B F0 F σ ob m W (RelE P B σ) Q (ofRf ρ' c)) : PostB P.K F' H' Q c := by
  cases c with
  | stuck => exact q
  | exc c => exact absurd rfl (hx c)
  | fz d =>
    intro F2 H2 v g r
    obtain ⟨w2, s2⟩ := w.growN g
    exact q B F2 H2 ob' v w2 (s.trans s2) i ⟨rfl, r⟩
  | ow o =>
    intro F2 H2 a ho g ha r
    obtain ⟨w2, s2⟩ := w.growN g
    exact q (upd B a ho) F2 (upd H2 a ho) ob' _ (w2.tmp ha) (s.trans s2) i ⟨a, ho, rfl, rfl, w2.bh.free ha, w2.fh.free ha, r⟩
theorem snd_cb {fs : List D → Rf} {r : List V → Hp → VK → Prop} (hc : CallS P.K r fs) (hx : ∀ ds e, fs ds ≠ .exc e) (h : SndA P m W n tr fa) : SndE P m W (tCB r tr) (eCB fs fa) := fun B F0 F H σ ob ρ Q w q => by
  refine h B F0 F H σ ob ρ _ w (Post.of_bind (k := fun hs ρ1 => match derefAll ρ1 hs with | some ds => ofRf ρ1 (fs ds) | none => .stuck) q ?_)
  rintro hs ρ2 B' F2 H2 ob2 ys w2 s2 i2 ⟨⟨rfl, r2⟩, hl⟩ q
  cases e : derefAll ρ2 hs with
  | none => rw [e] at q; exact q.elim
  | some ds =>
    rw [e] at q
    exact hc F2 H2 ys ds Q w2.fh (w2.derefAll r2 e) (ofRf_post (hx ds) w2 s2 i2 q)
/-! tests -/
variable {tt tu : TT} {ft fu : Envi → R Bool}
theorem BRep.bl {K : PySem.W.Frag} {v : V} {b : Bool} (h : BRep K F H v (.bl b)) : v = .bl b := by
  rcases h with h | ⟨a, ho, o, _, _, _, e⟩
  · cases h; rfl
  · cases o <;> cases e
theorem snd_ts (h : SndE P m W te f) : SndT P m W (tTest te) (tsE f) := fun B F0 F H σ ob ρ Q w q => by
  refine h.frz B F0 F H σ ob ρ _ w (Post.of_bind q ?_)
  rintro k ρ2 B' F2 H2 ob2 y w2 s2 i2 ⟨rfl, r2⟩ q
  cases e : deref ρ2 k with
  | none => rw [e] at q; exact q.elim
  | some d =>
    rw [e] at q
    have x := w2.deref r2 e
    cases d with
    | bl b => exact ⟨b, x.bl, q B' F2 H2 ob2 b w2 s2 i2 ⟨rfl, rfl⟩⟩
    | _ => exact q.elim
theorem snd_tand (h1 : SndT P m W tt ft) (h2 : SndT P m W tu fu) : SndT P m W (tAnd tt tu) (tsAnd ft fu) := fun B F0 F H σ ob ρ Q w q => by
  refine h1 B F0 F H σ ob ρ _ w (Post.of_bind q ?_)
  rintro k ρ2 B' F2 H2 ob2 y w2 s2 i2 ⟨rfl, rfl⟩ q
  cases y with
  | true => exact h2 _ F0 F2 H2 σ ob2 ρ2 Q w2 (q.shift s2 i2)
  | false => exact q _ F2 H2 ob2 false w2 s2 i2 ⟨rfl, rfl⟩
theorem snd_tor (h1 : SndT P m W tt ft) (h2 : SndT P m W tu fu) : SndT P m W (tOr tt tu) (tsOr ft fu) := fun B F0 F H σ ob ρ Q w q => by
  refine h1 B F0 F H σ ob ρ _ w (Post.of_bind q ?_)
  rintro k ρ2 B' F2 H2 ob2 y w2 s2 i2 ⟨rfl, rfl⟩ q
  cases y with
  | false => exact h2 _ F0 F2 H2 σ ob2 ρ2 Q w2 (q.shift s2 i2)
  | true => exact q _ F2 H2 ob2 true w2 s2 i2 ⟨rfl, rfl⟩
theorem snd_tnot (h1 : SndT P m W tt ft) : SndT P m W (tNot tt) (tsNot ft) := fun B F0 F H σ ob ρ Q w q => by
  refine h1 B F0 F H σ ob ρ _ w (Post.of_bind q ?_)
  rintro k ρ2 B' F2 H2 ob2 y w2 s2 i2 ⟨rfl, rfl⟩ q
  exact q _ F2 H2 ob2 (!y) w2 s2 i2 ⟨rfl, rfl⟩
/-- and, or, not as values of bools -/
theorem snd_andV (h1 : SndE P m W ta f) (h2 : SndE P m W tb g) : SndE P m W (tAndV ta tb) (eIf (tsE f) g (eC (.bl false))) := fun B F0 F H σ ob ρ Q w q => by
  show ta σ H _
  have z : tTest ta σ H (fun c H1 => if c = true then tb σ H1 Q else Q (.bl false) H1) := by
    refine snd_ts h1 B F0 F H σ ob ρ _ w (Post.of_bind q ?_)
    rintro k ρ2 B' F2 H2 ob2 y w2 s2 i2 ⟨rfl, rfl⟩ q
    cases y with
    | true => exact h2 _ F0 F2 H2 σ ob2 ρ2 Q w2 (q.shift s2 i2)
    | false => exact q _ F2 H2 ob2 _ w2 s2 i2 ⟨rfl, .bl false⟩
  exact z
theorem snd_orV (h1 : SndE P m W ta f) (h2 : SndE P m W tb g) : SndE P m W (tOrV ta tb) (eIf (tsE f) (eC (.bl true)) g) := fun B F0 F H σ ob ρ Q w q => by
  show ta σ H _
  have z : tTest ta σ H (fun c H1 => if c = true then Q (.bl true) H1 else tb σ H1 Q) := by
    refine snd_ts h1 B F0 F H σ ob ρ _ w (Post.of_bind q ?_)
    rintro k ρ2 B' F2 H2 ob2 y w2 s2 i2 ⟨rfl, rfl⟩ q
    cases y with
    | false => exact h2 _ F0 F2 H2 σ ob2 ρ2 Q w2 (q.shift s2 i2)
    | true => exact q _ F2 H2 ob2 _ w2 s2 i2 ⟨rfl, .bl true⟩
  exact z
theorem snd_notV (h1 : SndE P m W ta f) : SndE P m W (tNotV ta) (eOfT (tsNot (tsE f))) := fun B F0 F H σ ob ρ Q w q => by
  show ta σ H _
  have z : tTest ta σ H (fun c H1 => Q (.bl (!c)) H1) := by
    refine snd_ts h1 B F0 F H σ ob ρ _ w ?_
    unfold eOfT tsNot at q
    cases e : tsE f ρ with
    | stuck => rw [e] at q; exact q
    | exc c ρ' => rw [e] at q; exact q
    | ok b ρ' =>
      rw [e] at q
      rintro B' F2 H2 ob2 y w2 s2 i2 ⟨rfl, rfl⟩
      exact q _ F2 H2 ob2 (.bl (!y)) w2 s2 i2 ⟨rfl, .bl _⟩
  exact z
theorem snd_ifE (hc : SndT P m W tt ft) (h1 : SndE P m W ta f) (h2 : SndE P m W tb g) : SndE P m W (tIf tt ta tb) (eIf ft f g) := fun B F0 F H σ ob ρ Q w q => by
  refine hc B F0 F H σ ob ρ _ w (Post.of_bind q ?_)
  rintro k ρ2 B' F2 H2 ob2 y w2 s2 i2 ⟨rfl, rfl⟩ q
  cases y with
  | true => exact h1 _ F0 F2 H2 σ ob2 ρ2 Q w2 (q.shift s2 i2)
  | false => exact h2 _ F0 F2 H2 σ ob2 ρ2 Q w2 (q.shift s2 i2)
end
end Pv

set_option Elab.async false
set_option linter.all false
set_option maxRecDepth 100000
namespace Pv
open PySem PySem.Spec PyProof.Rows L2
/-! statements: the pure functions -/
inductive Rv where
  | fz (d : D) | ow (o : Own)
inductive Fl where
  | nx (ρ : Envi) | ret (v : Rv) (ρ : Envi) | bk (ρ : Envi) | ct (ρ : Envi) | exc (c : Exc) (ρ : Envi) | stuck
def R.toFl {α : Type} (r : R α) (k : α → Envi → Fl) : Fl :=
  match r with
  | .ok a ρ => k a ρ
  | .exc c ρ => .exc c ρ
  | .stuck => .stuck
abbrev Sem := Envi → Fl
def sNext : Sem := fun ρ => .nx ρ
def sSeq (g h : Sem) : Sem := fun ρ => match g ρ with
  | .nx ρ1 => h ρ1
  | r => r
def sIf (c : Envi → R Bool) (g h : Sem) : Sem := fun ρ => (c ρ).toFl fun b ρ1 => if b = true then g ρ1 else h ρ1
def retH (ρ : Envi) : Hd → Fl
  | .tm o => .ret (.ow o) ρ
  | h => match mat ρ h with
    | some (d, ρ2) => .ret (.fz d) ρ2
    | none => .stuck
def sRet (f : Envi → R Hd) : Sem := fun ρ => (f ρ).toFl fun h ρ1 => retH ρ1 h
def sRetN : Sem := fun ρ => .ret (.fz .non) ρ
def sDrop (f : Envi → R Hd) : Sem := fun ρ => (f ρ).frz.toFl fun _ ρ1 => .nx ρ1
def setH (i : Nat) (ρ : Envi) : Hd → Fl
  | .tm o => .nx (ρ.set i (.ow o))
  | .obj => .nx (ρ.set i .self)
  | h => match mat ρ h with
    | some (d, ρ2) => .nx (ρ2.set i (.fz d))
    | none => .stuck
def sSet (i : Nat) (f : Envi → R Hd) : Sem := fun ρ => (f ρ).toFl fun h ρ1 => setH i ρ1 h
def sRaise (c : Exc) : Sem := fun ρ => .exc c ρ
def sBreak : Sem := fun ρ => .bk ρ
def sCont : Sem := fun ρ => .ct ρ
abbrev Bnd := D → Envi → Option Envi
def bN (i : Nat) : Bnd := fun d ρ => some (ρ.set i (.fz d))
abbrev Bnds := List D → Envi → Option Envi
def bsNil : Bnds := fun ds ρ => match ds with
  | [] => some ρ
  | _ => none
def bsCons (b : Bnd) (bs : Bnds) : Bnds := fun ds ρ => match ds with
  | d :: r => match b d ρ with
    | some ρ1 => bs r ρ1
    | none => none
  | [] => none
def bT (n : Nat) (bs : Bnds) : Bnd := fun d ρ => match d with
  | .tup ds => if ds.length = n then bs ds ρ else none
  | .ktup ds => if ds.length = n then bs ds ρ else none
  | _ => none
def bL (n : Nat) (bs : Bnds) : Bnd := fun d ρ => match d with
  | .lst ds => if ds.length = n then bs ds ρ else none
  | _ => none
def bindFl (b : Bnd) (h : Hd) (ρ : Envi) (k : Envi → Fl) : Fl := match h with
  | .dat d => match b d ρ with
    | some ρ1 => k ρ1
    | none => .stuck
  | _ => .stuck
def sAsg (f : Envi → R Hd) (b : Bnd) : Sem := fun ρ => (eMat f ρ).toFl fun h ρ1 => bindFl b h ρ1 .nx
/-- a for over given items -/
def runFor (b : Bnd) (g : Sem) : List D → Envi → Fl
  | [], ρ => .nx ρ
  | d :: ds, ρ => match b d ρ with
    | none => .stuck
    | some ρ1 => match g ρ1 with
      | .nx ρ2 => runFor b g ds ρ2
      | .ct ρ2 => runFor b g ds ρ2
      | .bk ρ2 => .nx ρ2
      | r => r
def sFor (it : Envi → R (List D)) (b : Bnd) (g : Sem) : Sem := fun ρ => (it ρ).toFl fun ds ρ1 => runFor b g ds ρ1
/-- a while, by so many turns -/
def runW (c : Envi → R Bool) (g : Sem) : Nat → Envi → Fl
  | 0, _ => .stuck
  | n + 1, ρ => (c ρ).toFl fun b ρ1 => if b = true then (match g ρ1 with
      | .nx ρ2 => runW c g n ρ2
      | .ct ρ2 => runW c g n ρ2
      | .bk ρ2 => .nx ρ2
      | r => r) else .nx ρ1
open Classical in
noncomputable def sWhile (c : Envi → R Bool) (g : Sem) : Sem := fun ρ => if h : ∃ n, runW c g n ρ ≠ .stuck then runW c g h.choose ρ else .stuck

def RetR (P : Pr) (B B' F : Hp) (u : V) : Rv → Prop
  | .fz d => B' = B ∧ Rep P.K F u d
  | .ow o => ∃ a ho, u = .ref a ∧ B' = upd B a ho ∧ B a = none ∧ F a = none ∧ OwnR P.K F ho o
def PostS (P : Pr) (B F0 F : Hp) (W : WX) (D : Ends) : Fl → Prop
  | .nx ρ' => ∀ F' H' σ' ob', Wf P B F0 F' H' σ' ob' ρ' → Same F F' → D.nx σ' H'
  | .bk ρ' => ∀ F' H' σ' ob', Wf P B F0 F' H' σ' ob' ρ' → Same F F' → D.bk σ' H'
  | .ct ρ' => ∀ F' H' σ' ob', Wf P B F0 F' H' σ' ob' ρ' → Same F F' → D.ct σ' H'
  | .ret v ρ' => ∀ B' F' H' σ' ob' u, Wf P B' F0 F' H' σ' ob' ρ' → Same F F' → RetR P B B' F' u v → D.rt u H'
  | .exc c ρ' => ∀ F' H' σ' ob', Wf P B F0 F' H' σ' ob' ρ' → Same F F' → W (P.ec c) none σ' H'
  | .stuck => False
def SndS (P : Pr) (W : WX) (ts : TS) (g : Sem) : Prop :=
  ∀ B F0 F H σ ob ρ D, Wf P B F0 F H σ ob ρ → PostS P B F0 F W D (g ρ) → ts D σ H
def SndG (P : Pr) (us : List Nat) (tg : TG) (b : Bnd) : Prop :=
  ∀ B F0 F H σ ob ρ v d ρ' Q, Wf P B F0 F H σ ob ρ → Rep P.K F v d → b d ρ = some ρ' → (∀ σ', Wf P B F0 F H σ' ob ρ' → (∀ vs, (∀ u ∈ us, u ∈ vs) → wipe σ' vs = wipe σ vs) → Q σ' H) → tg v σ H Q
def SndGs (P : Pr) (us : List Nat) (tg : TGs) (b : Bnds) : Prop :=
  ∀ B F0 F H σ ob ρ vs ds ρ' Q, Wf P B F0 F H σ ob ρ → Reps P.K F vs ds → b ds ρ = some ρ' → (∀ σ', Wf P B F0 F H σ' ob ρ' → (∀ vs, (∀ u ∈ us, u ∈ vs) → wipe σ' vs = wipe σ vs) → Q σ' H) → tg vs σ H Q
/-- an iterator that will yield these -/
def ItOk (K : PySem.W.Frag) (J : It) (F : Hp) (ds : List D) : Prop :=
  ∀ F2 H2, Same F F2 → Same F2 H2 → (∀ i d, ds[i]? = some d → J.go i H2 ∧ ∀ x H3, J.yld i H2 x H3 → ∃ F3, Grow F2 H2 F3 H3 ∧ Rep K F3 x d) ∧ (∀ i, ds.length ≤ i → J.stop i H2)
def SndI (P : Pr) (m : Bool) (W : WX) (ti : TI) (f : Envi → R (List D)) : Prop :=
  ∀ B F0 F H σ ob ρ Q, Wf P B F0 F H σ ob ρ → Post P B F0 F σ ob m W (fun B' F' _ J ds => B' = B ∧ ItOk P.K J F' ds ∧ ds.length ≤ sizeLine) Q (f ρ) → ti σ H Q

section
variable {P : Pr} {m : Bool} {W : WX} {te ta tb : TE} {f : Envi → R Hd} {B F0 F H : Hp} {D : Ends} {ts tu : TS} {g h : Sem}
theorem PostS.shift {F1 : Hp} (e : Same F F1) : ∀ {r : Fl}, PostS P B F0 F W D r → PostS P B F0 F1 W D r
  | .nx _, h => fun F' H' σ' ob' w s => h F' H' σ' ob' w (e.trans s)
  | .bk _, h => fun F' H' σ' ob' w s => h F' H' σ' ob' w (e.trans s)
  | .ct _, h => fun F' H' σ' ob' w s => h F' H' σ' ob' w (e.trans s)
  | .ret _ _, h => fun B' F' H' σ' ob' u w s r => h B' F' H' σ' ob' u w (e.trans s) r
  | .exc _ _, h => fun F' H' σ' ob' w s => h F' H' σ' ob' w (e.trans s)
  | .stuck, h => h
theorem Post.of_toFl {α β : Type} {m' : Bool} {σ : L2.St} {ob : Ob} {Rel : Hp → Hp → Ob → β → α → Prop} {Q : β → Hp → Prop} {k : α → Envi → Fl} {r : R α} {H : Hp} {ρ : Envi} (h : PostS P B F0 F W D (r.toFl k))
    (step : ∀ a ρ' B' F' H' ob' v, Wf P B' F0 F' H' σ ob' ρ' → Same F F' → (m' = false → ob' = ob) → Rel B' F' ob' v a → PostS P B F0 F W D (k a ρ') → Q v H') : Post P B F0 F σ ob m' W Rel Q r := by
  cases r with
  | ok a ρ' => exact fun B' F' H' ob' v w s i r => step a ρ' B' F' H' ob' v w s i r h
  | exc c ρ' => exact fun F' H' ob' w s => h F' H' σ ob' w s
  | stuck => exact h
theorem snd_next : SndS P W tNext sNext := fun B F0 F H σ ob ρ D w q => q F H σ ob w (Same.refl _)
theorem snd_seq (h1 : SndS P W ts g) (h2 : SndS P W tu h) : SndS P W (tSeq ts tu) (sSeq g h) := fun B F0 F H σ ob ρ D w q => by
  refine h1 B F0 F H σ ob ρ _ w ?_
  unfold sSeq at q
  cases e : g ρ with
  | nx ρ' =>
    rw [e] at q
    intro F' H' σ' ob' w' s
    exact h2 B F0 F' H' σ' ob' ρ' D w' (q.shift s)
  | ret v ρ' => rw [e] at q; exact q
  | bk ρ' => rw [e] at q; exact q
  | ct ρ' => rw [e] at q; exact q
  | exc c ρ' => rw [e] at q; exact q
  | stuck => rw [e] at q; exact q
theorem snd_if {tt : TT} {c : Envi → R Bool} (hc : SndT P true W tt c) (h1 : SndS P W ts g) (h2 : SndS P W tu h) : SndS P W (tIfS tt ts tu) (sIf c g h) := fun B F0 F H σ ob ρ D w q => by
  refine hc B F0 F H σ ob ρ _ w (Post.of_toFl (H := H) (ρ := ρ) q ?_)
  rintro b ρ' B' F' H' ob' v w' s i ⟨rfl, rfl⟩ q
  cases v with
  | true => exact h1 _ F0 F' H' σ ob' ρ' D w' (q.shift s)
  | false => exact h2 _ F0 F' H' σ ob' ρ' D w' (q.shift s)
theorem mat_post {σ : L2.St} {ob : Ob} {ρ : Envi} {v : V} {a : Hd} {kk : Option (Pv.D × Envi) → Fl} (w : Wf P B F0 F H σ ob ρ) (r : HR1 P F σ ob v a) (q : PostS P B F0 F W D (kk (mat ρ a))) (hs : kk none = .stuck) :
    ∃ d ρ2 F2, mat ρ a = some (d, ρ2) ∧ Wf P B F0 F2 H σ ob ρ2 ∧ Same F F2 ∧ Rep P.K F2 v d ∧ PostS P B F0 F2 W D (kk (some (d, ρ2))) := by
  cases e : mat ρ a with
  | none => rw [e, hs] at q; exact q.elim
  | some x =>
    obtain ⟨d, ρ2⟩ := x
    rw [e] at q
    obtain ⟨F2, w2, s2, r2⟩ := w.mat r e
    exact ⟨d, ρ2, F2, rfl, w2, s2, r2, q.shift s2⟩
theorem snd_ret (h : SndE P m W te f) : SndS P W (tRet te) (sRet f) := fun B F0 F H σ ob ρ D w q => by
  refine h B F0 F H σ ob ρ _ w (Post.of_toFl (H := H) (ρ := ρ) q ?_)
  intro a ρ' B' F' H' ob' v w' s i r q
  cases a with
  | tm o => exact q B' F' H' σ ob' v w' s r
  | dat d =>
    obtain ⟨rfl, r⟩ := r
    exact q _ F' H' σ ob' v w' s ⟨rfl, r⟩
  | pl j =>
    obtain ⟨rfl, r⟩ := r
    obtain ⟨d, ρ2, F2, e, w2, s2, r2, q2⟩ := mat_post (kk := fun x => match x with | some (d, ρ2) => .ret (.fz d) ρ2 | none => .stuck) w' r (q.shift s) rfl
    exact q2 _ F2 H' σ ob' v w2 (Same.refl _) ⟨rfl, r2⟩
  | fl j =>
    obtain ⟨rfl, r⟩ := r
    obtain ⟨d, ρ2, F2, e, w2, s2, r2, q2⟩ := mat_post (kk := fun x => match x with | some (d, ρ2) => .ret (.fz d) ρ2 | none => .stuck) w' r (q.shift s) rfl
    exact q2 _ F2 H' σ ob' v w2 (Same.refl _) ⟨rfl, r2⟩
  | obj => exact q.elim
theorem snd_retN : SndS P W tRetN sRetN := fun B F0 F H σ ob ρ D w q => q B F H σ ob _ w (Same.refl _) ⟨rfl, .non⟩
theorem snd_drop (h : SndE P m W te f) : SndS P W (tDrop te) (sDrop f) := fun B F0 F H σ ob ρ D w q => by
  refine h.frz B F0 F H σ ob ρ _ w (Post.of_toFl (H := H) (ρ := ρ) q ?_)
  rintro a ρ' B' F' H' ob' v w' s i ⟨rfl, r⟩ q
  exact q F' H' σ ob' w' s
theorem snd_set {i : Nat} (hi : i < P.n) (h : SndE P m W te f) : SndS P W (tAsg te (gName i)) (sSet i f) := fun B F0 F H σ ob ρ D w q => by
  refine h B F0 F H σ ob ρ _ w (Post.of_toFl (H := H) (ρ := ρ) q ?_)
  intro a ρ' B' F' H' ob' v w' s i' r q
  show D.nx (σ.set i (some v)) H'
  cases a with
  | tm o =>
    obtain ⟨a, ho, rfl, rfl, e3, e4, e5⟩ := r
    exact q F' H' _ ob' (w'.setOw hi e4 e3 e5) s
  | dat d =>
    obtain ⟨rfl, r⟩ := r
    exact q F' H' _ ob' (w'.set hi rfl fun _ => ⟨v, rfl, r⟩) s
  | pl j =>
    obtain ⟨rfl, r⟩ := r
    obtain ⟨d, ρ2, F2, e, w2, s2, r2, q2⟩ := mat_post (kk := fun x => match x with | some (d, ρ2) => .nx (ρ2.set i (.fz d)) | none => .stuck) w' r (q.shift s) rfl
    exact q2 F2 H' _ ob' (w2.set hi rfl fun _ => ⟨v, rfl, r2⟩) (Same.refl _)
  | fl j =>
    obtain ⟨rfl, r⟩ := r
    obtain ⟨d, ρ2, F2, e, w2, s2, r2, q2⟩ := mat_post (kk := fun x => match x with | some (d, ρ2) => .nx (ρ2.set i (.fz d)) | none => .stuck) w' r (q.shift s) rfl
    exact q2 F2 H' _ ob' (w2.set hi rfl fun _ => ⟨v, rfl, r2⟩) (Same.refl _)
  | obj =>
    obtain ⟨rfl, p, fv, e1, e2⟩ := r
    exact q F' H' _ ob' (w'.set hi rfl fun _ => ⟨p, fv, e1, by rw [e2]⟩) s
/-! targets -/
theorem wipe_set {σ : L2.St} {i : Nat} {v : Option V} : ∀ {vs : List Nat}, i ∈ vs → wipe (σ.set i v) vs = wipe σ vs
  | [], h => nomatch h
  | u :: vs, h => by
    unfold wipe
    by_cases hm : i ∈ vs
    · rw [wipe_set hm]
    · have e : i = u := by
        rcases List.mem_cons.mp h with e | e
        · exact e
        · exact absurd e hm
      subst e
      have key : ∀ (vs : List Nat), i ∉ vs → wipe (σ.set i v) vs = (wipe σ vs).set i v := by
        intro vs
        induction vs with
        | nil => intro _; rfl
        | cons u vs ih =>
          intro hn
          unfold wipe
          rw [ih (fun z => hn (List.mem_cons_of_mem _ z)), List.set_comm _ _ (fun z => hn (by rw [z]; exact List.mem_cons_self))]
      rw [key vs hm, List.set_set]
theorem sg_name {i : Nat} (hi : i < P.n) : SndG P [i] (gName i) (bN i) := fun B F0 F H σ ob ρ v d ρ' Q w r e q => by
  cases e
  exact q _ (w.set hi rfl fun _ => ⟨v, rfl, r⟩) fun vs h => wipe_set (h i List.mem_cons_self)
theorem sgs_nil : SndGs P [] gNil bsNil := fun B F0 F H σ ob ρ vs ds ρ' Q w r e q => by
  cases ds with
  | nil =>
    cases e
    cases r
    exact ⟨rfl, q _ w fun _ _ => rfl⟩
  | cons d r => cases e
theorem sgs_cons {us us' : List Nat} {tg : TG} {tgs : TGs} {b : Bnd} {bs : Bnds} (h1 : SndG P us tg b) (h2 : SndGs P us' tgs bs) : SndGs P (us ++ us') (gCons tg tgs) (bsCons b bs) := fun B F0 F H σ ob ρ vs ds ρ' Q w r e q => by
  cases ds with
  | nil => cases e
  | cons d dr =>
    cases r with
    | @cons v vs _ _ r1 r2 =>
      unfold bsCons at e
      dsimp only at e
      cases e1 : b d ρ with
      | none => rw [e1] at e; cases e
      | some ρ1 =>
        rw [e1] at e
        exact ⟨_, _, rfl, h1 B F0 F H σ ob ρ v d ρ1 _ w r1 e1 fun σ' w' e1 => h2 B F0 F H σ' ob ρ1 vs dr ρ' Q w' r2 e fun σ2 w2 e2 => q σ2 w2 fun vs hv =>
          (e2 vs fun u hu => hv u (List.mem_append_right _ hu)).trans (e1 vs fun u hu => hv u (List.mem_append_left _ hu))⟩
theorem sg_tup {us : List Nat} {n : Nat} {tgs : TGs} {bs : Bnds} (h : SndGs P us tgs bs) : SndG P us (gTup P.K n tgs) (bT n bs) := fun B F0 F H σ ob ρ v d ρ' Q w r e q => by
  cases r with
  | @tup a vs ds h1 h2 h3 =>
    have e : (if ds.length = n then bs ds ρ else none) = some ρ' := e
    split at e
    · rename_i hl
      exact ⟨a, vs, rfl, .inl (.inl (w.fh _ _ h1)), h3.length.trans hl, h B F0 F H σ ob ρ vs ds ρ' Q w h3 e q⟩
    · cases e
  | @ktup a vs ds h1 h2 h3 =>
    have e : (if ds.length = n then bs ds ρ else none) = some ρ' := e
    split at e
    · rename_i hl
      exact ⟨a, vs, rfl, same_sqt w.fh h1.sqt, h3.length.trans hl, h B F0 F H σ ob ρ vs ds ρ' Q w h3 e q⟩
    · cases e
  | _ => cases e
theorem sg_lst {us : List Nat} {n : Nat} {tgs : TGs} {bs : Bnds} (h : SndGs P us tgs bs) : SndG P us (gLst P.K n tgs) (bL n bs) := fun B F0 F H σ ob ρ v d ρ' Q w r e q => by
  cases r with
  | @lst a vs ds h1 h2 h3 =>
    have e : (if ds.length = n then bs ds ρ else none) = some ρ' := e
    split at e
    · rename_i hl
      exact ⟨a, vs, rfl, .inl (.inl (w.fh _ _ h1)), h3.length.trans hl, h B F0 F H σ ob ρ vs ds ρ' Q w h3 e q⟩
    · cases e
  | _ => cases e
theorem snd_asg {us : List Nat} {tg : TG} {b : Bnd} (h : SndE P m W te f) (hg : SndG P us tg b) : SndS P W (tAsg te tg) (sAsg f b) := fun B F0 F H σ ob ρ D w q => by
  refine snd_mat h B F0 F H σ ob ρ _ w (Post.of_toFl (H := H) (ρ := ρ) q ?_)
  intro a ρ' B' F' H' ob' v w' s i' r q
  cases a with
  | dat d =>
    obtain ⟨rfl, r⟩ := r
    have q : PostS P B' F0 F W D (match b d ρ' with | some ρ1 => .nx ρ1 | none => .stuck) := q
    cases e : b d ρ' with
    | none => rw [e] at q; exact q.elim
    | some ρ1 =>
      rw [e] at q
      exact hg B' F0 F' H' σ ob' ρ' v d ρ1 _ w' r e fun σ' w2 _ => q F' H' σ' ob' w2 s
  | _ => exact q.elim
/-! loops -/
theorem snd_for {ti : TI} {it : Envi → R (List Pv.D)} {us : List Nat} {tg : TG} {b : Bnd} (hi : SndI P m W ti it) (hg : SndG P us tg b) (hb : SndS P W ts g) : SndS P W (tFor ti tg ts) (sFor it b g) := fun B F0 F H σ ob ρ D w q => by
  refine hi B F0 F H σ ob ρ _ w (Post.of_toFl (H := H) (ρ := ρ) q ?_)
  rintro ds ρ' B' F' H' ob' J w' s i' ⟨rfl, hJ, hsz⟩ q
  refine ⟨fun i mm σ2 H2 => ∃ F2 ob2 ρ2, mm = ds.length - i ∧ Wf P B' F0 F2 H2 σ2 ob2 ρ2 ∧ Same F' F2 ∧ PostS P B' F0 F2 W D (runFor b g (ds.drop i) ρ2),
    ⟨ds.length, F', ob', ρ', rfl, w', Same.refl _, q.shift s⟩, ?_⟩
  rintro i mm σ2 H2 ⟨F2, ob2, ρ2, rfl, w2, s2, q2⟩
  obtain ⟨j1, j2⟩ := hJ F2 H2 s2 w2.fh
  by_cases hlt : i < ds.length
  · refine .inr ⟨(j1 i ds[i] (List.getElem?_eq_getElem hlt)).1, fun σ3 H3 => ∃ F3 ob3 ρ3, Wf P B' F0 F3 H3 σ3 ob3 ρ3 ∧ Same F' F3 ∧ PostS P B' F0 F3 W D (runFor b g (ds.drop (i + 1)) ρ3), fun σ3 H3 ⟨F3, ob3, ρ3, w3, s3, q3⟩ => ⟨ds.length - (i + 1), by omega, F3, ob3, ρ3, rfl, w3, s3, q3⟩, fun x H3 y => ?_⟩
    obtain ⟨F3, gr, r3⟩ := (j1 i ds[i] (List.getElem?_eq_getElem hlt)).2 x H3 y
    obtain ⟨w3, s3⟩ := w2.growN gr
    rw [List.drop_eq_getElem_cons hlt] at q2
    unfold runFor at q2
    cases e : b ds[i] ρ2 with
    | none => rw [e] at q2; exact q2.elim
    | some ρ3 =>
      rw [e] at q2
      refine hg B' F0 F3 H3 σ2 ob2 ρ2 x _ ρ3 _ w3 r3 e fun σ3 w4 _ => ?_
      refine hb B' F0 F3 H3 σ3 ob2 ρ3 _ w4 ?_
      have q3 := q2.shift s3
      dsimp only at q3
      cases e2 : g ρ3 with
      | nx ρ4 => rw [e2] at q3; exact fun F5 H5 σ5 ob5 w5 s5 => ⟨F5, ob5, ρ4, w5, (s2.trans s3).trans s5, q3.shift s5⟩
      | ct ρ4 => rw [e2] at q3; exact fun F5 H5 σ5 ob5 w5 s5 => ⟨F5, ob5, ρ4, w5, (s2.trans s3).trans s5, q3.shift s5⟩
      | bk ρ4 => rw [e2] at q3; exact q3
      | ret v ρ4 => rw [e2] at q3; exact q3
      | exc c ρ4 => rw [e2] at q3; exact q3
      | stuck => rw [e2] at q3; exact q3
  · refine .inl ⟨j2 i (by omega), ?_⟩
    rw [List.drop_eq_nil_of_le (by omega)] at q2
    exact q2 F2 H2 σ2 ob2 w2 (Same.refl _)
theorem runW_mono {c : Envi → R Bool} {g : Sem} : ∀ {n k : Nat} {ρ : Envi} {r : Fl}, runW c g n ρ = r → r ≠ .stuck → n ≤ k → runW c g k ρ = r
  | 0, _, _, _, e, h, _ => absurd e.symm h
  | n + 1, 0, _, _, _, _, hk => absurd hk (by omega)
  | n + 1, k + 1, ρ, r, e, h, hk => by
    unfold runW at e ⊢
    cases ec : c ρ with
    | stuck => rw [ec] at e; exact absurd e.symm h
    | exc x ρ' => rw [ec] at e; exact e
    | ok b ρ1 =>
      rw [ec] at e
      simp only [R.toFl] at e ⊢
      cases b with
      | false => exact e
      | true =>
        simp only [if_true] at e ⊢
        cases eg : g ρ1 with
        | nx ρ2 => rw [eg] at e; exact runW_mono e h (by omega)
        | ct ρ2 => rw [eg] at e; exact runW_mono e h (by omega)
        | bk ρ2 => rw [eg] at e; exact e
        | ret v ρ2 => rw [eg] at e; exact e
        | exc x ρ2 => rw [eg] at e; exact e
        | stuck => rw [eg] at e; exact e
theorem sWhile_of {c : Envi → R Bool} {g : Sem} {n : Nat} {ρ : Envi} {r : Fl} (e : runW c g n ρ = r) (h : r ≠ .stuck) : sWhile c g ρ = r := by
  have ex : ∃ n, runW c g n ρ ≠ .stuck := ⟨n, by rw [e]; exact h⟩
  unfold sWhile
  rw [dif_pos ex]
  have h1 := ex.choose_spec
  rcases Nat.le_total n ex.choose with hk | hk
  · exact runW_mono e h hk
  · have := runW_mono (r := runW c g ex.choose ρ) rfl h1 hk
    rw [← this, e]
theorem sWhile_run {c : Envi → R Bool} {g : Sem} {ρ : Envi} (h : sWhile c g ρ ≠ .stuck) : ∃ n, runW c g n ρ = sWhile c g ρ := by
  unfold sWhile at h ⊢
  split
  · exact ⟨_, rfl⟩
  · rename_i hn
    rw [dif_neg hn] at h
    exact absurd rfl h
/-- one turn -/
theorem sWhile_eq {c : Envi → R Bool} {g : Sem} (ρ : Envi) : sWhile c g ρ = (c ρ).toFl fun b ρ1 => if b = true then (match g ρ1 with
      | .nx ρ2 => sWhile c g ρ2
      | .ct ρ2 => sWhile c g ρ2
      | .bk ρ2 => .nx ρ2
      | r => r) else .nx ρ1 := by
  cases ec : c ρ with
  | stuck =>
    by_cases h : sWhile c g ρ = .stuck
    · exact h
    · obtain ⟨n, e⟩ := sWhile_run h
      cases n with
      | zero => exact absurd e.symm h
      | succ n => unfold runW at e; rw [ec] at e; exact e.symm
  | exc x ρ' => exact sWhile_of (n := 1) (by unfold runW; rw [ec]; rfl) (fun z => nomatch z)
  | ok b ρ1 =>
    cases b with
    | false => exact sWhile_of (n := 1) (by unfold runW; rw [ec]; rfl) (fun z => nomatch z)
    | true =>
      simp only [R.toFl, if_true]
      cases eg : g ρ1 with
      | bk ρ2 => exact sWhile_of (n := 1) (by unfold runW; rw [ec]; simp only [R.toFl, if_true, eg]) (fun z => nomatch z)
      | ret v ρ2 => exact sWhile_of (n := 1) (by unfold runW; rw [ec]; simp only [R.toFl, if_true, eg]) (fun z => nomatch z)
      | exc v ρ2 => exact sWhile_of (n := 1) (by unfold runW; rw [ec]; simp only [R.toFl, if_true, eg]) (fun z => nomatch z)
      | stuck =>
        by_cases h : sWhile c g ρ = .stuck
        · exact h
        · obtain ⟨n, e⟩ := sWhile_run h
          cases n with
          | zero => exact absurd e.symm h
          | succ n => unfold runW at e; rw [ec] at e; simp only [R.toFl, if_true, eg] at e; exact e.symm
      | nx ρ2 =>
        dsimp only
        by_cases h : sWhile c g ρ2 = .stuck
        · by_cases h' : sWhile c g ρ = .stuck
          · rw [h, h']
          · obtain ⟨n, e⟩ := sWhile_run h'
            cases n with
            | zero => exact absurd e.symm h'
            | succ n =>
              unfold runW at e; rw [ec] at e; simp only [R.toFl, if_true, eg] at e
              rw [← sWhile_of e h'] 
        · obtain ⟨n, e⟩ := sWhile_run h
          exact sWhile_of (n := n + 1) (by unfold runW; rw [ec]; simp only [R.toFl, if_true, eg]; exact e) h
      | ct ρ2 =>
        dsimp only
        by_cases h : sWhile c g ρ2 = .stuck
        · by_cases h' : sWhile c g ρ = .stuck
          · rw [h, h']
          · obtain ⟨n, e⟩ := sWhile_run h'
            cases n with
            | zero => exact absurd e.symm h'
            | succ n =>
              unfold runW at e; rw [ec] at e; simp only [R.toFl, if_true, eg] at e
              rw [← sWhile_of e h'] 
        · obtain ⟨n, e⟩ := sWhile_run h
          exact sWhile_of (n := n + 1) (by unfold runW; rw [ec]; simp only [R.toFl, if_true, eg]; exact e) h
theorem snd_while {tt : TT} {c : Envi → R Bool} (hc : SndT P true W tt c) (hb : SndS P W ts g) : SndS P W (tWhile tt ts) (sWhile c g) := fun B F0 F H σ ob ρ D w q => by
  have hn : sWhile c g ρ ≠ .stuck := fun z => by rw [z] at q; exact q
  obtain ⟨n, e⟩ := sWhile_run hn
  rw [← e] at q
  refine ⟨fun k σ2 H2 => ∃ F2 ob2 ρ2, Wf P B F0 F2 H2 σ2 ob2 ρ2 ∧ Same F F2 ∧ PostS P B F0 F2 W D (runW c g k ρ2), ⟨n, F, ob, ρ, w, Same.refl _, q⟩, ?_⟩
  rintro k σ2 H2 ⟨F2, ob2, ρ2, w2, s2, q2⟩
  cases k with
  | zero => exact q2.elim
  | succ k =>
    unfold runW at q2
    refine hc B F0 F2 H2 σ2 ob2 ρ2 _ w2 (Post.of_toFl (H := H) (ρ := ρ) q2 ?_)
    rintro b ρ3 B' F3 H3 ob3 v w3 s3 i3 ⟨rfl, rfl⟩ q3
    cases v with
    | false => exact q3 F3 H3 σ2 ob3 w3 s3
    | true =>
      simp only [if_true] at q3 ⊢
      refine ⟨fun σ4 H4 => ∃ F4 ob4 ρ4, Wf P B' F0 F4 H4 σ4 ob4 ρ4 ∧ Same F F4 ∧ PostS P B' F0 F4 W D (runW c g k ρ4), fun σ4 H4 z => ⟨k, Nat.lt_succ_self k, z⟩, ?_⟩
      refine hb _ F0 F3 H3 σ2 ob3 ρ3 _ w3 ?_
      have q4 := q3.shift s3
      cases e2 : g ρ3 with
      | nx ρ4 => rw [e2] at q4; exact fun F5 H5 σ5 ob5 w5 s5 => ⟨F5, ob5, ρ4, w5, (s2.trans s3).trans s5, q4.shift s5⟩
      | ct ρ4 => rw [e2] at q4; exact fun F5 H5 σ5 ob5 w5 s5 => ⟨F5, ob5, ρ4, w5, (s2.trans s3).trans s5, q4.shift s5⟩
      | bk ρ4 => rw [e2] at q4; exact q4
      | ret v ρ4 => rw [e2] at q4; exact q4
      | exc c ρ4 => rw [e2] at q4; exact q4
      | stuck => rw [e2] at q4; exact q4
theorem snd_break : SndS P W tBreak sBreak := fun B F0 F H σ ob ρ D w q => q F H σ ob w (Same.refl _)
theorem snd_cont : SndS P W tCont sCont := fun B F0 F H σ ob ρ D w q => q F H σ ob w (Same.refl _)
theorem snd_raise {c : Exc} : SndS P W (fun D σ H => (fun (H : Hp) (Q : XK) => Q (P.ec c) none H) H fun cls d H' => W cls d σ H') (sRaise c) := fun B F0 F H σ ob ρ D w q => q F H σ ob w (Same.refl _)
end
end Pv

set_option Elab.async false
set_option linter.all false
set_option maxRecDepth 100000
namespace Pv
open PySem PySem.Spec PyProof.Rows L2
/-! a def's body against its pure function -/
def initE (n : Nat) (ds : List D) : Envi := ds.map Slot.fz ++ List.replicate (n - ds.length) .un
def toRf : Fl → Rf
  | .nx _ => .fz .non
  | .ret (.fz d) _ => .fz d
  | .ret (.ow o) _ => .ow o
  | .exc c _ => .exc c
  | _ => .stuck
theorem Wf.init {K : PySem.W.Frag} {ec : Exc → Value} {N : List Str} {F H : Hp} {vs : List V} {ds : List D} (hn : vs.length ≤ N.length) (s : Same F H) (r : Reps K F vs ds) :
    Wf ⟨K, ec, N.length, [], 0, 0⟩ H F F H (L2.start N vs) none (initE N.length ds) := by
  have hl := r.length
  have l1 : (L2.start N vs).length = N.length := by
    unfold L2.start
    rw [List.length_append, List.length_map, List.length_replicate]; omega
  refine ⟨s, Same.refl _, Same.refl _, fun b o e => .inl e, l1, ?_, ⟨fun _ => 0, fun i t h => ?_, fun i t h ht => ?_, fun i j t u h h' ht hu => ?_⟩, fun p fv e => nomatch e⟩
  · show (initE N.length ds).length = (L2.start N vs).length
    unfold initE
    rw [l1, List.length_append, List.length_map, List.length_replicate]; omega
  · unfold initE at h
    show SlotR K F H none 0 ((L2.start N vs)[i]?).join t
    by_cases hi : i < ds.length
    · rw [List.getElem?_append_left (by simpa using hi), List.getElem?_map] at h
      cases e : ds[i]? with
      | none => rw [e] at h; cases h
      | some d =>
        rw [e] at h
        cases h
        obtain ⟨v, h1, h2⟩ := r.get e
        refine ⟨v, ?_, h2⟩
        unfold L2.start
        rw [List.getElem?_append_left (by simp; omega), List.getElem?_map, h1]
        rfl
    · rw [List.getElem?_append_right (by simpa using Nat.le_of_not_lt hi), List.getElem?_replicate] at h
      split at h
      · cases h; exact True.intro
      · cases h
  all_goals
    unfold initE at h
    exfalso
    by_cases hi : i < ds.length
    · rw [List.getElem?_append_left (by simpa using hi), List.getElem?_map] at h
      cases e : ds[i]? with
      | none => rw [e] at h; cases h
      | some d => rw [e] at h; cases h; cases ht
    · rw [List.getElem?_append_right (by simpa using Nat.le_of_not_lt hi), List.getElem?_replicate] at h
      split at h
      · cases h; cases ht
      · cases h
/-- the reading of a def's body does what the promise wants -/
theorem fin_of {K : PySem.W.Frag} {ec : Exc → Value} {N : List Str} {n : Nat} {ts : TS} {g : Sem} {fs : List D → Rf} {vs : List V} {H : Hp} {Q : VK} {E : XK} (hs : SndS ⟨K, ec, N.length, [], 0, 0⟩ (fun cls d _ H => E cls d H) ts g) (hn : n ≤ N.length)
    (pure : ∀ ds, ds.length = n → fs ds ≠ .stuck → toRf (g (initE N.length ds)) = fs ds) (h : spF K ec n fs vs H Q E) : ts { nx := fun _ H' => Q .non H', rt := Q } (L2.start N vs) H := by
  obtain ⟨hl, F, ds, s, r, q⟩ := h
  have hd : fs ds ≠ .stuck := fun z => by rw [z] at q; exact q
  have e := pure ds (by rw [← r.length]; exact hl) hd
  refine hs H F F H _ none _ _ (Wf.init (by rw [hl]; exact hn) s r) ?_
  have out : ∀ {B' F' H' σ' ob' ρ'}, Wf (⟨K, ec, N.length, [], 0, 0⟩ : Pr) B' F F' H' σ' ob' ρ' → Same H B' → (∀ b o, F' b = some o → F b = some o ∨ H b = none ∨ ∃ vs, o = .tup vs) := fun {B' F' H' σ' ob' ρ'} w hb b o z => by
    rcases w.nw b o z with x | x
    · exact .inl x
    · exact .inr (x.imp_left hb.free)
  cases eg : g (initE N.length ds) with
  | nx ρ' =>
    rw [eg] at e
    rw [← e] at q
    exact fun F' H' σ' ob' w s' => q F' H' .non s' w.fh w.bh (out w (Same.refl _)) .non
  | ret v ρ' =>
    rw [eg] at e
    cases v with
    | fz d =>
      rw [← e] at q
      rintro B' F' H' σ' ob' u w s' ⟨rfl, r'⟩
      exact q F' H' u s' w.fh w.bh (out w (Same.refl _)) r'
    | ow o =>
      rw [← e] at q
      rintro B' F' H' σ' ob' u w s' ⟨a, ho, rfl, rfl, e3, e4, e5⟩
      exact q F' H' a ho s' w.fh ((same_new e3).trans w.bh) (out w (same_new e3)) w.getH e4 e3 e5
  | exc c ρ' =>
    rw [eg] at e
    rw [← e] at q
    exact fun F' H' σ' ob' w s' => q H' w.bh
  | bk ρ' => rw [eg] at e; exact absurd e.symm hd
  | ct ρ' => rw [eg] at e; exact absurd e.symm hd
  | stuck => rw [eg] at e; exact absurd e.symm hd

/-! iterators -/
def itemsOf : D → Option (List D)
  | .tup ds => some ds
  | .ktup ds => some ds
  | .lst ds => some ds
  | .klst ds => some ds
  | _ => none
def lstOf : D → Option (List D)
  | .lst ds => some ds
  | .klst ds => some ds
  | _ => none
def tupOf : D → Option (List D)
  | .tup ds => some ds
  | .ktup ds => some ds
  | _ => none
def opt2 {α : Type} (ρ : Envi) : Option α → R α
  | some d => .ok d ρ
  | none => .stuck
def itBy (op : D → Option (List D)) (f : Envi → R Hd) : Envi → R (List D) := fun ρ => (eMat f ρ).bind fun h ρ1 => match h with
  | .dat d => opt2 ρ1 (op d)
  | _ => .stuck
def rangeD (lo : Int) (n : Nat) : List D := (List.range n).map fun (i : Nat) => D.int (lo + i)
def itRng1 (g : Envi → R (List Hd)) : Envi → R (List D) := fun ρ => (g ρ).bind fun hs ρ1 => match derefAll ρ1 hs with
  | some [.int j] => if -16777216 < j ∧ j < 16777216 then .ok (rangeD 0 j.toNat) ρ1 else .stuck
  | _ => .stuck
def itRng2 (g : Envi → R (List Hd)) : Envi → R (List D) := fun ρ => (g ρ).bind fun hs ρ1 => match derefAll ρ1 hs with
  | some [.int i, .int j] => if -16777216 < i ∧ i < 16777216 ∧ j < 16777216 ∧ -16777216 < j ∧ j - i ≤ 16777216 then .ok (rangeD i (j - i).toNat) ρ1 else .stuck
  | _ => .stuck
section
variable {P : Pr} {m : Bool} {W : WX} {te ta tb : TE} {f : Envi → R Hd} {B F0 F H : Hp} {tr : TA} {n : Nat} {fa : Envi → R (List Hd)}
theorem itOk_list {K : PySem.W.Frag} {a : Addr} {vs : List V} {ds : List D} (h : SqL K F a vs) (r : Reps K F vs ds) (inj : ∀ F2 H2, Same F F2 → Same F2 H2 → ∀ xs, SqL K H2 a xs → True) : ItOk K (Itl K a) F ds := fun F2 H2 s1 s2 => by
  have h2 := same_sql s2 (same_sql s1 h)
  refine ⟨fun i d e => ?_, fun i hi => ⟨vs, h2, by rw [r.length]; exact hi⟩⟩
  obtain ⟨v, e1, e2⟩ := r.get e
  refine ⟨⟨vs, v, h2, e1⟩, fun x H3 y => ?_⟩
  obtain ⟨rfl, y⟩ := y
  have := y vs h2
  rw [e1] at this
  cases this
  exact ⟨F2, .refl _ _, Rep.mono s1 e2⟩
theorem itOk_tup {K : PySem.W.Frag} {a : Addr} {vs : List V} {ds : List D} (h : SqT K F a vs) (r : Reps K F vs ds) : ItOk K (Itt K a) F ds := fun F2 H2 s1 s2 => by
  have h2 := same_sqt s2 (same_sqt s1 h)
  refine ⟨fun i d e => ?_, fun i hi => ⟨vs, h2, by rw [r.length]; exact hi⟩⟩
  obtain ⟨v, e1, e2⟩ := r.get e
  refine ⟨⟨vs, v, h2, e1⟩, fun x H3 y => ?_⟩
  obtain ⟨rfl, y⟩ := y
  have := y vs h2
  rw [e1] at this
  cases this
  exact ⟨F2, .refl _ _, Rep.mono s1 e2⟩
theorem rep_lstOf {K : PySem.W.Frag} {v : V} {d : D} {ds : List D} (r : Rep K F v d) (e : lstOf d = some ds) : ∃ a vs, v = .ref a ∧ SqL K F a vs ∧ vs.length ≤ sizeLine ∧ Reps K F vs ds := by
  cases r with
  | @lst a vs ds' h1 h2 h3 => cases e; exact ⟨a, vs, rfl, .inl (.inl h1), h2, h3⟩
  | @klst a vs ds' h1 h2 h3 => cases e; exact ⟨a, vs, rfl, h1, h2, h3⟩
  | _ => cases e
theorem rep_tupOf {K : PySem.W.Frag} {v : V} {d : D} {ds : List D} (r : Rep K F v d) (e : tupOf d = some ds) : ∃ a vs, v = .ref a ∧ SqT K F a vs ∧ vs.length ≤ sizeLine ∧ Reps K F vs ds := by
  cases r with
  | @tup a vs ds' h1 h2 h3 => cases e; exact ⟨a, vs, rfl, .inl (.inl h1), h2, h3⟩
  | @ktup a vs ds' h1 h2 h3 => cases e; exact ⟨a, vs, rfl, h1.sqt, h2, h3⟩
  | _ => cases e
theorem si_list (h : SndE P m W te f) : SndI P m W (iList P.K te) (itBy lstOf f) := fun B F0 F H σ ob ρ Q w q => by
  refine snd_mat h B F0 F H σ ob ρ _ w (Post.of_bind q ?_)
  intro a ρ' B' F' H' ob' v w' s i r q
  cases a with
  | dat d =>
    obtain ⟨rfl, r⟩ := r
    cases e : lstOf d with
    | none => simp only [e, opt2] at q; exact q.elim
    | some ds =>
      simp only [e, opt2] at q
      obtain ⟨a, vs, rfl, h1, h2, h3⟩ := rep_lstOf r e
      refine ⟨a, rfl, ⟨vs, same_sql w'.fh h1⟩, q _ F' H' ob' _ w' s i ⟨rfl, itOk_list h1 h3 (fun _ _ _ _ _ _ => trivial), by rw [← h3.length]; exact h2⟩⟩
  | _ => exact q.elim
theorem si_tup (h : SndE P m W te f) : SndI P m W (iTup P.K te) (itBy tupOf f) := fun B F0 F H σ ob ρ Q w q => by
  refine snd_mat h B F0 F H σ ob ρ _ w (Post.of_bind q ?_)
  intro a ρ' B' F' H' ob' v w' s i r q
  cases a with
  | dat d =>
    obtain ⟨rfl, r⟩ := r
    cases e : tupOf d with
    | none => simp only [e, opt2] at q; exact q.elim
    | some ds =>
      simp only [e, opt2] at q
      obtain ⟨a, vs, rfl, h1, h2, h3⟩ := rep_tupOf r e
      refine ⟨a, rfl, ⟨vs, same_sqt w'.fh h1⟩, q _ F' H' ob' _ w' s i ⟨rfl, itOk_tup h1 h3, by rw [← h3.length]; exact h2⟩⟩
  | _ => exact q.elim
theorem rangeD_get (lo : Int) (n i : Nat) : (rangeD lo n)[i]? = if i < n then some (.int (lo + i)) else none := by
  unfold rangeD
  rw [List.getElem?_map]
  by_cases h : i < n
  · rw [if_pos h, List.getElem?_range h]
    rfl
  · rw [if_neg h, List.getElem?_eq_none (by simpa using Nat.le_of_not_lt h)]
    rfl
theorem rangeD_length (lo : Int) (n : Nat) : (rangeD lo n).length = n := by unfold rangeD; simp
theorem itOk_rng {K : PySem.W.Frag} (lo : Int) (n : Nat) : ItOk K (Itr lo n) F (rangeD lo n) := fun F2 H2 s1 s2 => by
  refine ⟨fun i d e => ?_, fun i hi => by rw [rangeD_length] at hi; exact hi⟩
  rw [rangeD_get] at e
  split at e
  · rename_i h
    cases e
    refine ⟨h, fun x H3 y => ?_⟩
    obtain ⟨rfl, rfl⟩ := y
    exact ⟨F2, .refl _ _, .int _⟩
  · cases e
theorem BRep.int {K : PySem.W.Frag} {v : V} {b : Int} (h : BRep K F H v (.int b)) : v = .int b := by
  rcases h with h | ⟨a, ho, o, _, _, _, e⟩
  · cases h; rfl
  · cases o <;> cases e
theorem breps_one {K : PySem.W.Frag} {vs : List V} {d : D} (h : BReps K F H vs [d]) : ∃ v, vs = [v] ∧ BRep K F H v d := by
  cases h with
  | cons a b => cases b; exact ⟨_, rfl, a⟩
theorem breps_two {K : PySem.W.Frag} {vs : List V} {d e : D} (h : BReps K F H vs [d, e]) : ∃ v u, vs = [v, u] ∧ BRep K F H v d ∧ BRep K F H u e := by
  cases h with
  | cons a b =>
    cases b with
    | cons c z => cases z; exact ⟨_, _, rfl, a, c⟩
theorem si_rng1 (h : SndA P m W n tr fa) : SndI P m W (iRng1 tr) (itRng1 fa) := fun B F0 F H σ ob ρ Q w q => by
  refine h B F0 F H σ ob ρ _ w (Post.of_bind q ?_)
  rintro hs ρ2 B' F2 H2 ob2 ys w2 s2 i2 ⟨⟨rfl, r2⟩, hl⟩ q
  cases e : derefAll ρ2 hs with
  | none => simp only [e] at q; exact q.elim
  | some ds =>
    simp only [e] at q
    have br := w2.derefAll r2 e
    split at q
    · rename_i j e1
      cases e1
      split at q
      · rename_i hj
        obtain ⟨v, rfl, b1⟩ := breps_one br
        cases b1.int
        exact ⟨j, rfl, by omega, by omega, q _ F2 H2 ob2 _ w2 s2 i2 ⟨rfl, itOk_rng 0 _, by rw [rangeD_length, sizeLine_eq]; omega⟩⟩
      · exact q.elim
    · exact q.elim
theorem si_rng2 (h : SndA P m W n tr fa) : SndI P m W (iRng2 tr) (itRng2 fa) := fun B F0 F H σ ob ρ Q w q => by
  refine h B F0 F H σ ob ρ _ w (Post.of_bind q ?_)
  rintro hs ρ2 B' F2 H2 ob2 ys w2 s2 i2 ⟨⟨rfl, r2⟩, hl⟩ q
  cases e : derefAll ρ2 hs with
  | none => simp only [e] at q; exact q.elim
  | some ds =>
    simp only [e] at q
    have br := w2.derefAll r2 e
    split at q
    · rename_i i j e1
      cases e1
      split at q
      · rename_i hj
        obtain ⟨v, u, rfl, b1, b2⟩ := breps_two br
        cases b1.int
        cases b2.int
        exact ⟨i, j, rfl, by omega, q _ F2 H2 ob2 _ w2 s2 i2 ⟨rfl, itOk_rng i _, by rw [rangeD_length, sizeLine_eq]; omega⟩⟩
      · exact q.elim
    · exact q.elim
end
end Pv

set_option Elab.async false
set_option linter.all false
set_option maxRecDepth 100000
namespace Pv
open PySem PySem.Spec PyProof.Rows L2
/-! comprehensions -/
def wipeE (ρ : Envi) : List Nat → Envi
  | [] => ρ
  | v :: vs => (wipeE ρ vs).set v .un
def runComp (b : Bnd) (c : Envi → R Bool) (e : Envi → R Hd) (vs : List Nat) : List D → Envi → Option (List D × Envi)
  | [], ρ => some ([], ρ)
  | d :: ds, ρ => match b d ρ with
    | none => none
    | some ρ1 => match c ρ1 with
      | .ok true ρ2 => match eMat e ρ2 with
        | .ok (.dat d') ρ3 => match runComp b c e vs ds (wipeE ρ3 vs) with
          | some (r, ρ4) => some (d' :: r, ρ4)
          | none => none
        | _ => none
      | .ok false ρ2 => runComp b c e vs ds (wipeE ρ2 vs)
      | _ => none
def opt3 : Option (List D × Envi) → R Hd
  | some (r, ρ) => .ok (.tm (.li r)) ρ
  | none => .stuck
def eComp (it : Envi → R (List D)) (b : Bnd) (c : Envi → R Bool) (e : Envi → R Hd) (vs : List Nat) : Envi → R Hd := fun ρ => (it ρ).bind fun ds ρ1 => opt3 (runComp b c e vs ds (wipeE ρ1 vs))
def tTrue : Envi → R Bool := fun ρ => .ok true ρ
section
variable {P : Pr} {m : Bool} {W : WX} {te ta tb : TE} {f : Envi → R Hd} {B F0 F H : Hp} {σ : L2.St} {ob : Ob} {ρ : Envi}
theorem Wf.forget (w : Wf P B F0 F H σ ob ρ) (i : Nat) : Wf P B F0 F H σ ob (ρ.set i .un) := by
  obtain ⟨fh, bh, ff, nw, n, len, ⟨al, s1, s2, s3⟩, hob⟩ := w
  have back : ∀ (j : Nat) (t : Slot), (ρ.set i .un)[j]? = some t → t = .un ∨ ρ[j]? = some t := fun j t h => by
    by_cases hj : i = j
    · subst hj
      by_cases hl : i < ρ.length
      · rw [List.getElem?_set_self hl] at h; cases h; exact .inl rfl
      · rw [List.getElem?_eq_none (by simpa using Nat.le_of_not_lt hl)] at h; cases h
    · rw [List.getElem?_set_ne hj] at h; exact .inr h
  refine ⟨fh, bh, ff, nw, n, by rw [List.length_set]; exact len, ⟨al, fun j t h => ?_, fun j t h ht => ?_, fun j k t u h h' ht hu => ?_⟩, hob⟩
  · rcases back j t h with e | e
    · subst e; exact True.intro
    · exact s1 j t e
  · rcases back j t h with e | e
    · subst e; cases ht
    · exact s2 j t e ht
  · rcases back j t h with e | e
    · subst e; cases ht
    · rcases back k u h' with e' | e'
      · subst e'; cases hu
      · exact s3 j k t u e e' ht hu
theorem Wf.wipeE (w : Wf P B F0 F H σ ob ρ) : ∀ vs : List Nat, Wf P B F0 F H σ ob (wipeE ρ vs)
  | [] => w
  | v :: vs => (w.wipeE vs).forget v
/-- other values at slots of which nothing is known -/
theorem Wf.reslot {σ' : L2.St} (w : Wf P B F0 F H σ ob ρ) (hl : σ'.length = σ.length) (h : ∀ (i : Nat) (s : Slot), ρ[i]? = some s → s ≠ .un → σ'[i]? = σ[i]?) : Wf P B F0 F H σ' ob ρ := by
  obtain ⟨fh, bh, ff, nw, n, len, ⟨al, s1, s2, s3⟩, hob⟩ := w
  refine ⟨fh, bh, ff, nw, hl.trans n, ?_, ⟨al, fun j t e => ?_, s2, s3⟩, hob⟩
  · rw [len]
    cases ob with
    | none => exact hl.symm
    | some x =>
      obtain ⟨p, fv⟩ := x
      show (σ ++ fv).length = (σ' ++ fv).length
      rw [List.length_append, List.length_append, hl]
  · have x := s1 j t e
    by_cases ht : t = .un
    · subst ht; exact True.intro
    · have e2 := h j _ e ht
      have q : (tau σ' ob)[j]? = (tau σ ob)[j]? := by
        cases ob with
        | none => exact e2
        | some pf =>
          obtain ⟨p, fv⟩ := pf
          show (σ' ++ fv)[j]? = (σ ++ fv)[j]?
          by_cases hj : j < σ.length
          · rw [List.getElem?_append_left hj, List.getElem?_append_left (by omega)]; exact e2
          · rw [List.getElem?_append_right (by omega), List.getElem?_append_right (by omega), hl]
      rw [q]; exact x
theorem wipeE_un : ∀ {vs : List Nat} {i : Nat} {s : Slot}, (Pv.wipeE ρ vs)[i]? = some s → s ≠ .un → i ∉ vs
  | [], _, _, _, _ => by simp
  | v :: vs, i, s, h, hs => by
    unfold Pv.wipeE at h
    by_cases hv : v = i
    · subst hv
      by_cases hl : v < (Pv.wipeE ρ vs).length
      · rw [List.getElem?_set_self hl] at h; cases h; exact absurd rfl hs
      · rw [List.getElem?_eq_none (by simpa using Nat.le_of_not_lt hl)] at h; cases h
    · rw [List.getElem?_set_ne hv] at h
      have := wipeE_un h hs
      simp only [List.mem_cons, not_or]
      exact ⟨fun e => hv e.symm, this⟩
theorem wipe_outS : ∀ {σ : L2.St} {vs : List Nat} {i : Nat}, i ∉ vs → (wipe σ vs)[i]? = σ[i]? := fun {σ vs i} h => by
  induction vs with
  | nil => rfl
  | cons v vs ih =>
    unfold wipe
    rw [List.getElem?_set_ne (fun e => h (by rw [e]; exact List.mem_cons_self))]
    exact ih fun z => h (List.mem_cons_of_mem _ z)
theorem wipe_in {σ : L2.St} : ∀ {vs : List Nat} {i : Nat}, i ∈ vs → i < σ.length → (wipe σ vs)[i]? = some none := fun {vs i} h hl => by
  induction vs with
  | nil => exact nomatch h
  | cons v vs ih =>
    unfold wipe
    by_cases hv : v = i
    · subst hv
      rw [List.getElem?_set_self (by rw [wipe_length]; exact hl)]
    · rw [List.getElem?_set_ne hv]
      rcases List.mem_cons.mp h with z | z
      · exact absurd z.symm hv
      · exact ih z
theorem wipe_idem (σ : L2.St) (vs : List Nat) : wipe (wipe σ vs) vs = wipe σ vs := by
  refine List.ext_getElem? fun i => ?_
  by_cases h : i ∈ vs
  · by_cases hl : i < σ.length
    · rw [wipe_in h (by rw [wipe_length]; exact hl), wipe_in h hl]
    · rw [List.getElem?_eq_none (by rw [wipe_length, wipe_length]; omega), List.getElem?_eq_none (by rw [wipe_length]; omega)]
  · exact wipe_outS h
abbrev W0 : WX := fun _ _ _ _ => False
theorem snd_pts0 : SndT P m W tYes tTrue := fun B F0 F H σ ob ρ Q w q => q B F H ob true w (Same.refl _) (fun _ => rfl) ⟨rfl, rfl⟩
theorem snd_comp {us vs : List Nat} {ti : TI} {it : Envi → R (List Pv.D)} {tg : TG} {b : Bnd} {tt : TT} {c : Envi → R Bool} {e : Envi → R Hd} (hi : SndI P m W ti it) (hg : SndG P us tg b) (hc : SndT P m W0 tt c) (he : SndE P m W0 te e) (hu : ∀ u ∈ us, u ∈ vs := by decide) :
    SndE P m W (tLc ti tg tt te vs) (eComp it b c e vs) := fun B F0 F H σ ob ρ Q w q => by
  refine hi B F0 F H σ ob ρ _ w (Post.of_bind q ?_)
  rintro ds ρ' B' F' H' ob' J w' s i' ⟨rfl, hJ, hsz⟩ q D hD
  have fD : F' D = none := w'.fh.free hD
  have bD : B' D = none := w'.bh.free hD
  have f0D : F0 D = none := w'.ff.free fD
  refine ⟨fun i mm H2 => ∃ F2 ob2 ρ2 av acc, mm = ds.length - i ∧ i ≤ ds.length ∧ Wf P (upd B' D (.lst av)) F0 F2 H2 σ ob2 (Pv.wipeE ρ2 vs) ∧ Same F' F2 ∧ F2 D = none ∧ (m = false → ob2 = ob') ∧ Reps P.K F2 av acc ∧ acc.length ≤ i ∧
      Post P B' F0 F σ ob m W (RelE P B' σ) Q (opt3 ((runComp b c e vs (ds.drop i) (Pv.wipeE ρ2 vs)).map fun x => (acc ++ x.1, x.2))),
    ⟨ds.length, F', ob', ρ', [], [], rfl, Nat.zero_le _, (w'.wipeE vs).tmp hD, Same.refl _, fD, fun _ => rfl, .nil, Nat.le_refl _, ?_⟩, ?_⟩
  · have q : Post P B' F0 F σ ob m W (RelE P B' σ) Q (opt3 (runComp b c e vs ds (Pv.wipeE ρ' vs))) := q
    rw [List.drop_zero]
    cases e1 : runComp b c e vs ds (Pv.wipeE ρ' vs) with
    | none => rw [e1] at q; exact q
    | some x => rw [e1] at q; exact q
  rintro i mm H2 ⟨F2, ob2, ρ2, av, acc, rfl, hle, w2, s2, f2D, i2, r2, hacc, q2⟩
  obtain ⟨j1, j2⟩ := hJ F2 H2 s2 w2.fh
  by_cases hlt : i < ds.length
  · refine .inr ⟨(j1 i ds[i] (List.getElem?_eq_getElem hlt)).1, fun H3 => ∃ F3 ob3 ρ3 av acc, Wf P (upd B' D (.lst av)) F0 F3 H3 σ ob3 (Pv.wipeE ρ3 vs) ∧ Same F' F3 ∧ F3 D = none ∧ (m = false → ob3 = ob') ∧ Reps P.K F3 av acc ∧ acc.length ≤ i + 1 ∧
      Post P B' F0 F σ ob m W (RelE P B' σ) Q (opt3 ((runComp b c e vs (ds.drop (i + 1)) (Pv.wipeE ρ3 vs)).map fun x => (acc ++ x.1, x.2))),
      fun H3 ⟨F3, ob3, ρ3, av, acc, w3, s3, f3, i3, r3, h3, q3⟩ => ⟨ds.length - (i + 1), by omega, F3, ob3, ρ3, av, acc, rfl, hlt, w3, s3, f3, i3, r3, h3, q3⟩, fun x H3 y => ?_⟩
    obtain ⟨F3, gr, r3⟩ := (j1 i ds[i] (List.getElem?_eq_getElem hlt)).2 x H3 y
    obtain ⟨w3, s3⟩ := w2.growN gr
    rw [List.drop_eq_getElem_cons hlt] at q2
    unfold runComp at q2
    have w3' : Wf P (upd B' D (.lst av)) F0 F3 H3 (wipe σ vs) ob2 (Pv.wipeE ρ2 vs) := w3.reslot (wipe_length σ vs) fun i s h hs => wipe_outS (wipeE_un h hs)
    cases e1 : b ds[i] (Pv.wipeE ρ2 vs) with
    | none => rw [e1] at q2; exact q2.elim
    | some ρ3 =>
      rw [e1] at q2
      dsimp only at q2
      refine hg _ F0 F3 H3 (wipe σ vs) ob2 _ x _ ρ3 _ w3' r3 e1 fun σ3 w4 hw4 => ⟨(hw4 vs hu).trans ?_, ?_⟩
      · exact wipe_idem σ vs
      -- behind a turn: back at σ
      have back : ∀ {Bx Fx Hx : Hp} {obx : Ob} {ρx : Envi}, Wf P Bx F0 Fx Hx σ3 obx ρx → Wf P Bx F0 Fx Hx σ obx (Pv.wipeE ρx vs) := fun {Bx Fx Hx obx ρx} wx => by
        refine (wx.wipeE vs).reslot ?_ fun i s h hs => ?_
        · have := w4.n
          rw [this, w.n]
        · have hn := wipeE_un h hs
          have := congrArg (fun l => l[i]?) (hw4 vs hu)
          rw [wipe_outS hn] at this
          rw [this]
          have h2 : (wipe (wipe σ vs) vs)[i]? = (wipe σ vs)[i]? := wipe_outS hn
          rw [h2, wipe_outS hn]
      refine hc _ F0 F3 H3 σ3 ob2 ρ3 _ w4 ?_
      cases e2 : c ρ3 with
      | stuck => rw [e2] at q2; exact q2.elim
      | exc x ρ4 => rw [e2] at q2; exact q2.elim
      | ok bb ρ4 =>
        rw [e2] at q2
        rintro _ F4 H4 ob4 v w5 s4 i4 ⟨rfl, rfl⟩
        have f4D : F4 D = none := by
          cases z : F4 D with
          | none => rfl
          | some o =>
            rcases w5.nw D o z with h | h | ⟨us, rfl⟩
            · rw [f0D] at h; cases h
            · rw [upd_same] at h; cases h
            · have h := w5.fh _ _ z
              rw [w5.getH] at h; cases h
        cases v with
        | false =>
          dsimp only at q2
          rw [if_neg Bool.false_ne_true]
          exact ⟨F4, ob4, ρ4, av, acc, back w5, (s2.trans s3).trans s4, f4D, fun z => (i4 z).trans (i2 z), r2.mono (s3.trans s4), by omega, q2⟩
        | true =>
          dsimp only at q2
          rw [if_pos rfl]
          refine snd_mat he _ F0 F4 H4 σ3 ob4 ρ4 _ w5 ?_
          cases e3 : eMat e ρ4 with
          | stuck => rw [e3] at q2; exact q2.elim
          | exc x ρ5 => rw [e3] at q2; exact q2.elim
          | ok hd ρ5 =>
            rw [e3] at q2
            cases hd with
            | dat d' =>
              rintro _ F5 H5 ob5 y w6 s5 i5 ⟨rfl, r5⟩
              have f5D : F5 D = none := by
                cases z : F5 D with
                | none => rfl
                | some o =>
                  rcases w6.nw D o z with h | h | ⟨us, rfl⟩
                  · rw [f0D] at h; cases h
                  · rw [upd_same] at h; cases h
                  · have h := w6.fh _ _ z
                    rw [w6.getH] at h; cases h
              have hl : av.length = acc.length := r2.length
              refine ⟨av, w6.getH, by omega, F5, ob5, ρ5, av ++ [y], acc ++ [d'], back (w6.tmpUpd f5D), ((s2.trans s3).trans s4).trans s5, f5D, fun z => ((i5 z).trans (i4 z)).trans (i2 z), (r2.mono ((s3.trans s4).trans s5)).append (.cons r5 .nil), by rw [List.length_append]; show acc.length + 1 ≤ i + 1; omega, ?_⟩
              dsimp only at q2
              cases e4 : runComp b c e vs (ds.drop (i + 1)) (Pv.wipeE ρ5 vs) with
              | none => rw [e4] at q2; exact q2
              | some x =>
                rw [e4] at q2
                have q2 : Post P B' F0 F σ ob m W (RelE P B' σ) Q (opt3 (some (acc ++ (d' :: x.1), x.2))) := q2
                rw [show acc ++ (d' :: x.1) = (acc ++ [d']) ++ x.1 by simp] at q2
                exact q2
            | _ => exact q2.elim
  · refine .inl ⟨j2 i (by omega), ?_⟩
    rw [List.drop_eq_nil_of_le (by omega)] at q2
    have q2 : Post P B' F0 F σ ob m W (RelE P B' σ) Q (.ok (.tm (.li (acc ++ []))) (Pv.wipeE ρ2 vs)) := q2
    rw [List.append_nil] at q2
    exact q2 (upd B' D (.lst av)) F2 H2 ob2 _ w2 (s.trans s2) (fun z => (i2 z).trans (i' z)) ⟨D, _, rfl, rfl, bD, f2D, av, rfl, by rw [r2.length]; omega, r2⟩
end
end Pv

set_option Elab.async false
set_option linter.all false
set_option maxRecDepth 100000
namespace Pv
open PySem PySem.Spec PyProof.Rows L2
/-! rules of our own over the machine: tuples of which the whole object is known -/
theorem frz_ok {P : Program} {w : World} {H : Hp} {h : Heap} {a : Addr} {xs : List V} {its : List Value} (hz : xs.length ≤ sizeLine) (r : Vals xs its) (e : h.get? a = some { cls := .type "tuple", data := .seq its.toArray }) :
    ObjOk P w H h a (.frz { cls := .type "tuple", data := .seq its.toArray } (.tup xs)) := ⟨e, hz, its, r, ⟨_, e, rfl, _, rfl⟩⟩
def tTupF (t : TA) : TE := fun σ H Q => t σ H fun xs H1 => xs.length ≤ sizeLine ∧ ∀ p o, H1 p = none → o.dict = none → Q (.ref p) (upd H1 p (.frz o (.tup xs)))
section
variable {X : Cx}
theorem pe_tupF {es : List Expr} {t : TA} {pos : Pos} {x1} (h : PA X es t) : PE X (.Tuple es x1 pos) (tTupF t) := by
  refine ⟨fun pins s σ H Q I hq => ?_⟩
  refine wpAny_Tuple_spliced (thn (h.run pos pins s σ H _ I hq) fun us s1 ⟨xs, H1, I1, r, z, q⟩ => ⟨by rw [← r.length]; exact z, ?_⟩)
  have hf : H1 s1.heap.objs.size = none := I1.hok.fresh (Nat.le_refl _)
  refine ⟨.ref s1.heap.objs.size, _, I1.laid (t' := s1.toks) (o := .frz { cls := .type "tuple", data := .seq us.toArray } (.tup xs)) (fun b u e => Heap.get?_push_of_some _ e) (Nat.le_refl _) ?_, rfl, q _ _ hf rfl⟩
  exact frz_ok z r (Heap.get?_push_size _ rfl)
def rCatF (K : PySem.W.Frag) : R2 := fun x y H Q => ∃ a b xs ys, x = .ref a ∧ y = .ref b ∧ SqT K H a xs ∧ SqT K H b ys ∧ xs.length + ys.length ≤ sizeLine ∧
  (xs = [] → Q (.ref b) H) ∧ (xs ≠ [] → ys = [] → Q (.ref a) H) ∧ (xs ≠ [] → ys ≠ [] → ∀ p o, H p = none → o.dict = none → Q (.ref p) (upd H p (.frz o (.tup (xs ++ ys)))))
theorem op_catF : OpR X (binaryOp .Add) (rCatF X.K) := by
  intro pins s σ H x y v u Q I rx ry h
  obtain ⟨a, b, xs, ys, rfl, rfl, ha, hb, hz, q0, q1, q2⟩ := h
  cases rx
  cases ry
  obtain ⟨its, r1, p1, _⟩ := I.tuple ha
  obtain ⟨its2, r2, p2, _⟩ := I.tuple hb
  by_cases hx : xs = []
  · subst hx
    cases r1
    exact cat_tup0 p1 p2 ⟨.ref b, H, I, rfl, q0 rfl⟩
  · refine HT.cat_tup p1 p2 (fun z => hx (r1.nil_iff.mp z)) (fun z => ⟨.ref a, H, I, rfl, q1 hx (r2.nil_iff.mp z)⟩) (fun z => ?_) (by rw [← r1.length, ← r2.length]; exact hz)
    refine ⟨.ref s.heap.objs.size, _, I.laid (t' := s.toks) (o := .frz { cls := .type "tuple", data := .seq (its ++ its2).toArray } (.tup (xs ++ ys))) (fun b ob q => Heap.get?_push_of_some _ q) (Nat.le_refl _) ?_, rfl, q2 hx (fun w => z (r2.nil_iff.mpr w)) _ _ (I.hok.fresh (Nat.le_refl _)) rfl⟩
    exact frz_ok (by rw [List.length_append]; exact hz) (r1.append r2) (Heap.get?_push_size _ rfl)
def rSlF (K : PySem.W.Frag) : V → Option Int → Option Int → Hp → VK → Prop := fun x lo hi H Q => ∃ a xs, x = .ref a ∧ SqT K H a xs ∧
  (HT.sIx xs.length 0 lo = 0 ∧ HT.sIx xs.length xs.length hi = xs.length → Q (.ref a) H) ∧ (¬ (HT.sIx xs.length 0 lo = 0 ∧ HT.sIx xs.length xs.length hi = xs.length) → ∀ p o, H p = none → o.dict = none → Q (.ref p) (upd H p (.frz o (.tup (cutV xs lo hi)))))
theorem sl_tupF : SlR X (rSlF X.K) := by
  intro pins s σ H x v vl vu lo hi sl Q I rx hs pl pu h
  obtain ⟨a, xs, rfl, hx, q1, q2⟩ := h
  cases rx
  obtain ⟨its, r, ht, hz⟩ := I.tuple hx
  have hlen : its.toArray.size = xs.length := by rw [List.size_toArray]; exact r.length.symm
  by_cases hw : HT.sIx xs.length 0 lo = 0 ∧ HT.sIx xs.length xs.length hi = xs.length
  · refine ⟨"tuple", _, PyProof.Rows.slot_tuple_getitem.lookup, ht.typeIs, ?_⟩
    exact getItem_tuple_whole ht hs pl pu (by rw [hlen]; exact hw) ⟨.ref a, H, I, rfl, q1 hw⟩
  · refine ⟨"tuple", _, PyProof.Rows.slot_tuple_getitem.lookup, ht.typeIs, ?_⟩
    refine HT.getItem_tuple_cut ht hs pl pu (by rw [hlen]; exact hw) ?_ (by rw [hlen]; exact hz)
    rw [hlen]
    refine ⟨.ref s.heap.objs.size, _, I.laid (t' := s.toks) (o := .frz { cls := .type "tuple", data := .seq (((its.drop (HT.sIx xs.length 0 lo)).take (HT.sIx xs.length xs.length hi - HT.sIx xs.length 0 lo)).toArray) } (.tup (cutV xs lo hi))) (fun b ob q => Heap.get?_push_of_some _ q) (Nat.le_refl _) ?_, rfl, q2 hw _ _ (I.hok.fresh (Nat.le_refl _)) rfl⟩
    exact frz_ok (Nat.le_trans (cutV_length xs lo hi) hz) ((r.drop (HT.sIx xs.length 0 lo)).take (HT.sIx xs.length xs.length hi - HT.sIx xs.length 0 lo)) (Heap.get?_push_size _ rfl)
theorem call_tuple_ofF : CallR X (.type "tuple") (fun xs H Q => ∃ p ys, xs = [.ref p] ∧ ((SqL X.K H p ys ∧ ∀ l o, H l = none → o.dict = none → Q (.ref l) (upd H l (.frz o (.tup ys)))) ∨ (SqT X.K H p ys ∧ Q (.ref p) H))) := by
  intro pins s σ H xs us Q I r h
  obtain ⟨p, ys, rfl, h⟩ := h
  obtain ⟨u, rfl, rx⟩ := vals1 r
  cases rx
  rcases h with ⟨hq, q⟩ | ⟨hq, q⟩
  · obtain ⟨its, r', pl, hz⟩ := I.list hq
    have hlen := r'.length
    refine call_tuple_list pl.isList (fun h' kp => ?_) (by simp only [List.size_toArray] <;> omega)
    have I1 : Inv X pins σ H { s with heap := h' } := I.kept (t' := s.toks) kp
    have I2 : Inv X pins σ (upd H h'.objs.size (.frz { cls := .type "tuple", data := .seq its.toArray } (.tup ys))) { s with heap := h'.push { cls := .type "tuple", data := .seq its.toArray } } :=
      I1.laid (t' := s.toks) (fun b o e => Heap.get?_push_of_some _ e) (Nat.le_refl _) (frz_ok hz r' (Heap.get?_push_size _ rfl))
    exact ⟨.ref h'.objs.size, _, I2, rfl, q _ _ (I1.hok.fresh (Nat.le_refl _)) rfl⟩
  · obtain ⟨its, r', pl, hz⟩ := I.tuple hq
    exact call_tuple_same pl ⟨.ref p, H, I, rfl, q⟩
theorem KTup.has {pins : List (Addr × Obj)} {σ : L2.St} {H : Hp} {s : Shared} {a : Addr} {vs : List V} (I : Inv X pins σ H s) (h : KTup X.K H a vs) : ∃ (o : Obj) (its : List Value) (n : Nat), s.heap.get? a = some o ∧ o.cls = .type "tuple" ∧ o.dict = none ∧ o.data = .seq its.toArray n ∧ Vals vs its ∧ vs.length ≤ sizeLine := by
  rcases h with ⟨o, h, d⟩ | ⟨o, its, n, h1, h2, h3, h4, h5, h6⟩
  · obtain ⟨e, hz, its, r, o', e', c, n, dt⟩ := (show ObjOk X.prog X.w H s.heap a (.frz o (.tup vs)) from I.hok a _ h)
    rw [e] at e'
    cases e'
    exact ⟨o, its, n, e, c, d, dt, r, hz⟩
  · refine ⟨o, its.toList, n, I.kIn a o h1, h2, h3, by simpa using h4, h6, ?_⟩
    have := h6.length
    simp only [Array.length_toList] at this
    omega
/-- t.m(e) of a tuple of which the object is known -/
def tTM (K : PySem.W.Frag) (r : V → List V → Hp → VK → Prop) (to : TE) (t : TA) : TE := fun σ H Q => to σ H fun x H1 => (∃ p vs, x = .ref p ∧ KTup K H1 p vs) ∧ t σ H1 fun xs H2 => r x xs H2 Q
theorem pe_tm {o e : Expr} {es : List Expr} {to : TE} {t : TA} {name : Str} {apos cpos : Pos} {id : String} {r : V → List V → Hp → VK → Prop} (pa : PlainAttrs "tuple") (slot : PySem.Slot "tuple" name id) (hty : typeOf (.builtin id) = pure (.type "method_descriptor")) (hm : MtR X id r) (ho : PE X o to) (ha : PA X (e :: es) t)
    (hbase : attributeBase o name X.env (eval o X.env) = eval o X.env := by rfl)
    (hfew : ((backTo cpos (starEach (e :: es) X.env)).all (fun x => !x.1) && (backToKw cpos (keywordEach [] X.env)).all (fun x => x.1.isSome)
      && decide ((e :: es).length + ([] : List Keyword).length + (if ([] : List Keyword).isEmpty then 0 else 1) < 30)) = true := by rfl)
    (hline : (apos.endLine == cpos.line) = true := by rfl) (hs : starEach (e :: es) X.env = (false, eval e X.env) :: starEach es X.env := by rfl) (hplain : (backTo cpos (starEach es X.env)).any (·.1) = false := by rfl) :
    PE X (.Call (.Attribute o name apos) (e :: es) [] cpos) (tTM X.K r to t) := by
  refine ⟨fun pins s σ H Q I h => ?_⟩
  refine wpAny_Call_method_late hbase hfew hline rfl (thn (ho.run pins s σ H _ I h) fun v s1 ⟨x, H1, I1, r1, ty, q1⟩ => ?_)
  obtain ⟨p, vs, rfl, kt⟩ := ty
  cases r1
  obtain ⟨ob, its, n, h1, h2, h3, h4, h5, h6⟩ := kt.has I1
  refine ⟨"tuple", id, pa, slot, hty, ⟨ob, h1, h2⟩, fun a e => ?_, ?_⟩
  · cases e
    exact ⟨ob, h1, h3⟩
  have hA := ha.run cpos pins s1 σ H1 _ I1 q1
  rw [hs] at hA ⊢
  refine Calls.callWith_builtin (by show (false || (backTo cpos (starEach es X.env)).any (·.1)) = false; rw [hplain] <;> rfl) (Calls.evalArgs_plain ?_)
  exact thn hA fun us s2 ⟨vs, H2, I2, r2, q2⟩ => hm pins s2 σ H2 (V.ref p) vs (Value.ref p) us Q I2 rfl r2 q2
/-- t.index(x): the first place of an equal one -/
def rIndexT (K : PySem.W.Frag) : V → List V → Hp → VK → Prop := fun x xs H Q => ∃ (a : Addr) (y : V) (d : PyData) (ds : List PyData) (j : Nat) (z : PyData), x = V.ref a ∧ xs = [y] ∧ Dp K H (V.ref a) (.tuple ds) ∧ Dp K H y d ∧
  SeqAt.shaped (.tuple ds) = true ∧ SeqAt.shaped d = true ∧ ds[j]? = some z ∧ PyData.eqv z d = true ∧ (∀ (m : Nat) (z' : PyData), m < j → ds[m]? = some z' → PyData.eqv z' d = false) ∧ Q (.int (j : Nat)) H
theorem mt_indexT (hu : X.A.units + 65 < cLine) : MtR X "tuple.index" (rIndexT X.K) := by
  intro pins s σ H x xs v us Q I rx rxs h
  obtain ⟨a, y, d, ds, j, z, rfl, rfl, hl, hy, sl, sd, hz, hzj, hno, q⟩ := h
  cases rx
  cases rxs with
  | cons ry rt =>
    rename_i uy ut
    cases rt
    obtain ⟨bs, r1⟩ := Dp.reads I d y uy hy ry
    have hxs : PyData.canLayAll0 ds = true := SeqAt.canLay_of_shaped sl
    have hroom : X.A.units + 1 + min (PyData.depthAll ds) d.depth < cLine := room_in_shaped sd hu
    cases hl with
    | tup hs ha =>
      obtain ⟨its, rv, ⟨⟨cls, dd, data, sls⟩, ho, hc, n, hdt⟩, hlen⟩ := I.tuple hs
      simp only at hc hdt
      subst hc hdt
      obtain ⟨as, h4⟩ := Dp.readsAll I ds _ its ha rv
      have hn : its.length = ds.length := SeqAt.ReadsAll.length ds its as h4
      have hmap : its.map (SeqAt.readOf s.heap) = ds := SeqAt.readsAll_map ds its as hxs h4
      obtain ⟨hjd, _⟩ := List.getElem?_eq_some_iff.mp hz
      have hjl : j < its.length := by omega
      have hj : j < its.toArray.size := by simpa using hjl
      have at_ : ∀ (m : Nat) (hm : m < its.toArray.size) (z' : PyData), ds[m]? = some z' → SeqAt.readOf s.heap its.toArray[m] = z' := by
        intro m hm z' hz'
        have hml : m < its.length := by simpa using hm
        rw [← hmap, List.getElem?_map, List.getElem?_eq_getElem hml] at hz'
        have e1 : SeqAt.readOf s.heap its[m] = z' := Option.some.inj (show some (SeqAt.readOf s.heap its[m]) = some z' from hz')
        simpa using e1
      refine call_meets PySem.F.slot_tuple_index ⟨_, ho, rfl⟩ PySem.F.entry_tuple_index (PySem.F.args_tuple_index_2 _ _)
        (TI.tuple_indexAt a its.toArray n dd sls uy (fun u => PyData.eqv (SeqAt.readOf s.heap u) d) j hj ?_ ?_) ⟨ho, SeqAt.items_eqAt (vs := its.toArray) (show ReadsAll s.heap its.toArray.toList ds as from h4) r1 hxs (SeqAt.canLay_of_shaped sd) hroom, ?_⟩
      · show PyData.eqv (SeqAt.readOf s.heap its.toArray[j]) d = true
        rw [at_ j hj z hz]
        exact hzj
      · intro m hm hmj
        have hmd : m < ds.length := by
          have : m < its.length := by simpa using hm
          omega
        have hz' : ds[m]? = some ds[m] := List.getElem?_eq_getElem hmd
        show PyData.eqv (SeqAt.readOf s.heap its.toArray[m]) d = false
        rw [at_ m hm _ hz']
        exact hno m _ hmj hz'
      · exact ⟨.int (j : Nat), H, I.tok _, ⟨_, rfl⟩, q⟩
/-- l.count(x) -/
def rCountD (K : PySem.W.Frag) : V → List V → Hp → VK → Prop := fun x xs H Q => ∃ (a : Addr) (y : V) (d : PyData) (ds : List PyData), x = V.ref a ∧ xs = [y] ∧ Dp K H (V.ref a) (.list ds) ∧ Dp K H y d ∧
  SeqAt.shaped (.list ds) = true ∧ SeqAt.shaped d = true ∧ Q (.int ((ds.countP fun z => PyData.eqv z d) : Nat)) H
theorem mt_countD (hu : X.A.units + 65 < cLine) : MtR X "list.count" (rCountD X.K) := by
  intro pins s σ H x xs v us Q I rx rxs h
  obtain ⟨a, y, d, ds, rfl, rfl, hl, hy, sl, sd, q⟩ := h
  cases rx
  cases rxs with
  | cons ry rt =>
    rename_i uy ut
    cases rt
    obtain ⟨bs, r1⟩ := Dp.reads I d y uy hy ry
    have hxs : PyData.canLayAll0 ds = true := SeqAt.canLay_of_shaped sl
    have hroom : X.A.units + 1 + min (PyData.depthAll ds) d.depth < cLine := room_in_shaped sd hu
    cases hl with
    | lst hs ha =>
      obtain ⟨its, rv, ⟨⟨cls, dd, data, sls⟩, n, ho, hc, hdn, hdt⟩, hlen⟩ := I.list hs
      simp only at hc hdt
      subst hc hdt
      obtain ⟨as, h4⟩ := Dp.readsAll I ds _ its ha rv
      have hmap : its.map (SeqAt.readOf s.heap) = ds := SeqAt.readsAll_map ds its as hxs h4
      refine call_meets PySem.F.slot_list_count ⟨_, ho, rfl⟩ PySem.F.entry_list_count (PySem.F.args_list_count_2 _ _)
        (SeqAt.list_countAt a its.toArray n dd sls uy (fun u => PyData.eqv (SeqAt.readOf s.heap u) d)) ⟨ho, SeqAt.items_eqAt (vs := its.toArray) (show ReadsAll s.heap its.toArray.toList ds as from h4) r1 hxs (SeqAt.canLay_of_shaped sd) hroom, ?_⟩
      have ec : its.toArray.toList.countP (fun u => PyData.eqv (SeqAt.readOf s.heap u) d) = ds.countP fun z => PyData.eqv z d := by
        rw [← hmap, List.countP_map]
        rfl
      refine ⟨.int ((ds.countP fun z => PyData.eqv z d) : Nat), H, I.tok _, ⟨s.toks, ?_⟩, q⟩
      show Value.int ((its.toArray.toList.countP (fun u => PyData.eqv (SeqAt.readOf s.heap u) d) : Nat) : Int) s.toks = _
      rw [ec]
end
end Pv

set_option Elab.async false
set_option linter.all false
set_option maxRecDepth 100000
namespace Pv
open PySem PySem.Spec PyProof.Rows L2
/-! operators by data -/
mutual
def toPy : D → Option PyData
  | .non => some .none
  | .bl b => some (.bool b)
  | .int i => some (.int i)
  | .str x => some (.str x)
  | .tup l => (toPys l).map .tuple
  | .ktup l => (toPys l).map .tuple
  | .lst l => (toPys l).map .list
  | .klst l => (toPys l).map .list
  | .dk _ _ => none
  | .dt _ _ => none
  | .adr _ => none
  | .ty _ => none
def toPys : List D → Option (List PyData)
  | [] => some []
  | d :: ds => match toPy d, toPys ds with
    | some p, some ps => some (p :: ps)
    | _, _ => none
end
section
variable {K : PySem.W.Frag} {H : Hp}
mutual
theorem Rep.dp : ∀ {v : V} {d : D} {p : PyData}, Rep K H v d → toPy d = some p → Dp K H v p
  | _, _, _, .non, e => by simp only [toPy, Option.some.injEq] at e; subst e; exact .non
  | _, _, _, .bl _, e => by simp only [toPy, Option.some.injEq] at e; subst e; exact .bl _
  | _, _, _, .int _, e => by simp only [toPy, Option.some.injEq] at e; subst e; exact .int _
  | _, _, _, .str _, e => by simp only [toPy, Option.some.injEq] at e; subst e; exact .str _
  | _, _, _, .tup a b c, e => by
    simp only [toPy, Option.map_eq_some_iff] at e
    obtain ⟨ps, e1, rfl⟩ := e
    exact .tup (.inl (.inl a)) (Reps.dp c e1)
  | _, _, _, .ktup a b c, e => by
    simp only [toPy, Option.map_eq_some_iff] at e
    obtain ⟨ps, e1, rfl⟩ := e
    exact .tup a.sqt (Reps.dp c e1)
  | _, _, _, .lst a b c, e => by
    simp only [toPy, Option.map_eq_some_iff] at e
    obtain ⟨ps, e1, rfl⟩ := e
    exact .lst (.inl (.inl a)) (Reps.dp c e1)
  | _, _, _, .klst a b c, e => by
    simp only [toPy, Option.map_eq_some_iff] at e
    obtain ⟨ps, e1, rfl⟩ := e
    exact .lst a (Reps.dp c e1)
  | _, _, _, .dk _ _ _, e => by simp only [toPy] at e; cases e
  | _, _, _, .dt _ _ _, e => by simp only [toPy] at e; cases e
  | _, _, _, .adr _, e => by simp only [toPy] at e; cases e
  | _, _, _, .ty _, e => by simp only [toPy] at e; cases e
theorem Reps.dp : ∀ {vs : List V} {ds : List D} {ps : List PyData}, Reps K H vs ds → toPys ds = some ps → DpAll K H vs ps
  | _, _, _, .nil, e => by simp only [toPys, Option.some.injEq] at e; subst e; exact .nil
  | _, _, _, .cons (d := d) (ds := ds) a b, e => by
    unfold toPys at e
    cases e1 : toPy d with
    | none => rw [e1] at e; cases e
    | some p =>
      cases e2 : toPys ds with
      | none => rw [e1, e2] at e; cases e
      | some ps =>
        rw [e1, e2] at e
        cases e
        exact .cons (Rep.dp a e1) (Reps.dp b e2)
end
end
section
variable {K : PySem.W.Frag} {F H : Hp}
theorem BRep.up (s : Same F H) {v : V} {d : D} (h : BRep K F H v d) : Rep K H v d := by
  rcases h with h | ⟨a, ho, o, rfl, h1, h2, rfl⟩
  · exact h.mono s
  · exact (h2.mono s).rep h1
theorem BRep.dp (s : Same F H) {v : V} {d : D} {p : PyData} (h : BRep K F H v d) (e : toPy d = some p) : Dp K H v p := (h.up s).dp e
/-- items of a borrowed list -/
theorem BRep.list {v : V} {d : D} {ds : List D} (s : Same F H) (h : BRep K F H v d) (e : lstOf d = some ds) : ∃ a vs, v = .ref a ∧ SqL K H a vs ∧ vs.length ≤ sizeLine ∧ Reps K F vs ds := by
  rcases h with h | ⟨a, ho, o, rfl, h1, h2, rfl⟩
  · obtain ⟨a, vs, e1, e2, e3, e4⟩ := rep_lstOf h e
    exact ⟨a, vs, e1, same_sql s e2, e3, e4⟩
  · cases o with
    | li l =>
      cases e
      obtain ⟨vs, rfl, h3, h4⟩ := h2
      exact ⟨a, vs, rfl, .inl (.inl h1), h3, h4⟩
    | _ => cases e
/-- of a list that stands by itself -/
theorem BRep.dlist {v : V} {ds : List D} (s : Same F H) (h : BRep K F H v (.lst ds)) : ∃ a vs, v = .ref a ∧ H a = some (.lst vs) ∧ vs.length ≤ sizeLine ∧ Reps K F vs ds := by
  rcases h with h | ⟨a, ho, o, rfl, h1, h2, e⟩
  · cases h with | lst h1 h2 h3 => exact ⟨_, _, rfl, s _ _ h1, h2, h3⟩
  · cases o with
    | li l =>
      cases e
      obtain ⟨vs, rfl, h3, h4⟩ := h2
      exact ⟨a, vs, rfl, h1, h3, h4⟩
    | _ => cases e
theorem BRep.tuple {v : V} {d : D} {ds : List D} (s : Same F H) (h : BRep K F H v d) (e : tupOf d = some ds) : ∃ a vs, v = .ref a ∧ SqT K H a vs ∧ vs.length ≤ sizeLine ∧ Reps K F vs ds := by
  rcases h with h | ⟨a, ho, o, rfl, h1, h2, rfl⟩
  · obtain ⟨a, vs, e1, e2, e3, e4⟩ := rep_tupOf h e
    exact ⟨a, vs, e1, same_sqt s e2, e3, e4⟩
  · cases o <;> cases e
theorem BRep.str {v : V} {x : Str} (h : BRep K F H v (.str x)) : v = .str x := by
  rcases h with h | ⟨a, ho, o, _, _, _, e⟩
  · cases h; rfl
  · cases o <;> cases e
theorem BRep.non {v : V} (h : BRep K F H v .non) : v = .non := by
  rcases h with h | ⟨a, ho, o, _, _, _, e⟩
  · cases h; rfl
  · cases o <;> cases e
end

/-! == and != -/
def eqD (a b : D) : Option Bool := match toPy a, toPy b with
  | some p, some q => if (SeqAt.shaped p && SeqAt.shaped q) = true then some (PyData.eqv p q) else none
  | _, _ => none
def opEq (a b : D) : Option D := (eqD a b).map .bl
def opNe (a b : D) : Option D := (eqD a b).map fun x => .bl (!x)
theorem os_eq {K : PySem.W.Frag} : OpS K (rEqD K) opEq := fun F H x y a b c Q s ra rb e q => by
  unfold opEq eqD at e
  cases e1 : toPy a with
  | none => rw [e1] at e; cases e
  | some p =>
    cases e2 : toPy b with
    | none => rw [e1, e2] at e; cases e
    | some r =>
      rw [e1, e2] at e
      dsimp only at e
      split at e
      · rename_i h
        rw [Bool.and_eq_true] at h
        cases e
        exact ⟨p, r, ra.dp s e1, rb.dp s e2, h.1, h.2, q F H _ (.refl _ _) (.bl _)⟩
      · cases e
theorem os_ne {K : PySem.W.Frag} : OpS K (rNeD K) opNe := fun F H x y a b c Q s ra rb e q => by
  unfold opNe eqD at e
  cases e1 : toPy a with
  | none => rw [e1] at e; cases e
  | some p =>
    cases e2 : toPy b with
    | none => rw [e1, e2] at e; cases e
    | some r =>
      rw [e1, e2] at e
      dsimp only at e
      split at e
      · rename_i h
        rw [Bool.and_eq_true] at h
        cases e
        exact ⟨p, r, ra.dp s e1, rb.dp s e2, h.1, h.2, q F H _ (.refl _ _) (.bl _)⟩
      · cases e
/-! numbers -/
def int2 (g : Int → Int → Option D) (a b : D) : Option D := match a, b with
  | .int i, .int j => g i j
  | _, _ => none
theorem int2_some {g : Int → Int → Option D} {a b c : D} (e : int2 g a b = some c) : ∃ i j, a = .int i ∧ b = .int j ∧ g i j = some c := by
  unfold int2 at e
  split at e
  · exact ⟨_, _, rfl, rfl, e⟩
  · cases e
def opLt : D → D → Option D := int2 fun i j => some (.bl (decide (i < j)))
def opLe : D → D → Option D := int2 fun i j => some (.bl (decide (i ≤ j)))
def opGt : D → D → Option D := int2 fun i j => some (.bl (decide (j < i)))
def opGe : D → D → Option D := int2 fun i j => some (.bl (decide (j ≤ i)))
def opSub : D → D → Option D := int2 fun i j => some (.int (i - j))
theorem os_int2 {K : PySem.W.Frag} {g : Int → Int → D} {u : Int → Int → V} (hu : ∀ i j F, Rep K F (u i j) (g i j)) : OpS K (rI0 u) (int2 fun i j => some (g i j)) := fun F H x y a b c Q s ra rb e q => by
  obtain ⟨i, j, rfl, rfl, e⟩ := int2_some e
  cases e
  exact ⟨i, j, ra.int, rb.int, q F H _ (.refl _ _) (hu _ _ _)⟩
theorem os_lt {K : PySem.W.Frag} : OpS K (rI0 fun i j => .bl (decide (i < j))) opLt := os_int2 fun _ _ _ => .bl _
theorem os_le {K : PySem.W.Frag} : OpS K (rI0 fun i j => .bl (decide (i ≤ j))) opLe := os_int2 fun _ _ _ => .bl _
theorem os_gt {K : PySem.W.Frag} : OpS K (rI0 fun i j => .bl (decide (j < i))) opGt := os_int2 fun _ _ _ => .bl _
theorem os_ge {K : PySem.W.Frag} : OpS K (rI0 fun i j => .bl (decide (j ≤ i))) opGe := os_int2 fun _ _ _ => .bl _
theorem os_sub {K : PySem.W.Frag} : OpS K (rI0 fun i j => .int (i - j)) opSub := os_int2 fun _ _ _ => .int _
instance (i j : Int) : Decidable (L2.CMul i j) := by unfold L2.CMul; infer_instance
instance (i j : Int) : Decidable (L2.CMulW i j) := by unfold L2.CMulW; infer_instance
end Pv

set_option Elab.async false
set_option linter.all false
set_option maxRecDepth 100000
namespace Pv
open PySem PySem.Spec PyProof.Rows L2
def big : Nat := 16777216
theorem big_line : big = sizeLine := sizeLine_eq.symm
def intsOf : List D → Option (List Int)
  | [] => some []
  | .int i :: ds => (intsOf ds).map (i :: ·)
  | _ :: _ => none
theorem intsOf_eq : ∀ {ds : List D} {ns : List Int}, intsOf ds = some ns → ds = ns.map .int
  | [], _, e => by cases e; rfl
  | d :: ds, _, e => by
    unfold intsOf at e
    split at e
    · rename_i h; cases h
    · rename_i i ds' h
      cases h
      obtain ⟨ns, e1, rfl⟩ := Option.map_eq_some_iff.mp e
      rw [intsOf_eq e1]; rfl
    · cases e
theorem intsOf_map : ∀ ns : List Int, intsOf (ns.map .int) = some ns
  | [] => rfl
  | n :: ns => by show (intsOf (ns.map .int)).map (n :: ·) = _; rw [intsOf_map ns]; rfl
theorem Reps.ints_inv {K : PySem.W.Frag} {F : Hp} : ∀ {vs : List V} {ns : List Int}, Reps K F vs (ns.map D.int) → vs = ns.map V.int
  | _, [], h => by cases h; rfl
  | _, n :: ns, h => by
    cases h with
    | cons a b => cases a; rw [Reps.ints_inv b]; rfl
def addD (a b : D) : Option D := match tupOf a, tupOf b with
  | some xs, some ys => if xs.length + ys.length ≤ big then some (if xs = [] then b else if ys = [] then a else .ktup (xs ++ ys)) else none
  | _, _ => none
def opAdd (a b : D) : Option D := match a, b with
  | .int i, .int j => some (.int (i + j))
  | .str x, .str y => if x.length + y.length ≤ big then some (.str (x ++ y)) else none
  | .lst xs, .lst ys => if xs.length + ys.length ≤ big then some (.lst (xs ++ ys)) else none
  | .tup xs, .tup ys => if xs.length + ys.length ≤ big then some (match xs, ys with | [], _ => .tup ys | _, [] => .tup xs | _, _ => .ktup (xs ++ ys)) else none
  | .ktup xs, .tup ys => if xs.length + ys.length ≤ big then some (match xs, ys with | [], _ => .tup ys | _, [] => .ktup xs | _, _ => .ktup (xs ++ ys)) else none
  | .tup xs, .ktup ys => if xs.length + ys.length ≤ big then some (match xs, ys with | [], _ => .ktup ys | _, [] => .tup xs | _, _ => .ktup (xs ++ ys)) else none
  | .ktup xs, .ktup ys => if xs.length + ys.length ≤ big then some (.ktup (xs ++ ys)) else none
  | _, _ => none
def rAddStr : R2 := fun x y H Q => ∃ i j, x = .str i ∧ y = .str j ∧ i.length + j.length ≤ sizeLine ∧ Q (.str (i ++ j)) H
def rAddAll (K : PySem.W.Frag) : R2 := fun x y H Q => rI0 (fun i j => .int (i + j)) x y H Q ∨ (rAddStr x y H Q ∨ (rCat x y H Q ∨ rCatF K x y H Q))
theorem op_addAll {X : Cx} : OpR X (binaryOp .Add) (rAddAll X.K) := op_add.or (op_add_str.or (op_cat.or op_catF))
theorem cat_case {K : PySem.W.Frag} {F H : Hp} {x y : V} {a b : D} {xs ys : List D} {Q : VK} (s : Same F H) (ra : BRep K F H x a) (rb : BRep K F H y b) (e1 : tupOf a = some xs) (e2 : tupOf b = some ys) (hl : xs.length + ys.length ≤ big)
    (q0 : xs = [] → ∀ F' H' v, Grow F H F' H' → Rep K F' v b → Q v H') (q1 : xs ≠ [] → ys = [] → ∀ F' H' v, Grow F H F' H' → Rep K F' v a → Q v H') (q2 : xs ≠ [] → ys ≠ [] → ∀ F' H' v, Grow F H F' H' → Rep K F' v (.ktup (xs ++ ys)) → Q v H') : rCatF K x y H Q := by
  obtain ⟨p, vs, rfl, h1, h2, h3⟩ := ra.tuple s e1
  obtain ⟨p', us, rfl, g1, g2, g3⟩ := rb.tuple s e2
  have l1 := h3.length
  have l2 := g3.length
  have fz : ∀ {v : V} {d : D}, BRep K F H v d → ∀ {ds}, tupOf d = some ds → Rep K F v d := fun {v d} r {ds} e => by
    rcases r with r | ⟨a, ho, o, rfl, _, _, rfl⟩
    · exact r
    · cases o <;> cases e
  have hz : vs.length + us.length ≤ sizeLine := by rw [← big_line]; omega
  have nx : vs = [] ↔ xs = [] := by rw [← List.length_eq_zero_iff, ← List.length_eq_zero_iff, l1]
  have ny : us = [] ↔ ys = [] := by rw [← List.length_eq_zero_iff, ← List.length_eq_zero_iff, l2]
  refine ⟨p, p', vs, us, rfl, rfl, h1, g1, hz, fun z => q0 (nx.mp z) F H _ (.refl _ _) (fz rb e2), fun z z' => q1 (fun t => z (nx.mpr t)) (ny.mp z') F H _ (.refl _ _) (fz ra e1), fun z z' q o hq ho => ?_⟩
  refine q2 (fun t => z (nx.mpr t)) (fun t => z' (ny.mpr t)) _ _ _ (.new (.refl _ _) hq) (.ktup (.inl ⟨o, upd_same, ho⟩) (by rw [List.length_append]; exact hz) ?_)
  exact (h3.append g3).mono (same_new (s.free hq))
theorem os_add {K : PySem.W.Frag} : OpS K (rAddAll K) opAdd := fun F H x y a b c Q s ra rb e q => by
  unfold opAdd at e
  split at e
  · cases e; exact .inl ⟨_, _, ra.int, rb.int, q F H _ (.refl _ _) (.int _)⟩
  · split at e
    · rename_i h; cases e; exact .inr (.inl ⟨_, _, ra.str, rb.str, by rw [← big_line]; exact h, q F H _ (.refl _ _) (.str _)⟩)
    · cases e
  · split at e
    · rename_i h
      cases e
      obtain ⟨p, vs, rfl, h1, h2, h3⟩ := ra.dlist s
      obtain ⟨p', us, rfl, g1, g2, g3⟩ := rb.dlist s
      have l1 := h3.length
      have l2 := g3.length
      refine .inr (.inr (.inl ⟨p, p', vs, us, rfl, rfl, h1, g1, by rw [← big_line]; omega, fun r hr => ?_⟩))
      exact q _ _ _ (.new (.refl _ _) hr) (.lst upd_same (by rw [List.length_append, ← big_line]; omega) ((h3.append g3).mono (same_new (s.free hr))))
    · cases e
  · rename_i xs ys
    split at e
    · rename_i h
      refine .inr (.inr (.inr (cat_case (xs := xs) (ys := ys) s ra rb rfl rfl h (fun z => ?_) (fun z z' => ?_) (fun z z' => ?_))))
      · subst z; cases e; exact q
      · subst z'; cases xs with | nil => exact absurd rfl z | cons _ _ => cases e; exact q
      · cases xs with | nil => exact absurd rfl z | cons _ _ => cases ys with | nil => exact absurd rfl z' | cons _ _ => cases e; exact q
    · cases e
  · rename_i xs ys
    split at e
    · rename_i h
      refine .inr (.inr (.inr (cat_case (xs := xs) (ys := ys) s ra rb rfl rfl h (fun z => ?_) (fun z z' => ?_) (fun z z' => ?_))))
      · subst z; cases e; exact q
      · subst z'; cases xs with | nil => exact absurd rfl z | cons _ _ => cases e; exact q
      · cases xs with | nil => exact absurd rfl z | cons _ _ => cases ys with | nil => exact absurd rfl z' | cons _ _ => cases e; exact q
    · cases e
  · rename_i xs ys
    split at e
    · rename_i h
      refine .inr (.inr (.inr (cat_case (xs := xs) (ys := ys) s ra rb rfl rfl h (fun z => ?_) (fun z z' => ?_) (fun z z' => ?_))))
      · subst z; cases e; exact q
      · subst z'; cases xs with | nil => exact absurd rfl z | cons _ _ => cases e; exact q
      · cases xs with | nil => exact absurd rfl z | cons _ _ => cases ys with | nil => exact absurd rfl z' | cons _ _ => cases e; exact q
    · cases e
  · rename_i xs ys
    split at e
    · rename_i h
      cases e
      refine .inr (.inr (.inr (cat_case (xs := xs) (ys := ys) s ra rb rfl rfl h (fun z => ?_) (fun z z' => ?_) (fun z z' => ?_))))
      · subst z; exact q
      · subst z'; rw [List.append_nil] at q; exact q
      · exact q
    · cases e
  · cases e
def opMul : D → D → Option D := int2 fun i j => if L2.CMul i j ∨ L2.CMulW i j then some (.int (i * j)) else none
def rMulAll : R2 := fun x y H Q => rI L2.CMul (fun i j => .int (i * j)) x y H Q ∨ rI L2.CMulW (fun i j => .int (i * j)) x y H Q
theorem op_mulAll {X : Cx} : OpR X (binaryOp .Mult) rMulAll := op_mul.or op_mulW
theorem os_mul {K : PySem.W.Frag} : OpS K rMulAll opMul := fun F H x y a b c Q s ra rb e q => by
  obtain ⟨i, j, rfl, rfl, e'⟩ := int2_some e
  clear e
  split at e'
  · rename_i h
    cases e'
    rcases h with h | h
    · exact .inl ⟨i, j, ra.int, rb.int, h, q F H _ (.refl _ _) (.int _)⟩
    · exact .inr ⟨i, j, ra.int, rb.int, h, q F H _ (.refl _ _) (.int _)⟩
  · cases e'
instance (i j : Int) : Decidable (L2.CDivW i j) := by unfold L2.CDivW; infer_instance
def opDiv : D → D → Option D := int2 fun i j => if L2.CDivW i j then some (.int (i / j)) else none
theorem os_div {K : PySem.W.Frag} : OpS K (rI L2.CDivW fun i j => .int (i / j)) opDiv := fun F H x y a b c Q s ra rb e q => by
  obtain ⟨i, j, rfl, rfl, e'⟩ := int2_some e
  clear e
  split at e'
  · rename_i h; cases e'; exact ⟨i, j, ra.int, rb.int, h, q F H _ (.refl _ _) (.int _)⟩
  · cases e'
def opMod : D → D → Option D := int2 fun i j => if 0 < j then some (.int (i % j)) else none
theorem os_mod {K : PySem.W.Frag} : OpS K (rI (fun _ j => 0 < j) fun i j => .int (i % j)) opMod := fun F H x y a b c Q s ra rb e q => by
  obtain ⟨i, j, rfl, rfl, e'⟩ := int2_some e
  clear e
  split at e'
  · rename_i h; cases e'; exact ⟨i, j, ra.int, rb.int, h, q F H _ (.refl _ _) (.int _)⟩
  · cases e'
instance (i j : Int) : Decidable (L2.CPow i j) := by unfold L2.CPow; infer_instance
def opPow : D → D → Option D := int2 fun i j => if L2.CPow i j then some (.int (i ^ j.toNat)) else none
theorem os_pow {K : PySem.W.Frag} : OpS K (rI L2.CPow fun i j => .int (i ^ j.toNat)) opPow := fun F H x y a b c Q s ra rb e q => by
  obtain ⟨i, j, rfl, rfl, e'⟩ := int2_some e
  clear e
  split at e'
  · rename_i h; cases e'; exact ⟨i, j, ra.int, rb.int, h, q F H _ (.refl _ _) (.int _)⟩
  · cases e'
def opNeg : D → Option D
  | .int i => some (.int (-i))
  | _ => none
theorem us_neg {K : PySem.W.Frag} : UnS K (rU fun i => .int (-i)) opNeg := fun F H x a c Q s ra e q => by
  unfold opNeg at e
  split at e
  · cases e; exact ⟨_, ra.int, q F H _ (.refl _ _) (.int _)⟩
  · cases e
/-! < also of tuples of ints -/
def opLtA (a b : D) : Option D := match a, b with
  | .int i, .int j => some (.bl (decide (i < j)))
  | _, _ => match tupOf a, tupOf b with
    | some xs, some ys => match intsOf xs, intsOf ys with
      | some ns, some ms => some (.bl (HT.lexLt ns ms))
      | _, _ => none
    | _, _ => none
def rLtAll (K : PySem.W.Frag) : R2 := fun x y H Q => rI0 (fun i j => .bl (decide (i < j))) x y H Q ∨ rLtT K x y H Q
theorem op_ltAll {X : Cx} (hu : X.A.units < cLine) : OpR X (compareOp .Lt) (rLtAll X.K) := op_lt.or (op_ltT hu)
theorem os_ltA {K : PySem.W.Frag} : OpS K (rLtAll K) opLtA := fun F H x y a b c Q s ra rb e q => by
  unfold opLtA at e
  split at e
  · cases e; exact .inl ⟨_, _, ra.int, rb.int, q F H _ (.refl _ _) (.bl _)⟩
  · cases e1 : tupOf a with
    | none => rw [e1] at e; cases e
    | some xs =>
      cases e2 : tupOf b with
      | none => rw [e1, e2] at e; cases e
      | some ys =>
        rw [e1, e2] at e
        dsimp only at e
        cases f1 : intsOf xs with
        | none => rw [f1] at e; cases e
        | some ns =>
          cases f2 : intsOf ys with
          | none => rw [f1, f2] at e; cases e
          | some ms =>
            rw [f1, f2] at e
            cases e
            obtain ⟨p, vs, rfl, h1, h2, h3⟩ := ra.tuple s e1
            obtain ⟨p', us, rfl, g1, g2, g3⟩ := rb.tuple s e2
            rw [intsOf_eq f1] at h3
            rw [intsOf_eq f2] at g3
            rw [h3.ints_inv] at h1
            rw [g3.ints_inv] at g1
            exact .inr ⟨p, p', ns, ms, rfl, rfl, h1, g1, q F H _ (.refl _ _) (.bl _)⟩
/-! subscripts -/
def opIx (a b : D) : Option D := match b with
  | .int i => match itemsOf a with
    | some ds => atI ds i
    | none => match a with
      | .str z => if z.length ≤ big then (atI z.cps.toList i).map fun c => .str ⟨#[c]⟩ else none
      | _ => none
  | _ => none
theorem itemsOf_cases {d : D} {ds : List D} (e : itemsOf d = some ds) : lstOf d = some ds ∨ tupOf d = some ds := by
  cases d <;> first | (cases e; exact .inl rfl) | (cases e; exact .inr rfl) | cases e
theorem atI_reps {K : PySem.W.Frag} {F : Hp} {vs : List V} {ds : List D} {i : Int} {d : D} (r : Reps K F vs ds) (e : atI ds i = some d) : ∃ v, atI vs i = some v ∧ Rep K F v d := by
  unfold atI at e ⊢
  rw [r.length]
  cases q : ixN ds.length i with
  | none => rw [q] at e; cases e
  | some j =>
    rw [q] at e
    exact r.get e
theorem os_ix {K : PySem.W.Frag} : OpS K (rIx K) opIx := fun F H x y a b c Q s ra rb e q => by
  unfold opIx at e
  split at e
  · rename_i i
    cases e1 : itemsOf a with
    | some ds =>
      rw [e1] at e
      dsimp only at e
      rcases itemsOf_cases e1 with e2 | e2
      · obtain ⟨p, vs, rfl, h1, h2, h3⟩ := ra.list s e2
        obtain ⟨v, g1, g2⟩ := atI_reps h3 e
        exact .inl ⟨p, vs, i, v, rfl, rb.int, h1, g1, q F H _ (.refl _ _) g2⟩
      · obtain ⟨p, vs, rfl, h1, h2, h3⟩ := ra.tuple s e2
        obtain ⟨v, g1, g2⟩ := atI_reps h3 e
        exact .inr (.inl ⟨p, vs, i, v, rfl, rb.int, h1, g1, q F H _ (.refl _ _) g2⟩)
    | none =>
      rw [e1] at e
      dsimp only at e
      split at e
      · split at e
        · rename_i z h
          obtain ⟨cc, e3, rfl⟩ := Option.map_eq_some_iff.mp e
          exact .inr (.inr ⟨_, i, cc, ra.str, rb.int, by rw [← big_line]; exact h, e3, q F H _ (.refl _ _) (.str _)⟩)
        · cases e
      · cases e
  · cases e
/-! is None -/
def isNonD : D → Bool
  | .non => true
  | _ => false
theorem BRep.isNon {K : PySem.W.Frag} {F H : Hp} {v : V} {d : D} (h : BRep K F H v d) : decide (v = .non) = isNonD d := by
  rcases h with h | ⟨a, ho, o, rfl, _, _, rfl⟩
  · cases h <;> first | rfl | exact decide_eq_false (fun z => nomatch z)
  · cases o <;> exact decide_eq_false (fun z => nomatch z)
def opIs (a b : D) : Option D := match b with
  | .non => some (.bl (isNonD a))
  | _ => none
def opIsNot (a b : D) : Option D := match b with
  | .non => some (.bl (!isNonD a))
  | _ => none
theorem os_is {K : PySem.W.Frag} : OpS K (fun x y H Q => y = .non ∧ Q (.bl (decide (x = .non))) H) opIs := fun F H x y a b c Q s ra rb e q => by
  unfold opIs at e
  split at e
  · cases e
    refine ⟨rb.non, ?_⟩
    rw [ra.isNon]
    exact q F H _ (.refl _ _) (.bl _)
  · cases e
theorem os_isNot {K : PySem.W.Frag} : OpS K (fun x y H Q => y = .non ∧ Q (.bl (!decide (x = .non))) H) opIsNot := fun F H x y a b c Q s ra rb e q => by
  unfold opIsNot at e
  split at e
  · cases e
    refine ⟨rb.non, ?_⟩
    rw [ra.isNon]
    exact q F H _ (.refl _ _) (.bl _)
  · cases e
end Pv

set_option Elab.async false
set_option linter.all false
set_option maxRecDepth 100000
namespace Pv
open PySem PySem.Spec PyProof.Rows L2
/-! sorted of data of any kind -/
theorem Paired.zipped {α β : Type} {R : α → β → Prop} : ∀ {xs : List α} {ys : List β}, Paired R xs ys → ∀ p ∈ xs.zip ys, R p.1 p.2
  | _, _, .nil, p, h => nomatch h
  | _, _, .cons (a := a) (b := b) r t, p, h => by
    rcases List.mem_cons.mp h with e | e
    · rw [e]; exact r
    · exact Paired.zipped t p e
def sortV (vs : List V) (ps : List PyData) : List V := ((vs.zip ps).mergeSort (PySem.W.dataLe false (·.2))).map (·.1)
def rSortD (K : PySem.W.Frag) : List V → Hp → VK → Prop := fun xs H Q => ∃ (a : Addr) (vs : List V) (ps : List PyData), xs = [.ref a] ∧ SqL K H a vs ∧ DpAll K H vs ps ∧ PySem.W.AllAlike ps ∧ PySem.W.Sortable ps ∧ (∀ p ∈ ps, p.depth ≤ 60) ∧
  ∀ p, H p = none → Q (.ref p) (upd H p (.lst (sortV vs ps)))
theorem dpAll_len {K : PySem.W.Frag} {H : Hp} : ∀ {vs : List V} {ps : List PyData}, DpAll K H vs ps → vs.length = ps.length
  | _, _, .nil => rfl
  | _, _, .cons _ b => congrArg (· + 1) (dpAll_len b)
theorem vals_of_each : ∀ {us : List Value} {zs : List (V × PyData)}, PySem.W.EachIs (fun u (z : V × PyData) => RelV z.1 u) us zs → Vals (zs.map (·.1)) us
  | _, _, .nil => .nil
  | _, _, .cons a b => .cons a (vals_of_each b)
theorem each_of_vals : ∀ {us : List Value} {vs : List V} {ps : List PyData}, Vals vs us → vs.length = ps.length → PySem.W.EachIs (fun u (z : V × PyData) => RelV z.1 u) us (vs.zip ps)
  | _, _, [], .nil, _ => .nil
  | _, _, _ :: _, .nil, h => nomatch h
  | _, _, [], .cons _ _, h => nomatch h
  | _, _, p :: ps, .cons a b, h => .cons a (each_of_vals b (by simpa using h))
theorem each_reads {X : Cx} {pins : List (Addr × Obj)} {σ : L2.St} {H : Hp} {s : Shared} (I : Inv X pins σ H s) : ∀ {us : List Value} {vs : List V} {ps : List PyData}, Vals vs us → DpAll X.K H vs ps → PySem.W.EachIs (fun u (z : V × PyData) => ∃ as, Reads s.heap u z.2 as) us (vs.zip ps)
  | _, _, _, .nil, .nil => .nil
  | _, _, _, .cons a b, .cons c d => .cons (Dp.reads I _ _ _ c a) (each_reads I b d)
theorem zip_snd {vs : List V} {ps : List PyData} (h : vs.length = ps.length) : (vs.zip ps).map (·.2) = ps := by
  rw [List.map_snd_zip]; omega
theorem cr_sortedD {X : Cx} (hu : X.A.units + 64 < cLine) : CallR X (.builtin "sorted") (rSortD X.K) := by
  intro pins s σ H xs us Q I r h
  obtain ⟨a, vs, ps, rfl, hs, hd, hal, hsr, hdp, q⟩ := h
  obtain ⟨its, rv, hl, hz⟩ := I.list hs
  rw [Vals.ref1 r]
  have hlen := dpAll_len hd
  have ez := zip_snd hlen
  refine PySem.W.sorted_data (R := fun u (z : V × PyData) => RelV z.1 u) (bs := vs.zip ps) (enc := (·.2)) hl.isList (each_of_vals rv hlen) (each_reads I rv hd) (by rw [ez]; exact hal) (by rw [ez]; exact hsr) (by rw [List.length_zip, ← hlen, Nat.min_self]; exact hz)
    (fun b hb => by
      have : b.2 ∈ ps := by rw [← ez]; exact List.mem_map.mpr ⟨b, hb, rfl⟩
      have := hdp _ this
      omega) fun out hout he => ?_
  obtain ⟨ep, he'⟩ := PyProof.Rows.sortedAll_at s.heap its out.toArray
  have hl2 : (sortV vs ps).length ≤ sizeLine := by
    unfold sortV
    rw [List.length_map, List.length_mergeSort, List.length_zip, ← hlen, Nat.min_self]; exact hz
  exact ⟨.ref _, upd H (s.heap.objs.size + 1) (.lst (sortV vs ps)), I.laid (t' := s.toks) (fun _ _ => PyProof.Rows.sortedAll_old) (Nat.le_succ _) ⟨hl2, out, ep, vals_of_each he, he'⟩, rfl, q _ (I.hok.fresh (Nat.le_succ _))⟩
/-! dict(..) of pairs with tuples as keys -/
def mergeT (kvs more : List (List Key × V)) : List (List Key × V) := more.foldl (fun acc kv => putK acc kv.1 kv.2) kvs
theorem length_mergeT : ∀ (more kvs : List (List Key × V)), (mergeT kvs more).length ≤ kvs.length + more.length
  | [], kvs => by show kvs.length ≤ kvs.length + 0; omega
  | p :: r, kvs => by
    have h1 := length_mergeT r (putK kvs p.1 p.2)
    have h2 := length_putK kvs p.1 p.2
    show (mergeT (putK kvs p.1 p.2) r).length ≤ _
    rw [List.length_cons]; omega
def rDictT (K : PySem.W.Frag) : List V → Hp → VK → Prop := fun xs H Q => ∃ (a : Addr) (ps : List Addr) (kvs : List (List Key × Addr × V)), xs = [.ref a] ∧ SqL K H a (ps.map V.ref) ∧ Paired (fun p kv => SqT K H p [.ref kv.2.1, kv.2.2] ∧ H kv.2.1 = some (.tup (kv.1.map kV))) ps kvs ∧
  ∀ p, H p = none → Q (.ref p) (upd H p (.dT (mergeT [] (kvs.map fun x => (x.1, x.2.2)))))
/-- the values of the pairs -/
theorem pairsT {X : Cx} {pins : List (Addr × Obj)} {σ : L2.St} {H : Hp} {s : Shared} (I : Inv X pins σ H s) {ps : List Addr} {kvs : List (List Key × Addr × V)} (h : Paired (fun p kv => SqT X.K H p [.ref kv.2.1, kv.2.2] ∧ H kv.2.1 = some (.tup (kv.1.map kV))) ps kvs) :
    ∃ xs : List (List Key × Addr × Value), Paired (fun (k : List Key × Addr × V) (x : List Key × Addr × Value) => k.1 = x.1 ∧ k.2.1 = x.2.1 ∧ RelV k.2.2 x.2.2 ∧ H x.2.1 = some (.tup (x.1.map kV))) kvs xs ∧ ps.length = xs.length ∧
      ∀ (j : Nat) (x : List Key × Addr × Value), xs[j]? = some x → ∃ b, ps[j]? = some b ∧ IsTup s.heap b #[.ref x.2.1, x.2.2] := by
  induction h with
  | nil => exact ⟨[], .nil, rfl, fun j x e => by simp at e⟩
  | @cons p kv ps kvs hp t ih =>
    obtain ⟨xs, h1, h2, h3⟩ := ih
    obtain ⟨hq, hk⟩ := hp
    obtain ⟨its, rv, pt, _⟩ := I.tuple hq
    cases rv with
    | @cons _ u1 _ _ r1 rr =>
      cases rr with
      | @cons _ u2 _ _ r2 rr2 =>
        cases rr2
        cases r1
        refine ⟨(kv.1, kv.2.1, u2) :: xs, .cons ⟨rfl, rfl, r2, hk⟩ h1, congrArg (· + 1) h2, fun j x e => ?_⟩
        cases j with
        | zero => simp at e; subst e; exact ⟨p, rfl, pt⟩
        | succ j => simpa using h3 j x (by simpa using e)
theorem kt_merge {H : Hp} {kvs : List (List Key × Addr × V)} {xs : List (List Key × Addr × Value)} (h : Paired (fun (k : List Key × Addr × V) (x : List Key × Addr × Value) => k.1 = x.1 ∧ k.2.1 = x.2.1 ∧ RelV k.2.2 x.2.2 ∧ H x.2.1 = some (.tup (x.1.map kV))) kvs xs) :
    ∀ {acc : List (List Key × V)} {ac2 : List (List Key × Addr × Value)}, KT H acc ac2 → KT H (mergeT acc (kvs.map fun x => (x.1, x.2.2))) (PySem.storedAllH ac2 xs) := by
  induction h with
  | nil => intro acc ac2 h; exact h
  | @cons kv x kvs xs hx t ih =>
    intro acc ac2 h
    obtain ⟨e1, e2, r, hk⟩ := hx
    have h' : KT H (putK acc x.1 kv.2.2) (storedH ac2 x.1 x.2.1 x.2.2) := h.put x.1 hk r
    rw [← e1] at h'
    have := ih h'
    rw [show PySem.storedAllH ac2 (x :: xs) = PySem.storedAllH (storedH ac2 x.1 x.2.1 x.2.2) xs from rfl, ← e1]
    exact this
theorem keys_in {X : Cx} {pins : List (Addr × Obj)} {σ : L2.St} {H : Hp} {s : Shared} (I : Inv X pins σ H s) {kvs : List (List Key × Addr × V)} {xs : List (List Key × Addr × Value)} (h : Paired (fun (k : List Key × Addr × V) (x : List Key × Addr × Value) => k.1 = x.1 ∧ k.2.1 = x.2.1 ∧ RelV k.2.2 x.2.2 ∧ H x.2.1 = some (.tup (x.1.map kV))) kvs xs) :
    ∀ x ∈ xs, H x.2.1 = some (.tup (x.1.map kV)) := by
  induction h with
  | nil => intro x hx; exact nomatch hx
  | @cons k y _ _ a t ih =>
    intro x hx
    rcases List.mem_cons.mp hx with e | e
    · subst e; exact a.2.2.2
    · exact ih x e
theorem call_dictT {X : Cx} (hcalm : X.calm = true) (hu : X.A.units + 64 < cLine) : CallR X (.type "dict") (rDictT X.K) := by
  intro pins s σ H xs us Q I r h
  obtain ⟨a, ps, kvs, rfl, hq, hp, q⟩ := h
  obtain ⟨u, rfl, rx⟩ := vals1 r
  cases rx
  obtain ⟨its, rv, pl, hz⟩ := I.list hq
  have ei := refs_at rv
  subst ei
  rw [List.length_map] at hz
  obtain ⟨prs, rel, hl, hpr⟩ := pairsT I hp
  have hks := keys_in I rel
  obtain ⟨o, n, ho, hc, hd, hdat⟩ := pl
  have lenk : kvs.length = prs.length := Paired.length rel
  refine PySem.call_dict_pairsH (knd := tupleKind (mixKind X.prog X.w)) (ps := prs) (PySem.PairArg.list a (ps.map Value.ref).toArray (fun j => ps.getD j 0) (prs.map fun x => (.ref x.2.1, x.2.2))) (I.ok.hd hcalm) (by show X.A.in1.in1.units < cLine; show X.A.units + 1 + 1 < cLine; omega)
    ⟨⟨o, n, ho, hc, hd, hdat⟩, by simp [hl], fun j k v e => ?_⟩ ⟨by simp, fun i key v e => ?_⟩ (fun h' hk x hx => ?_) (by rw [List.length_map, ← hl]; exact hz) fun h' tk hd' hk => ?_
  · rw [List.getElem?_map] at e
    cases e1 : prs[j]? with
    | none => rw [e1] at e; cases e
    | some x =>
      rw [e1] at e
      cases e
      obtain ⟨b, h1, h2⟩ := hpr j x e1
      have hb : ps.getD j 0 = b := by rw [List.getD_eq_getElem?_getD, h1]; rfl
      refine ⟨by simp [h1, hb], .inl ?_⟩
      show IsTup s.heap (ps.getD j 0) _
      rw [hb]
      exact h2
  · rw [PySem.PairRel, List.getElem?_map] at e
    cases e1 : prs[i]? with
    | none => rw [e1] at e; cases e
    | some x =>
      rw [e1] at e
      cases e
      exact ⟨x.1, x.2.1, rfl, rfl⟩
  · have ok' : ObjOk X.prog X.w H s.heap x.2.1 (.tup (x.1.map kV)) := I.hok _ _ (hks x hx)
    obtain ⟨hz2, its2, rv2, ob, e2, e3, n3, e4⟩ := ok'
    exact ⟨ob, its2.toArray, n3, hk _ _ (Nat.ne_of_lt (Heap.lt_size e2)) (by simp) e2, e3, e4, by simpa using items_are rv2⟩
  · have hm : (s.heap.objs.size == sysModules) = false := beq_eq_false_iff_ne.mpr (Nat.ne_of_gt I.big)
    have hlen : (mergeT [] (kvs.map fun x => (x.1, x.2.2))).length ≤ sizeLine := by
      refine Nat.le_trans (length_mergeT _ []) ?_
      rw [List.length_nil, Nat.zero_add, List.length_map, lenk, ← hl]
      exact hz
    obtain ⟨o', es, ep, g1, g2, g3, g4, g5, g6⟩ := hd'
    have kt : KT H (mergeT [] (kvs.map fun x => (x.1, x.2.2))) (PySem.storedAllH [] prs) := kt_merge rel .nil
    have hf : H s.heap.objs.size = none := I.hok.fresh (Nat.le_refl _)
    refine ⟨.ref s.heap.objs.size, upd H s.heap.objs.size (.dT (mergeT [] (kvs.map fun x => (x.1, x.2.2)))), I.laid (t' := tk) (fun b o e => hk b o (by simp) e) (Nat.le_refl _) ⟨hlen, hm, _, kt.keeps fun b ys e => ?_, o', es, ep, g1, g2, g3, g4, g6⟩, rfl, q _ hf⟩
    rw [upd_ne (ne_of_none e hf)]
    exact e
end Pv

set_option Elab.async false
set_option linter.all false
set_option maxRecDepth 100000
namespace Pv
open PySem PySem.Spec PyProof.Rows L2
/-! built-ins, by data -/
def ofOpt : Option D → Rf
  | some d => .fz d
  | none => .stuck
theorem ofOpt_exc (o : Option D) (e : Exc) : ofOpt o ≠ .exc e := by cases o <;> exact fun z => nomatch z
section
variable {K : PySem.W.Frag} {F H : Hp}
/-! len -/
def lenD : D → Option D
  | .str x => if x.length ≤ big then some (.int x.length) else none
  | .dk ks l => if ks.length = l.length then some (.int ks.length) else none
  | d => match itemsOf d with
    | some ds => some (.int ds.length)
    | none => none
def fLen (ds : List D) : Rf := match ds with
  | [d] => ofOpt (lenD d)
  | _ => .stuck
def rLenA (K : PySem.W.Frag) : List V → Hp → VK → Prop := fun xs H Q => (∃ x n, xs = [x] ∧ LenV K x H n ∧ Q (.int n) H) ∨ ∃ a kvs, xs = [V.ref a] ∧ Rd H a (.dK kvs) ∧ Q (.int kvs.length) H
theorem call_lenR {X : Cx} : CallR X (.builtin "len") (fun xs H Q => ∃ a kvs, xs = [V.ref a] ∧ Rd H a (.dK kvs) ∧ Q (.int kvs.length) H) := by
  intro pins s σ H xs us Q I r h
  obtain ⟨a, kvs, rfl, ha, q⟩ := h
  obtain ⟨u, rfl, ru⟩ := vals1 r
  cases ru
  exact d_len I ha fun t s' I' => ⟨.int kvs.length, H, I', ⟨t, rfl⟩, q⟩
theorem call_lenA {X : Cx} : CallR X (.builtin "len") (rLenA X.K) := call_len.or call_lenR
theorem len_items {d : D} {v : V} {ds : List D} {Q : VK} (s : Same F H) (b : BRep K F H v d) (e : itemsOf d = some ds) (q : Q (.int ds.length) H) : rLenA K [v] H Q := by
  rcases itemsOf_cases e with e | e
  · obtain ⟨a, vs, rfl, h1, h2, h3⟩ := b.list s e
    exact .inl ⟨_, _, rfl, .inl ⟨vs, h1, rfl⟩, by rw [h3.length]; exact q⟩
  · obtain ⟨a, vs, rfl, h1, h2, h3⟩ := b.tuple s e
    exact .inl ⟨_, _, rfl, .inr ⟨vs, h1, rfl⟩, by rw [h3.length]; exact q⟩
theorem BRep.dk {v : V} {ks : List Key} {l : List D} (s : Same F H) (h : BRep K F H v (.dk ks l)) : ∃ a kvs, v = .ref a ∧ Rd H a (.dK kvs) ∧ kvs.length ≤ sizeLine ∧ kvs.map (·.1) = ks ∧ Reps K F (kvs.map (·.2)) l := by
  rcases h with h | ⟨a, ho, o, rfl, h1, h2, e⟩
  · cases h with | dk h1 h2 h3 => exact ⟨_, _, rfl, same_rd s h1, h2, rfl, h3⟩
  · cases o with
    | di l' =>
      cases e
      obtain ⟨kvs, rfl, h3, h4⟩ := h2
      exact ⟨a, kvs, rfl, .inl h1, h3, h4.keys, h4.vals⟩
    | _ => cases e
theorem BRep.dt {v : V} {ks : List (List Key)} {l : List D} (s : Same F H) (h : BRep K F H v (.dt ks l)) : ∃ a kvs, v = .ref a ∧ Rd H a (.dT kvs) ∧ kvs.length ≤ sizeLine ∧ kvs.map (·.1) = ks ∧ Reps K F (kvs.map (·.2)) l := by
  rcases h with h | ⟨a, ho, o, rfl, h1, h2, e⟩
  · cases h with | dt h1 h2 h3 => exact ⟨_, _, rfl, same_rd s h1, h2, rfl, h3⟩
  · cases o with
    | ti l' =>
      cases e
      obtain ⟨kvs, rfl, h3, h4⟩ := h2
      exact ⟨a, kvs, rfl, .inl h1, h3, h4.keys, h4.vals⟩
    | _ => cases e
theorem cs_len : CallS K (rLenA K) fLen := fun F H xs ds Q s bs q => by
  unfold fLen at q
  split at q
  · rename_i d
    obtain ⟨v, rfl, b⟩ := breps_one bs
    have go : ∀ {es : List D}, itemsOf d = some es → lenD d = some (.int es.length) → rLenA K [v] H Q := fun {es} e e2 => by
      rw [e2] at q
      exact len_items s b e (q F H _ (.refl _ _) (.int _))
    cases d with
    | str x =>
      unfold lenD at q
      dsimp only at q
      split at q
      · rename_i h
        cases b.str
        exact .inl ⟨_, _, rfl, ⟨by rw [← big_line]; exact h, rfl⟩, q F H _ (.refl _ _) (.int _)⟩
      · exact q.elim
    | dk ks l =>
      obtain ⟨a, kvs, rfl, h1, h2, h3, h4⟩ := b.dk s
      unfold lenD at q
      dsimp only at q
      split at q
      · have q := q F H _ (.refl _ _) (.int _)
        rw [← h3, List.length_map] at q
        exact .inr ⟨_, _, rfl, h1, q⟩
      · exact q.elim
    | tup l => exact go rfl rfl
    | ktup l => exact go rfl rfl
    | lst l => exact go rfl rfl
    | klst l => exact go rfl rfl
    | _ => exact q.elim
  · exact False.elim q
/-! isinstance of a built-in class -/
def kindOf : D → Option String
  | .non => some "NoneType"
  | .bl _ => some "bool"
  | .int _ => some "int"
  | .str _ => some "str"
  | .tup _ => some "tuple"
  | .ktup _ => some "tuple"
  | .lst _ => some "list"
  | _ => none
def isiD (d : D) (T : String) : Option D := match kindOf d with
  | some t => (kitB t T).map .bl
  | none => none
def fIsi (ds : List D) : Rf := match ds with
  | [d, .ty T] => ofOpt (isiD d T)
  | _ => .stuck
theorem kind_ty {v : V} {d : D} {t : String} (s : Same F H) (h : BRep K F H v d) (e : kindOf d = some t) : TyX K H v (.type t) := by
  rcases h with h | ⟨a, ho, o, rfl, h1, h2, rfl⟩
  · cases h with
    | non => cases e; exact .base .non
    | bl b => cases e; exact .base (.bl b)
    | int b => cases e; exact .base (.int b)
    | str b => cases e; exact .base (.str b)
    | tup h => cases e; exact .base (.tup (s _ _ h))
    | ktup h =>
      cases e
      rcases h with ⟨o, h, _⟩ | ⟨o, its, n, h1, h2, _⟩
      · exact .fTuple (s _ _ h)
      · exact .kTuple h1 h2
    | lst h => cases e; exact .base (.lst (s _ _ h))
    | _ => cases e
  · cases o with
    | li l => cases e; obtain ⟨vs, rfl, h3, h4⟩ := h2; exact .base (.lst h1)
    | _ => cases e
theorem BRep.ty {v : V} {n : String} (h : BRep K F H v (.ty n)) : v = .ty n := by
  rcases h with h | ⟨a, ho, o, _, _, _, e⟩
  · cases h; rfl
  · cases o <;> cases e
theorem cs_isi : CallS K (rIsi K) fIsi := fun F H xs ds Q s bs q => by
  unfold fIsi at q
  split at q
  · rename_i d T
    obtain ⟨v, u, rfl, b1, b2⟩ := breps_two bs
    unfold isiD at q
    cases e : kindOf d with
    | none => rw [e] at q; exact q.elim
    | some t =>
      rw [e] at q
      dsimp only at q
      cases e2 : kitB t T with
      | none => rw [e2] at q; exact q.elim
      | some b =>
        rw [e2] at q
        cases b2.ty
        exact ⟨v, .ty T, .type t, .type T, b, rfl, .ty T, kind_ty s b1 e, kit_ty e2, q F H _ (.refl _ _) (.bl _)⟩
  · exact False.elim q
/-! list(x), tuple(x) -/
def fList (ds : List D) : Rf := match ds with
  | [d] => match itemsOf d with
    | some es => .ow (.li es)
    | none => .stuck
  | _ => .stuck
theorem cs_list : CallS K (fun xs H Q => ∃ p ys, xs = [.ref p] ∧ (SqL K H p ys ∨ SqT K H p ys) ∧ ∀ l, H l = none → Q (.ref l) (upd H l (.lst ys))) fList := fun F H xs ds Q s bs q => by
  unfold fList at q
  split at q
  · rename_i d
    obtain ⟨v, rfl, b⟩ := breps_one bs
    cases e : itemsOf d with
    | none => rw [e] at q; exact q.elim
    | some es =>
      rw [e] at q
      rcases itemsOf_cases e with e | e
      · obtain ⟨a, vs, rfl, h1, h2, h3⟩ := b.list s e
        exact ⟨a, vs, rfl, .inl h1, fun l hl => q F H l _ (.refl _ _) hl ⟨vs, rfl, h2, h3⟩⟩
      · obtain ⟨a, vs, rfl, h1, h2, h3⟩ := b.tuple s e
        exact ⟨a, vs, rfl, .inr h1, fun l hl => q F H l _ (.refl _ _) hl ⟨vs, rfl, h2, h3⟩⟩
  · exact False.elim q
/-- tuple(x): of a list a new one of which the object is known -/
def tupD (d : D) : Option D := match lstOf d with
  | some es => some (.ktup es)
  | none => match tupOf d with
    | some _ => some d
    | none => none
def fTup (ds : List D) : Rf := match ds with
  | [d] => ofOpt (tupD d)
  | _ => .stuck
def rTupF (K : PySem.W.Frag) : List V → Hp → VK → Prop := fun xs H Q => ∃ p ys, xs = [.ref p] ∧ ((SqL K H p ys ∧ ∀ l o, H l = none → o.dict = none → Q (.ref l) (upd H l (.frz o (.tup ys)))) ∨ (SqT K H p ys ∧ Q (.ref p) H))
theorem cs_tup : CallS K (rTupF K) fTup := fun F H xs ds Q s bs q => by
  unfold fTup at q
  split at q
  · rename_i d
    obtain ⟨v, rfl, b⟩ := breps_one bs
    unfold tupD at q
    cases e : lstOf d with
    | some es =>
      rw [e] at q
      obtain ⟨a, vs, rfl, h1, h2, h3⟩ := b.list s e
      exact ⟨a, vs, rfl, .inl ⟨h1, fun l o hl ho => q _ _ _ (.new (.refl _ _) hl) (.ktup (.inl ⟨o, upd_same, ho⟩) h2 (h3.mono (same_new (s.free hl))))⟩⟩
    | none =>
      rw [e] at q
      dsimp only at q
      cases e2 : tupOf d with
      | none => rw [e2] at q; exact q.elim
      | some es =>
        rw [e2] at q
        obtain ⟨a, vs, rfl, h1, h2, h3⟩ := b.tuple s e2
        refine ⟨a, vs, rfl, .inr ⟨h1, q F H _ (.refl _ _) ?_⟩⟩
        rcases b with b | ⟨a, ho, o, _, _, _, rfl⟩
        · exact b
        · cases o <;> cases e2
  · exact False.elim q
/-- tuple(x): of a list a plain new one (a key, maybe) -/
def tupDP (d : D) : Option D := match lstOf d with
  | some es => some (.tup es)
  | none => match tupOf d with
    | some _ => some d
    | none => none
def fTupP (ds : List D) : Rf := match ds with
  | [d] => ofOpt (tupDP d)
  | _ => .stuck
theorem cs_tupP : CallS K (fun xs H Q => ∃ p ys, xs = [.ref p] ∧ ((SqL K H p ys ∧ ∀ l, H l = none → Q (.ref l) (upd H l (.tup ys))) ∨ (SqT K H p ys ∧ Q (.ref p) H))) fTupP := fun F H xs ds Q s bs q => by
  unfold fTupP at q
  split at q
  · rename_i d
    obtain ⟨v, rfl, b⟩ := breps_one bs
    unfold tupDP at q
    cases e : lstOf d with
    | some es =>
      rw [e] at q
      obtain ⟨a, vs, rfl, h1, h2, h3⟩ := b.list s e
      exact ⟨a, vs, rfl, .inl ⟨h1, fun l hl => q _ _ _ (.new (.refl _ _) hl) (.tup upd_same h2 (h3.mono (same_new (s.free hl))))⟩⟩
    | none =>
      rw [e] at q
      dsimp only at q
      cases e2 : tupOf d with
      | none => rw [e2] at q; exact q.elim
      | some es =>
        rw [e2] at q
        obtain ⟨a, vs, rfl, h1, h2, h3⟩ := b.tuple s e2
        refine ⟨a, vs, rfl, .inr ⟨h1, q F H _ (.refl _ _) ?_⟩⟩
        rcases b with b | ⟨a, ho, o, _, _, _, rfl⟩
        · exact b
        · cases o <;> cases e2
  · exact False.elim q
/-! numbers -/
theorem BRep.blv {v : V} {b : Bool} (h : BRep K F H v (.bl b)) : v = .bl b := h.bl
def intD (d : D) : Option D := match d with
  | .int i => some (.int i)
  | .bl b => some (.int (if b then 1 else 0))
  | _ => none
def fInt (ds : List D) : Rf := match ds with
  | [d] => ofOpt (intD d)
  | _ => .stuck
theorem cs_int : CallS K (fun xs H Q => (∃ i, xs = [.int i] ∧ Q (.int i) H) ∨ ∃ k, xs = [.bl k] ∧ Q (.int (if k then 1 else 0)) H) fInt := fun F H xs ds Q s bs q => by
  unfold fInt at q
  split at q
  · rename_i d
    obtain ⟨v, rfl, b⟩ := breps_one bs
    cases d with
    | int i => cases b.int; exact .inl ⟨i, rfl, q F H _ (.refl _ _) (.int _)⟩
    | bl i => cases b.bl; exact .inr ⟨i, rfl, q F H _ (.refl _ _) (.int _)⟩
    | _ => exact q.elim
  · exact False.elim q
def fAbs (ds : List D) : Rf := match ds with
  | [.int i] => .fz (.int (if i < 0 then -i else i))
  | _ => .stuck
theorem cs_abs : CallS K (fun xs H Q => ∃ i, xs = [.int i] ∧ Q (.int (if i < 0 then -i else i)) H) fAbs := fun F H xs ds Q s bs q => by
  unfold fAbs at q
  split at q
  · rename_i i
    obtain ⟨v, rfl, b⟩ := breps_one bs
    cases b.int
    exact ⟨i, rfl, q F H _ (.refl _ _) (.int _)⟩
  · exact False.elim q
def fMax2 (ds : List D) : Rf := match ds with
  | [.int i, .int j] => .fz (.int (if j > i then j else i))
  | _ => .stuck
theorem cs_max2 : CallS K (fun xs H Q => ∃ i j, xs = [.int i, .int j] ∧ Q (.int (if j > i then j else i)) H) fMax2 := fun F H xs ds Q s bs q => by
  unfold fMax2 at q
  split at q
  · rename_i i j
    obtain ⟨v, u, rfl, b1, b2⟩ := breps_two bs
    cases b1.int
    cases b2.int
    exact ⟨i, j, rfl, q F H _ (.refl _ _) (.int _)⟩
  · exact False.elim q
def fMin2 (ds : List D) : Rf := match ds with
  | [.int i, .int j] => .fz (.int (if j < i then j else i))
  | _ => .stuck
theorem cs_min2 : CallS K (fun xs H Q => ∃ i j, xs = [.int i, .int j] ∧ Q (.int (if j < i then j else i)) H) fMin2 := fun F H xs ds Q s bs q => by
  unfold fMin2 at q
  split at q
  · rename_i i j
    obtain ⟨v, u, rfl, b1, b2⟩ := breps_two bs
    cases b1.int
    cases b2.int
    exact ⟨i, j, rfl, q F H _ (.refl _ _) (.int _)⟩
  · exact False.elim q
def fStrI (ds : List D) : Rf := match ds with
  | [.int i] => if i.natAbs.log2 < 1920 then .fz (.str (toString i)) else .stuck
  | _ => .stuck
theorem cs_strI : CallS K (fun xs H Q => ∃ i, xs = [.int i] ∧ i.natAbs.log2 < 1920 ∧ Q (.str (toString i)) H) fStrI := fun F H xs ds Q s bs q => by
  unfold fStrI at q
  split at q
  · split at q
    · rename_i h
      obtain ⟨v, rfl, b⟩ := breps_one bs
      cases b.int
      exact ⟨_, rfl, h, q F H _ (.refl _ _) (.str _)⟩
    · exact q.elim
  · exact False.elim q
/-! of lists of ints, of bools -/
def lstInts (d : D) : Option (List Int) := match lstOf d with
  | some ds => intsOf ds
  | none => none
theorem BRep.lints {v : V} {d : D} {ns : List Int} (s : Same F H) (h : BRep K F H v d) (e : lstInts d = some ns) : ∃ a, v = .ref a ∧ SqL K H a (ns.map V.int) := by
  unfold lstInts at e
  cases e1 : lstOf d with
  | none => rw [e1] at e; cases e
  | some ds =>
    rw [e1] at e
    obtain ⟨a, vs, rfl, h1, h2, h3⟩ := h.list s e1
    rw [intsOf_eq e] at h3
    rw [h3.ints_inv] at h1
    exact ⟨a, rfl, h1⟩
def fSum (ds : List D) : Rf := match ds with
  | [d] => match lstInts d with
    | some ns => .fz (.int ns.sum)
    | none => .stuck
  | _ => .stuck
theorem cs_sum : CallS K (rSum K) fSum := fun F H xs ds Q s bs q => by
  unfold fSum at q
  split at q
  · rename_i d
    obtain ⟨v, rfl, b⟩ := breps_one bs
    cases e : lstInts d with
    | none => rw [e] at q; exact q.elim
    | some ns =>
      rw [e] at q
      obtain ⟨a, rfl, h⟩ := b.lints s e
      exact ⟨a, ns, rfl, h, q F H _ (.refl _ _) (.int _)⟩
  · exact False.elim q
def leastI : List Int → Int
  | [] => 0
  | [x] => x
  | x :: y :: r => if leastI (y :: r) < x then leastI (y :: r) else x
theorem leastI_spec : ∀ {ns : List Int}, ns ≠ [] → leastI ns ∈ ns ∧ ∀ y ∈ ns, leastI ns ≤ y
  | [], h => absurd rfl h
  | [x], _ => by simp [leastI]
  | x :: y :: r, _ => by
    obtain ⟨h1, h2⟩ := leastI_spec (ns := y :: r) (by simp)
    unfold leastI
    split
    · rename_i h
      refine ⟨List.mem_cons_of_mem _ h1, fun z hz => ?_⟩
      rcases List.mem_cons.mp hz with e | e
      · omega
      · exact h2 z e
    · rename_i h
      refine ⟨List.mem_cons_self, fun z hz => ?_⟩
      rcases List.mem_cons.mp hz with e | e
      · omega
      · have := h2 z e; omega
theorem least_unique {ns : List Int} {m k : Int} (h1 : m ∈ ns ∧ ∀ y ∈ ns, m ≤ y) (h2 : k ∈ ns ∧ ∀ y ∈ ns, k ≤ y) : m = k := by
  have := h1.2 k h2.1
  have := h2.2 m h1.1
  omega
def fMin (ds : List D) : Rf := match ds with
  | [d] => match lstInts d with
    | some ns => if ns = [] then .stuck else .fz (.int (leastI ns))
    | none => .stuck
  | _ => .stuck
theorem cs_min : CallS K (rMin K) fMin := fun F H xs ds Q s bs q => by
  unfold fMin at q
  split at q
  · rename_i d
    obtain ⟨v, rfl, b⟩ := breps_one bs
    cases e : lstInts d with
    | none => rw [e] at q; exact q.elim
    | some ns =>
      rw [e] at q
      dsimp only at q
      split at q
      · exact q.elim
      · rename_i hn
        obtain ⟨a, rfl, h⟩ := b.lints s e
        refine ⟨a, ns, rfl, h, by cases ns with | nil => exact absurd rfl hn | cons _ _ => simp, fun m h1 h2 => ?_⟩
        rw [least_unique ⟨h1, h2⟩ (leastI_spec hn)]
        exact q F H _ (.refl _ _) (.int _)
  · exact False.elim q
def bolsOf : List D → Option (List Bool)
  | [] => some []
  | .bl i :: ds => (bolsOf ds).map (i :: ·)
  | _ :: _ => none
theorem bolsOf_eq : ∀ {ds : List D} {ns : List Bool}, bolsOf ds = some ns → ds = ns.map .bl
  | [], _, e => by cases e; rfl
  | d :: ds, _, e => by
    unfold bolsOf at e
    split at e
    · rename_i h; cases h
    · rename_i i ds' h
      cases h
      obtain ⟨ns, e1, rfl⟩ := Option.map_eq_some_iff.mp e
      rw [bolsOf_eq e1]; rfl
    · cases e
theorem bolsOf_map : ∀ ns : List Bool, bolsOf (ns.map .bl) = some ns
  | [] => rfl
  | n :: ns => by show (bolsOf (ns.map .bl)).map (n :: ·) = _; rw [bolsOf_map ns]; rfl
theorem Reps.bols_inv : ∀ {vs : List V} {ns : List Bool}, Reps K F vs (ns.map D.bl) → vs = ns.map V.bl
  | _, [], h => by cases h; rfl
  | _, n :: ns, h => by
    cases h with
    | cons a b => cases a; rw [Reps.bols_inv b]; rfl
def lstBols (d : D) : Option (List Bool) := match lstOf d with
  | some ds => bolsOf ds
  | none => none
theorem BRep.lbols {v : V} {d : D} {ns : List Bool} (s : Same F H) (h : BRep K F H v d) (e : lstBols d = some ns) : ∃ a, v = .ref a ∧ SqL K H a (ns.map V.bl) := by
  unfold lstBols at e
  cases e1 : lstOf d with
  | none => rw [e1] at e; cases e
  | some ds =>
    rw [e1] at e
    obtain ⟨a, vs, rfl, h1, h2, h3⟩ := h.list s e1
    rw [bolsOf_eq e] at h3
    rw [h3.bols_inv] at h1
    exact ⟨a, rfl, h1⟩
def fAll (ds : List D) : Rf := match ds with
  | [d] => match lstBols d with
    | some ns => .fz (.bl (ns.all id))
    | none => .stuck
  | _ => .stuck
def fAny (ds : List D) : Rf := match ds with
  | [d] => match lstBols d with
    | some ns => .fz (.bl (ns.any id))
    | none => .stuck
  | _ => .stuck
theorem cs_all : CallS K (rAll K) fAll := fun F H xs ds Q s bs q => by
  unfold fAll at q
  split at q
  · rename_i d
    obtain ⟨v, rfl, b⟩ := breps_one bs
    cases e : lstBols d with
    | none => rw [e] at q; exact q.elim
    | some ns =>
      rw [e] at q
      obtain ⟨a, rfl, h⟩ := b.lbols s e
      exact ⟨a, ns, rfl, h, q F H _ (.refl _ _) (.bl _)⟩
  · exact False.elim q
theorem cs_any : CallS K (rAny K) fAny := fun F H xs ds Q s bs q => by
  unfold fAny at q
  split at q
  · rename_i d
    obtain ⟨v, rfl, b⟩ := breps_one bs
    cases e : lstBols d with
    | none => rw [e] at q; exact q.elim
    | some ns =>
      rw [e] at q
      obtain ⟨a, rfl, h⟩ := b.lbols s e
      exact ⟨a, ns, rfl, h, q F H _ (.refl _ _) (.bl _)⟩
  · exact False.elim q
end
end Pv

set_option Elab.async false
set_option linter.all false
set_option maxRecDepth 100000
namespace Pv
open PySem PySem.Spec PyProof.Rows L2
/-! membership -/
def keyOf : D → Option Key
  | .int i => some (.inl i)
  | .str x => some (.inr x)
  | _ => none
def keysOf : List D → Option (List Key)
  | [] => some []
  | d :: ds => match keyOf d, keysOf ds with
    | some k, some ks => some (k :: ks)
    | _, _ => none
def lookA {κ α : Type} [DecidableEq κ] (kvs : List (κ × α)) (k : κ) : Option α := (kvs.find? fun kv => decide (kv.1 = k)).map (·.2)
def putA {κ α : Type} [DecidableEq κ] (kvs : List (κ × α)) (k : κ) (v : α) : List (κ × α) :=
  if (kvs.any fun kv => decide (kv.1 = k)) = true then kvs.map (fun kv => if kv.1 = k then (kv.1, v) else kv) else kvs ++ [(k, v)]
section
variable {K : PySem.W.Frag} {F H : Hp}
theorem keyOf_rep {v : V} {d : D} {k : Key} (r : Rep K F v d) (e : keyOf d = some k) : v = kV k := by
  cases r with
  | int i => cases e; rfl
  | str x => cases e; rfl
  | _ => cases e
theorem keysOf_reps : ∀ {vs : List V} {ds : List D} {ks : List Key}, Reps K F vs ds → keysOf ds = some ks → vs = ks.map kV
  | _, _, _, .nil, e => by cases e; rfl
  | _, _, _, .cons (d := d) (ds := ds) a b, e => by
    unfold keysOf at e
    cases e1 : keyOf d with
    | none => rw [e1] at e; cases e
    | some k =>
      cases e2 : keysOf ds with
      | none => rw [e1, e2] at e; cases e
      | some ks =>
        rw [e1, e2] at e
        cases e
        rw [keyOf_rep a e1, keysOf_reps b e2]
        rfl
/-- a tuple that is a key -/
theorem keyTup {v : V} {ds : List D} {ks : List Key} (r : Rep K F v (.tup ds)) (e : keysOf ds = some ks) : ∃ b, v = .ref b ∧ F b = some (.tup (ks.map kV)) := by
  cases r with
  | tup h1 h2 h3 =>
    rw [keysOf_reps h3 e] at h1
    exact ⟨_, rfl, h1⟩
theorem BRep.frozen {v : V} {d : D} (h : BRep K F H v d) (hn : ∀ o : Own, d ≠ o.toD) : Rep K F v d := by
  rcases h with h | ⟨a, ho, o, rfl, h1, h2, e⟩
  · exact h
  · exact absurd e (hn o)
theorem look_reps {κ : Type} [DecidableEq κ] : ∀ {kvs : List (κ × V)} {l : List D} (k : κ), Reps K F (kvs.map (·.2)) l → (∀ {v}, valV kvs k = some v → ∃ d, lookA ((kvs.map (·.1)).zip l) k = some d ∧ Rep K F v d) ∧ (valV kvs k = none → lookA ((kvs.map (·.1)).zip l) k = none)
  | [], _, k, h => by
    cases h
    exact ⟨fun e => absurd e (by simp [valV]), fun _ => rfl⟩
  | p :: kvs, l, k, h => by
    rw [List.map_cons] at h
    cases h with
    | @cons _ _ d ds a b =>
      obtain ⟨i1, i2⟩ := look_reps k b
      rw [List.map_cons, List.zip_cons_cons]
      by_cases e : p.1 = k
      · rw [valV_pos e]
        have : lookA ((p.1, d) :: (kvs.map (·.1)).zip ds) k = some d := by simp [lookA, List.find?_cons, e]
        rw [this]
        exact ⟨fun q => by cases q; exact ⟨d, rfl, a⟩, fun q => (nomatch q)⟩
      · rw [valV_neg e]
        have : lookA ((p.1, d) :: (kvs.map (·.1)).zip ds) k = lookA ((kvs.map (·.1)).zip ds) k := by simp [lookA, List.find?_cons, e]
        rw [this]
        exact ⟨i1, i2⟩
/-- what a dict holds -/
def dLook (a b : D) : Option (Option D) := match a with
  | .dk ks l => match keyOf b with
    | some k => some (lookA (ks.zip l) k)
    | none => none
  | .dt ks l => match b with
    | .tup ds => match keysOf ds with
      | some k => some (lookA (ks.zip l) k)
      | none => none
    | _ => none
  | _ => none
def OptR (K : PySem.W.Frag) (F : Hp) : Option V → Option D → Prop
  | some v, some d => Rep K F v d
  | none, none => True
  | _, _ => False
theorem dLook_ok {x y : V} {a b : D} {r : Option D} (s : Same F H) (ra : BRep K F H x a) (rb : BRep K F H y b) (e : dLook a b = some r) : ∃ p o, x = .ref p ∧ DGet H p y o ∧ OptR K F o r := by
  have fin : ∀ {κ : Type} [DecidableEq κ] {kvs : List (κ × V)} {l : List D} (k : κ), Reps K F (kvs.map (·.2)) l → OptR K F (valV kvs k) (lookA ((kvs.map (·.1)).zip l) k) := fun {κ _ kvs l} k h => by
    obtain ⟨h1, h2⟩ := look_reps k h
    cases q : valV kvs k with
    | none => rw [h2 q]; exact True.intro
    | some v =>
      obtain ⟨d, e1, e2⟩ := h1 q
      rw [e1]
      exact e2
  unfold dLook at e
  split at e
  · rename_i ks l
    cases e1 : keyOf b with
    | none => rw [e1] at e; cases e
    | some k =>
      rw [e1] at e
      cases e
      obtain ⟨p, kvs, rfl, h1, h2, h3, h4⟩ := ra.dk s
      subst h3
      have ey : y = kV k := keyOf_rep (rb.up s) e1
      exact ⟨p, valV kvs k, rfl, .inl ⟨kvs, k, h1, ey, rfl⟩, fin k h4⟩
  · rename_i ks l
    split at e
    · rename_i ds
      cases e1 : keysOf ds with
      | none => rw [e1] at e; cases e
      | some k =>
        rw [e1] at e
        cases e
        obtain ⟨p, kvs, rfl, h1, h2, h3, h4⟩ := ra.dt s
        subst h3
        obtain ⟨b, rfl, hb⟩ := keyTup (rb.up s) e1
        exact ⟨p, valV kvs k, rfl, .inr ⟨kvs, k, b, h1, rfl, hb, rfl⟩, fin k h4⟩
    · cases e
  · cases e
def rDGet : R2 := fun x y H Q => ∃ a v, x = .ref a ∧ DGet H a y (some v) ∧ Q v H
def opDGet (a b : D) : Option D := match dLook a b with
  | some (some d) => some d
  | _ => none
theorem os_dget : OpS K rDGet opDGet := fun F H x y a b c Q s ra rb e q => by
  unfold opDGet at e
  cases e1 : dLook a b with
  | none => rw [e1] at e; cases e
  | some r =>
    obtain ⟨p, o, rfl, h1, h2⟩ := dLook_ok s ra rb e1
    rw [e1] at e
    cases r with
    | none => cases e
    | some d =>
      cases e
      cases o with
      | none => exact h2.elim
      | some v => exact ⟨p, v, rfl, h1, q F H v (.refl _ _) h2⟩
/-- x in y -/
def rDInR (neg : Bool) : R2 := fun y x H Q => ∃ a o, x = .ref a ∧ DGet H a y o ∧ Q (.bl (if neg then !o.isSome else o.isSome)) H
def inD (a b : D) : Option Bool := match dLook b a with
  | some r => some r.isSome
  | none => match lstOf b with
    | some ds => match toPy a, toPys ds with
      | some p, some qs => if (SeqAt.shaped p && SeqAt.shaped (.list qs)) = true then some (qs.any fun z => PyData.eqv z p) else none
      | _, _ => none
    | none => none
def opIn (a b : D) : Option D := (inD a b).map .bl
def opNotIn (a b : D) : Option D := (inD a b).map fun x => .bl (!x)
def rInA (K : PySem.W.Frag) : R2 := fun x y H Q => rInD K x y H Q ∨ rDInR false x y H Q
def rNotInA (K : PySem.W.Frag) : R2 := fun x y H Q => rNotInD K x y H Q ∨ rDInR true x y H Q
theorem op_inA {X : Cx} (hu : X.A.units + 65 < cLine) : OpR X (compareOp .In) (rInA X.K) := (op_inD hu).or (by
  intro pins s σ H x y v u Q I rx ry h
  obtain ⟨a, o, rfl, g, q⟩ := h
  cases ry
  exact d_in (by omega) I g rx fun s' I' => ⟨.bl o.isSome, H, I', rfl, q⟩)
theorem op_notInA {X : Cx} (hu : X.A.units + 65 < cLine) : OpR X (compareOp .NotIn) (rNotInA X.K) := (op_notInD hu).or (by
  intro pins s σ H x y v u Q I rx ry h
  obtain ⟨a, o, rfl, g, q⟩ := h
  cases ry
  exact d_notIn (by omega) I g rx fun s' I' => ⟨.bl (!o.isSome), H, I', rfl, q⟩)
theorem inD_cases {x y : V} {a b : D} {r : Bool} (s : Same F H) (ra : BRep K F H x a) (rb : BRep K F H y b) (e : inD a b = some r) : (∃ p o, y = .ref p ∧ DGet H p x o ∧ o.isSome = r) ∨ ∃ d ds, Dp K H x d ∧ Dp K H y (.list ds) ∧ SeqAt.shaped d = true ∧ SeqAt.shaped (.list ds) = true ∧ (ds.any fun z => PyData.eqv z d) = r := by
  unfold inD at e
  cases e1 : dLook b a with
  | some q =>
    rw [e1] at e
    cases e
    obtain ⟨p, o, rfl, h1, h2⟩ := dLook_ok s rb ra e1
    refine .inl ⟨p, o, rfl, h1, ?_⟩
    cases o with
    | none => cases q with | none => rfl | some _ => exact h2.elim
    | some _ => cases q with | none => exact h2.elim | some _ => rfl
  | none =>
    rw [e1] at e
    dsimp only at e
    cases e2 : lstOf b with
    | none => rw [e2] at e; cases e
    | some ds =>
      rw [e2] at e
      dsimp only at e
      cases e3 : toPy a with
      | none => rw [e3] at e; cases e
      | some p =>
        cases e4 : toPys ds with
        | none => rw [e3, e4] at e; cases e
        | some qs =>
          rw [e3, e4] at e
          dsimp only at e
          split at e
          · rename_i h
            rw [Bool.and_eq_true] at h
            cases e
            obtain ⟨p', vs, rfl, h1, h2, h3⟩ := rb.list s e2
            exact .inr ⟨p, qs, ra.dp s e3, .lst h1 ((h3.mono s).dp e4), h.1, h.2, rfl⟩
          · cases e
theorem os_in : OpS K (rInA K) opIn := fun F H x y a b c Q s ra rb e q => by
  unfold opIn at e
  obtain ⟨r, e1, rfl⟩ := Option.map_eq_some_iff.mp e
  rcases inD_cases s ra rb e1 with ⟨p, o, rfl, h1, h2⟩ | ⟨d, ds, h1, h2, h3, h4, h5⟩
  · exact .inr ⟨p, o, rfl, h1, by rw [h2]; exact q F H _ (.refl _ _) (.bl _)⟩
  · exact .inl ⟨d, ds, h1, h2, h3, h4, by rw [h5]; exact q F H _ (.refl _ _) (.bl _)⟩
theorem os_notIn : OpS K (rNotInA K) opNotIn := fun F H x y a b c Q s ra rb e q => by
  unfold opNotIn at e
  obtain ⟨r, e1, rfl⟩ := Option.map_eq_some_iff.mp e
  rcases inD_cases s ra rb e1 with ⟨p, o, rfl, h1, h2⟩ | ⟨d, ds, h1, h2, h3, h4, h5⟩
  · exact .inr ⟨p, o, rfl, h1, by rw [h2]; exact q F H _ (.refl _ _) (.bl _)⟩
  · exact .inl ⟨d, ds, h1, h2, h3, h4, by rw [h5]; exact q F H _ (.refl _ _) (.bl _)⟩
/-! slices -/
def cutD (ds : List D) (lo hi : Option Int) : List D := (ds.drop (HT.sIx ds.length 0 lo)).take (HT.sIx ds.length ds.length hi - HT.sIx ds.length 0 lo)
theorem Reps.cut {vs : List V} {ds : List D} (r : Reps K F vs ds) (lo hi : Option Int) : Reps K F (cutV vs lo hi) (cutD ds lo hi) := by
  unfold cutV cutD
  rw [r.length]
  exact (r.drop _).take _
/-- a slice of a list (new), of a tuple: the whole is itself; kn: the new object is known -/
def opSl (kn : Bool) (d : D) (lo hi : Option Int) : Option D := match lstOf d with
  | some ds => some (.lst (cutD ds lo hi))
  | none => match tupOf d with
    | some ds => if HT.sIx ds.length 0 lo = 0 ∧ HT.sIx ds.length ds.length hi = ds.length then some d else some (if kn then .ktup (cutD ds lo hi) else .tup (cutD ds lo hi))
    | none => none
def SlS (K : PySem.W.Frag) (r : V → Option Int → Option Int → Hp → VK → Prop) (op : D → Option Int → Option Int → Option D) : Prop :=
  ∀ F H x a lo hi c Q, Same F H → BRep K F H x a → op a lo hi = some c → (∀ F' H' v, Grow F H F' H' → Rep K F' v c → Q v H') → r x lo hi H Q
def rSlAF (K : PySem.W.Frag) (x : V) (lo hi : Option Int) (H : Hp) (Q : VK) : Prop := rSlL K x lo hi H Q ∨ rSlF K x lo hi H Q
def rSlAP (K : PySem.W.Frag) (x : V) (lo hi : Option Int) (H : Hp) (Q : VK) : Prop := rSlL K x lo hi H Q ∨ rSlA K x lo hi H Q
theorem sl_AF {X : Cx} : SlR X (rSlAF X.K) := sl_list.or sl_tupF
theorem sl_AP {X : Cx} : SlR X (rSlAP X.K) := sl_list.or sl_tupA
theorem tup_rep {v : V} {d : D} {ds : List D} (h : BRep K F H v d) (e : tupOf d = some ds) : Rep K F v d := by
  rcases h with h | ⟨a, ho, o, _, _, _, rfl⟩
  · exact h
  · cases o <;> cases e
theorem ss_AF : SlS K (rSlAF K) (opSl true) := fun F H x a lo hi c Q s ra e q => by
  unfold opSl at e
  cases e1 : lstOf a with
  | some ds =>
    rw [e1] at e
    cases e
    obtain ⟨p, vs, rfl, h1, h2, h3⟩ := ra.list s e1
    exact .inl ⟨p, vs, rfl, h1, fun r hr => q _ _ _ (.new (.refl _ _) hr) (.lst upd_same (Nat.le_trans (cutV_length vs lo hi) h2) ((h3.cut lo hi).mono (same_new (s.free hr))))⟩
  | none =>
    rw [e1] at e
    dsimp only at e
    cases e2 : tupOf a with
    | none => rw [e2] at e; cases e
    | some ds =>
      rw [e2] at e
      obtain ⟨p, vs, rfl, h1, h2, h3⟩ := ra.tuple s e2
      refine .inr ⟨p, vs, rfl, h1, fun hw => ?_, fun hw r o hr ho => ?_⟩
      · rw [h3.length] at hw
        dsimp only at e
        rw [if_pos hw] at e
        cases e
        exact q F H _ (.refl _ _) (tup_rep ra e2)
      · rw [h3.length] at hw
        dsimp only at e
        rw [if_neg hw] at e
        cases e
        exact q _ _ _ (.new (.refl _ _) hr) (.ktup (.inl ⟨o, upd_same, ho⟩) (Nat.le_trans (cutV_length vs lo hi) h2) ((h3.cut lo hi).mono (same_new (s.free hr))))
theorem ss_AP : SlS K (rSlAP K) (opSl false) := fun F H x a lo hi c Q s ra e q => by
  unfold opSl at e
  cases e1 : lstOf a with
  | some ds =>
    rw [e1] at e
    cases e
    obtain ⟨p, vs, rfl, h1, h2, h3⟩ := ra.list s e1
    exact .inl ⟨p, vs, rfl, h1, fun r hr => q _ _ _ (.new (.refl _ _) hr) (.lst upd_same (Nat.le_trans (cutV_length vs lo hi) h2) ((h3.cut lo hi).mono (same_new (s.free hr))))⟩
  | none =>
    rw [e1] at e
    dsimp only at e
    cases e2 : tupOf a with
    | none => rw [e2] at e; cases e
    | some ds =>
      rw [e2] at e
      obtain ⟨p, vs, rfl, h1, h2, h3⟩ := ra.tuple s e2
      refine .inr ⟨p, vs, rfl, h1, fun hw => ?_, fun hw r hr => ?_⟩
      · rw [h3.length] at hw
        dsimp only at e
        rw [if_pos hw] at e
        cases e
        exact q F H _ (.refl _ _) (tup_rep ra e2)
      · rw [h3.length] at hw
        dsimp only at e
        rw [if_neg hw] at e
        cases e
        exact q _ _ _ (.new (.refl _ _) hr) (.tup upd_same (Nat.le_trans (cutV_length vs lo hi) h2) ((h3.cut lo hi).mono (same_new (s.free hr))))
end
/-- a slice's part -/
def pNo : Envi → R (Option Int) := fun ρ => .ok none ρ
def pSome (f : Envi → R Hd) : Envi → R (Option Int) := fun ρ => (f ρ).frz.bind fun h ρ1 => match deref ρ1 h with
  | some (.int i) => .ok (some i) ρ1
  | _ => .stuck
def eSl (op : D → Option Int → Option Int → Option D) (f : Envi → R Hd) (lo hi : Envi → R (Option Int)) : Envi → R Hd := fun ρ => (f ρ).frz.bind fun h ρ1 => (lo ρ1).bind fun l ρ2 => (hi ρ2).bind fun u ρ3 => match deref ρ3 h with
  | some d => opt1 ρ3 (op d l u)
  | none => .stuck
section
variable {P : Pr} {m : Bool} {W : WX} {te ta tb : TE} {f g : Envi → R Hd}
def SndO (P : Pr) (m : Bool) (W : WX) (to : TO) (f : Envi → R (Option Int)) : Prop :=
  ∀ B F0 F H σ ob ρ Q, Wf P B F0 F H σ ob ρ → Post P B F0 F σ ob m W (fun B' _ _ (v : Option Int) d => B' = B ∧ v = d) Q (f ρ) → to σ H Q
theorem snd_pno : SndO P m W tNoPart pNo := fun B F0 F H σ ob ρ Q w q => q B F H ob none w (Same.refl _) (fun _ => rfl) ⟨rfl, rfl⟩
theorem snd_psome (h : SndE P m W te f) : SndO P m W (tPart te) (pSome f) := fun B F0 F H σ ob ρ Q w q => by
  refine h.frz B F0 F H σ ob ρ _ w (Post.of_bind q ?_)
  rintro k ρ2 B' F2 H2 ob2 y w2 s2 i2 ⟨rfl, r2⟩ q
  cases d1 : deref ρ2 k with
  | none => simp only [d1] at q; exact q.elim
  | some a =>
    have x := w2.deref r2 d1
    simp only [d1] at q
    cases a with
    | int i => exact ⟨i, x.int, q _ F2 H2 ob2 (some i) w2 s2 i2 ⟨rfl, rfl⟩⟩
    | _ => exact q.elim
theorem snd_sl {r : V → Option Int → Option Int → Hp → VK → Prop} {op : D → Option Int → Option Int → Option D} {tl th : TO} {lo hi : Envi → R (Option Int)} (ho : SlS P.K r op) (ha : SndE P false W te f) (hl : SndO P false W tl lo) (hh : SndO P false W th hi) : SndE P m W (tSl r te tl th) (eSl op f lo hi) := by
  refine SndE.up fun B F0 F H σ ob ρ Q w q => ?_
  refine ha.frz B F0 F H σ ob ρ _ w (Post.of_bind q ?_)
  rintro k ρ2 B' F2 H2 ob2 y w2 s2 i2 ⟨rfl, r2⟩ q
  refine hl _ F0 F2 H2 σ ob2 ρ2 _ w2 (Post.of_bind (q.shift s2 i2) ?_)
  rintro l ρ3 B' F3 H3 ob3 z w3 s3 i3 ⟨rfl, rfl⟩ q
  refine hh _ F0 F3 H3 σ ob3 ρ3 _ w3 (Post.of_bind (q.shift s3 i3) ?_)
  rintro u ρ4 B' F4 H4 ob4 z2 w4 s4 i4 ⟨rfl, rfl⟩ q
  have r4 := r2.mono (s3.trans s4) ((i4 rfl).trans (i3 rfl))
  cases d1 : deref ρ4 k with
  | none => simp only [d1] at q; exact q.elim
  | some a =>
    simp only [d1] at q
    have q := q.shift (Same.refl _) (fun _ => rfl)
    exact opt_post (r := fun Q => r y z z2 H4 Q) w4 s4 i4 q fun c e hq => ho F4 H4 y a z z2 c Q w4.fh (w4.deref r4 d1) e hq
end
end Pv

set_option Elab.async false
set_option linter.all false
set_option maxRecDepth 100000
namespace Pv
open PySem PySem.Spec PyProof.Rows L2
/-! places that are changed -/
def SndP (P : Pr) (te : TE) (k : Nat) (ok : Envi → Bool) : Prop :=
  ∀ B F0 F H σ ob ρ Q v, Wf P B F0 F H σ ob ρ → ok ρ = true → (tau σ ob)[k]? = some (some v) → Q v H → te σ H Q
def okT : Envi → Bool := fun _ => true
def ownTy : Own → String
  | .li _ => "list"
  | _ => "dict"
def MutS (K : PySem.W.Frag) (r : V → List V → Hp → VK → Prop) (mu : Own → List D → Option (D × Own)) : Prop :=
  ∀ F H a ho o vs ds d o' Q, Same F H → H a = some ho → F a = none → OwnR K F ho o → Reps K F vs ds → mu o ds = some (d, o') → (∀ ho' v, OwnR K F ho' o' → Rep K F v d → Q v (upd H a ho')) → r (.ref a) vs H Q
def mutEnd (k : Nat) (mu : Own → List D → Option (D × Own)) (ρ : Envi) (ds : List D) : R Hd := match ρ[k]? with
  | some (.ow o) => match mu o ds with
    | some (d, o') => .ok (.dat d) (ρ.set k (.ow o'))
    | none => .stuck
  | _ => .stuck
def isTy (T : String) (ρ : Envi) (k : Nat) : Bool := match ρ[k]? with
  | some (.ow o) => ownTy o == T
  | _ => false
def eMut (k : Nat) (ok : Envi → Bool) (T : String) (mu : Own → List D → Option (D × Own)) (fa : Envi → R (List Hd)) : Envi → R Hd := fun ρ =>
  if (ok ρ && isTy T ρ k) = true then (fa ρ).bind fun hs ρ1 => match matAll ρ1 hs with
    | some (ds, ρ2) => mutEnd k mu ρ2 ds
    | none => .stuck
  else .stuck
section
variable {P : Pr} {m : Bool} {W : WX} {te ta tb to : TE} {f g : Envi → R Hd} {n : Nat} {fa : Envi → R (List Hd)} {tr : TA} {B F0 F H : Hp} {σ : L2.St} {ob : Ob} {ρ : Envi}
theorem sp_var {k : Nat} (hk : k < P.n) : SndP P (tVar k) k okT := fun B F0 F H σ ob ρ Q v w _ e q => by
  rw [tau_lt (by rw [w.n]; exact hk)] at e
  exact ⟨v, e, q⟩
theorem own_tyV {K : PySem.W.Frag} {ho : HO} {a : Addr} : ∀ {o : Own}, OwnR K F ho o → H a = some ho → tyV K (ownTy o) (.ref a) H
  | .li _, ⟨vs, h1, h2, h3⟩, h => by subst h1; exact .inl ⟨rfl, vs, .inl (.inl h)⟩
  | .di _, ⟨vs, h1, h2, h3⟩, h => by subst h1; exact .inr (.inr (.inl ⟨rfl, .inl ⟨vs, h⟩⟩))
  | .ti _, ⟨vs, h1, h2, h3⟩, h => by subst h1; exact .inr (.inr (.inl ⟨rfl, .inr ⟨vs, h⟩⟩))
theorem isTy_own {T : String} {k : Nat} (h : isTy T ρ k = true) : ∃ o, ρ[k]? = some (.ow o) ∧ ownTy o = T := by
  unfold isTy at h
  split at h
  · rename_i o e
    exact ⟨o, e, by simpa using h⟩
  · cases h
/-- the value at a place stays -/
theorem tau_keep {ob' : Ob} {k : Nat} {v : V} {F2 H2 : Hp} {ρ2 : Envi} (w : Wf P B F0 F H σ ob ρ) (hk : m = false ∨ k < P.n) (i : m = false → ob' = ob) (e : (tau σ ob)[k]? = some (some v)) : (tau σ ob')[k]? = some (some v) := by
  rcases hk with h | h
  · rw [i h]; exact e
  · have hl : k < σ.length := by rw [w.n]; exact h
    rw [tau_lt hl] at e ⊢
    exact e
theorem mut_end {k : Nat} {r : V → List V → Hp → VK → Prop} {mu : Own → List D → Option (D × Own)} {v : V} {vs : List V} {ds : List D} {Q : VK} {F1 : Hp} {ob1 : Ob} {α : Type} (hm : MutS P.K r mu) (w : Wf P B F0 F H σ ob ρ) (s : Same F1 F) (i : m = false → ob = ob1) (ev : (tau σ ob)[k]? = some (some v)) (rs : Reps P.K F vs ds)
    (q : Post P B F0 F1 σ ob1 m W (RelE P B σ) Q (mutEnd k mu ρ ds)) : r v vs H Q := by
  unfold mutEnd at q
  cases e : ρ[k]? with
  | none => rw [e] at q; exact q.elim
  | some sl =>
    rw [e] at q
    cases sl with
    | ow o =>
      dsimp only at q
      cases e2 : mu o ds with
      | none => rw [e2] at q; exact q.elim
      | some x =>
        obtain ⟨d, o'⟩ := x
        rw [e2] at q
        obtain ⟨a, ho, h1, h2, h3, h4, h5, h6, h7⟩ := w.owned e
        rw [ev] at h1
        cases h1
        exact hm F H a ho o vs ds d o' Q w.fh h2 h4 h3 rs e2 fun ho' u r1 r2 => q B F (upd H a ho') ob u (h6 ho' o' r1) s i ⟨rfl, r2⟩
    | _ => exact q.elim
theorem snd_mut {k : Nat} {ok : Envi → Bool} {T : String} {r : V → List V → Hp → VK → Prop} {mu : Own → List D → Option (D × Own)} (hp : SndP P to k ok) (hm : MutS P.K r mu) (ha : SndA P m W n tr fa) (hk : m = false ∨ k < P.n) : SndE P m W (tBM P.K T r to tr) (eMut k ok T mu fa) := fun B F0 F H σ ob ρ Q w q => by
  unfold eMut at q
  split at q
  · rename_i hc
    rw [Bool.and_eq_true] at hc
    obtain ⟨o, e, et⟩ := isTy_own hc.2
    obtain ⟨a, ho, h1, h2, h3, h4, h5, h6, h7⟩ := w.owned e
    refine hp B F0 F H σ ob ρ _ _ w hc.1 h1 ⟨by rw [← et]; exact own_tyV h3 h2, ?_⟩
    refine ha B F0 F H σ ob ρ _ w (Post.of_bind (k := fun hs ρ1 => match matAll ρ1 hs with | some (ds, ρ2) => mutEnd k mu ρ2 ds | none => R.stuck) q ?_)
    rintro hs ρ2 B' F2 H2 ob2 ys w2 s2 i2 ⟨⟨rfl, r2⟩, hl⟩ q
    cases e2 : matAll ρ2 hs with
    | none => rw [e2] at q; exact q.elim
    | some x =>
      obtain ⟨ds, ρ3⟩ := x
      rw [e2] at q
      obtain ⟨F3, w3, s3, r3⟩ := w2.matAll r2 e2
      exact mut_end (α := Nat) hm w3 (s2.trans s3) i2 (tau_keep (F2 := F) (H2 := H) (ρ2 := ρ) w hk i2 h1) r3 q
  · exact q.elim
def eMut0 (k : Nat) (ok : Envi → Bool) (T : String) (mu : Own → List D → Option (D × Own)) : Envi → R Hd := fun ρ => if (ok ρ && isTy T ρ k) = true then mutEnd k mu ρ [] else .stuck
theorem snd_mut0 {k : Nat} {ok : Envi → Bool} {T : String} {r : V → List V → Hp → VK → Prop} {mu : Own → List D → Option (D × Own)} (hp : SndP P to k ok) (hm : MutS P.K r mu) : SndE P m W (tBM0 P.K T r to) (eMut0 k ok T mu) := fun B F0 F H σ ob ρ Q w q => by
  unfold eMut0 at q
  split at q
  · rename_i hc
    rw [Bool.and_eq_true] at hc
    obtain ⟨o, e, et⟩ := isTy_own hc.2
    obtain ⟨a, ho, h1, h2, h3, h4, h5, h6, h7⟩ := w.owned e
    refine hp B F0 F H σ ob ρ _ _ w hc.1 h1 ⟨by rw [← et]; exact own_tyV h3 h2, ?_⟩
    exact mut_end (α := Nat) hm w (Same.refl _) (fun _ => rfl) h1 .nil q
  · exact q.elim
/-! the mutators -/
def muAppend (o : Own) (ds : List D) : Option (D × Own) := match o, ds with
  | .li l, [d] => if l.length < big then some (.non, .li (l ++ [d])) else none
  | _, _ => none
theorem ms_append {K : PySem.W.Frag} : MutS K rAppend muAppend := fun F H a ho o vs ds d o' Q s h1 h2 h3 rs e q => by
  unfold muAppend at e
  split at e
  · rename_i l x
    split at e
    · rename_i hl
      cases e
      obtain ⟨us, rfl, h4, h5⟩ := h3
      cases rs with
      | cons r1 r2 =>
        cases r2
        have := h5.length
        exact ⟨a, us, _, rfl, rfl, h1, by rw [← big_line]; omega, q _ .non ⟨_, rfl, by rw [List.length_append, ← big_line]; show us.length + 1 ≤ big; omega, h5.append (.cons r1 .nil)⟩ .non⟩
    · cases e
  · cases e
def muExtend (o : Own) (ds : List D) : Option (D × Own) := match o, ds with
  | .li l, [.lst x] => if l.length + x.length ≤ big then some (.non, .li (l ++ x)) else none
  | _, _ => none
theorem ms_extend {K : PySem.W.Frag} : MutS K rExtend muExtend := fun F H a ho o vs ds d o' Q s h1 h2 h3 rs e q => by
  unfold muExtend at e
  split at e
  · rename_i l x
    split at e
    · rename_i hl
      cases e
      obtain ⟨us, rfl, h4, h5⟩ := h3
      cases rs with
      | cons r1 r2 =>
        cases r2
        cases r1 with
        | @lst b zs _ g1 g2 g3 =>
          have := h5.length
          have := g3.length
          exact ⟨a, b, us, zs, rfl, rfl, h1, s _ _ g1, by rw [← big_line]; omega, q _ .non ⟨_, rfl, by rw [List.length_append, ← big_line]; omega, h5.append g3⟩ .non⟩
    · cases e
  · cases e
def muPop (o : Own) (ds : List D) : Option (D × Own) := match o, ds with
  | .li l, [] => match l[l.length - 1]? with
    | some d => some (d, .li l.dropLast)
    | none => none
  | _, _ => none
theorem ms_pop {K : PySem.W.Frag} : MutS K rPop muPop := fun F H a ho o vs ds d o' Q s h1 h2 h3 rs e q => by
  unfold muPop at e
  split at e
  · rename_i l
    cases e1 : l[l.length - 1]? with
    | none => rw [e1] at e; cases e
    | some x =>
      rw [e1] at e
      cases e
      obtain ⟨us, rfl, h4, h5⟩ := h3
      cases rs
      obtain ⟨v, e2, r⟩ := h5.get e1
      rw [← h5.length] at e2
      exact ⟨a, us, v, rfl, rfl, h1, e2, q _ v ⟨_, rfl, by rw [List.length_dropLast]; omega, h5.dropLast⟩ r⟩
  · cases e
def muPopAt (o : Own) (ds : List D) : Option (D × Own) := match o, ds with
  | .li l, [.int i] => if 0 ≤ i ∧ i < l.length ∧ l.length ≤ big then match l[i.toNat]? with
      | some d => some (d, .li (l.eraseIdx i.toNat))
      | none => none
    else none
  | _, _ => none
theorem ms_popAt {K : PySem.W.Frag} : MutS K rPopAt muPopAt := fun F H a ho o vs ds d o' Q s h1 h2 h3 rs e q => by
  unfold muPopAt at e
  split at e
  · rename_i l i
    split at e
    · rename_i hi
      cases e1 : l[i.toNat]? with
      | none => rw [e1] at e; cases e
      | some x =>
        rw [e1] at e
        cases e
        obtain ⟨us, rfl, h4, h5⟩ := h3
        cases rs with
        | cons r1 r2 =>
          cases r2
          cases r1
          obtain ⟨v, e2, r⟩ := h5.get e1
          have := h5.length
          have hb : big = 16777216 := rfl
          have ix : ixN us.length i = some i.toNat := by
            unfold ixN
            rw [if_pos hi.1, if_pos (by omega)]
          exact ⟨a, us, i, i.toNat, v, rfl, rfl, h1, by omega, by omega, (ixN_seq ix).1, e2, q _ v ⟨_, rfl, Nat.le_trans (len_erase us i.toNat) h4, h5.eraseIdx _⟩ r⟩
    · cases e
  · cases e
/-! methods that look -/
def MethS (K : PySem.W.Frag) (r : V → List V → Hp → VK → Prop) (op : D → List D → Option D) : Prop :=
  ∀ F H x a xs ds c Q, Same F H → BRep K F H x a → BReps K F H xs ds → op a ds = some c → (∀ F' H' v, Grow F H F' H' → Rep K F' v c → Q v H') → r x xs H Q
def tyD (T : String) (d : D) : Bool := match d with
  | .lst _ => T == "list"
  | .klst _ => T == "list"
  | .str _ => T == "str"
  | _ => false
theorem tyD_V {K : PySem.W.Frag} {T : String} {v : V} {d : D} (s : Same F H) (b : BRep K F H v d) (h : tyD T d = true) : tyV K T v H := by
  unfold tyD at h
  split at h
  · obtain ⟨a, vs, rfl, h1, _, _⟩ := b.list s rfl
    exact .inl ⟨by simpa using h, vs, h1⟩
  · obtain ⟨a, vs, rfl, h1, _, _⟩ := b.list s rfl
    exact .inl ⟨by simpa using h, vs, h1⟩
  · cases b.str
    exact (by simpa using h : T = "str")
  · cases h
def lookEnd (op : D → List D → Option D) (ρ : Envi) (h : Hd) (hs : List Hd) : R Hd := match deref ρ h, derefAll ρ hs with
  | some a, some ds => opt1 ρ (op a ds)
  | _, _ => .stuck
def chk (c : D → Bool) (ρ : Envi) (h : Hd) : Bool := match deref ρ h with
  | some d => c d
  | none => false
def eMeth (c : D → Bool) (op : D → List D → Option D) (f : Envi → R Hd) (fa : Envi → R (List Hd)) : Envi → R Hd := fun ρ => (f ρ).frz.bind fun h ρ1 => if chk c ρ1 h = true then (fa ρ1).bind fun hs ρ2 => lookEnd op ρ2 h hs else .stuck
theorem chk_some {c : D → Bool} {h : Hd} (e : chk c ρ h = true) : ∃ d, deref ρ h = some d ∧ c d = true := by
  unfold chk at e
  cases q : deref ρ h with
  | none => rw [q] at e; cases e
  | some d => rw [q] at e; exact ⟨d, rfl, e⟩
theorem snd_bm {T : String} {r : V → List V → Hp → VK → Prop} {op : D → List D → Option D} (hm : MethS P.K r op) (ho : SndE P false W to f) (ha : SndA P false W n tr fa) : SndE P m W (tBM P.K T r to tr) (eMeth (tyD T) op f fa) := by
  refine SndE.up fun B F0 F H σ ob ρ Q w q => ?_
  refine ho.frz B F0 F H σ ob ρ _ w (Post.of_bind q ?_)
  rintro k ρ2 B' F2 H2 ob2 y w2 s2 i2 ⟨rfl, r2⟩ q
  split at q
  · rename_i hc
    obtain ⟨d, e1, e2⟩ := chk_some hc
    refine ⟨tyD_V w2.fh (w2.deref r2 e1) e2, ?_⟩
    refine ha _ F0 F2 H2 σ ob2 ρ2 _ w2 (Post.of_bind (q.shift s2 i2) ?_)
    rintro hs ρ3 B' F3 H3 ob3 ys w3 s3 i3 ⟨⟨rfl, r3⟩, hl⟩ q
    have r2' := r2.mono s3 (i3 rfl)
    unfold lookEnd at q
    cases d1 : deref ρ3 k with
    | none => rw [d1] at q; exact q.elim
    | some a =>
      cases d2 : derefAll ρ3 hs with
      | none => rw [d1, d2] at q; exact q.elim
      | some ds =>
        rw [d1, d2] at q
        exact opt_post (r := fun Q => r y ys H3 Q) w3 s3 i3 q fun c e hq => hm F3 H3 y a ys ds c Q w3.fh (w3.deref r2' d1) (w3.derefAll r3 d2) e hq
  · exact q.elim
def isKT : D → Bool
  | .ktup _ => true
  | _ => false
theorem snd_tm {r : V → List V → Hp → VK → Prop} {op : D → List D → Option D} (hm : MethS P.K r op) (ho : SndE P false W to f) (ha : SndA P false W n tr fa) : SndE P m W (tTM P.K r to tr) (eMeth isKT op f fa) := by
  refine SndE.up fun B F0 F H σ ob ρ Q w q => ?_
  refine ho.frz B F0 F H σ ob ρ _ w (Post.of_bind q ?_)
  rintro k ρ2 B' F2 H2 ob2 y w2 s2 i2 ⟨rfl, r2⟩ q
  split at q
  · rename_i hc
    obtain ⟨d, e1, e2⟩ := chk_some hc
    refine ⟨?_, ?_⟩
    · cases d with
      | ktup l =>
        have b := w2.deref r2 e1
        have b := tup_rep b (ds := l) rfl
        cases b with
        | ktup h1 h2 h3 => exact ⟨_, _, rfl, h1.mono w2.fh⟩
      | _ => cases e2
    refine ha _ F0 F2 H2 σ ob2 ρ2 _ w2 (Post.of_bind (q.shift s2 i2) ?_)
    rintro hs ρ3 B' F3 H3 ob3 ys w3 s3 i3 ⟨⟨rfl, r3⟩, hl⟩ q
    have r2' := r2.mono s3 (i3 rfl)
    unfold lookEnd at q
    cases d1 : deref ρ3 k with
    | none => rw [d1] at q; exact q.elim
    | some a =>
      cases d2 : derefAll ρ3 hs with
      | none => rw [d1, d2] at q; exact q.elim
      | some ds =>
        rw [d1, d2] at q
        exact opt_post (r := fun Q => r y ys H3 Q) w3 s3 i3 q fun c e hq => hm F3 H3 y a ys ds c Q w3.fh (w3.deref r2' d1) (w3.derefAll r3 d2) e hq
  · exact q.elim
/-- the first place of an equal one -/
def firstIx (p : PyData) : List PyData → Option Nat
  | [] => none
  | q :: qs => if PyData.eqv q p = true then some 0 else (firstIx p qs).map (· + 1)
theorem firstIx_spec {p : PyData} : ∀ {qs : List PyData} {j : Nat}, firstIx p qs = some j → ∃ z, qs[j]? = some z ∧ PyData.eqv z p = true ∧ ∀ (m : Nat) (z' : PyData), m < j → qs[m]? = some z' → PyData.eqv z' p = false
  | [], _, e => by cases e
  | q :: qs, j, e => by
    unfold firstIx at e
    split at e
    · rename_i h
      cases e
      exact ⟨q, rfl, h, fun m z' hm => by omega⟩
    · rename_i h
      obtain ⟨k, e1, rfl⟩ := Option.map_eq_some_iff.mp e
      obtain ⟨z, h1, h2, h3⟩ := firstIx_spec e1
      refine ⟨z, by simpa using h1, h2, fun m z' hm hz => ?_⟩
      cases m with
      | zero => simp at hz; subst hz; simpa using h
      | succ m => exact h3 m z' (by omega) (by simpa using hz)
def ixD (l : List D) (d : D) (wrap : List PyData → PyData) : Option D := match toPy d, toPys l with
  | some p, some qs => if (SeqAt.shaped p && SeqAt.shaped (wrap qs)) = true then (firstIx p qs).map fun j => .int (j : Nat) else none
  | _, _ => none
def opIndexL (a : D) (ds : List D) : Option D := match lstOf a, ds with
  | some l, [d] => ixD l d .list
  | _, _ => none
def opIndexT (a : D) (ds : List D) : Option D := match tupOf a, ds with
  | some l, [d] => ixD l d .tuple
  | _, _ => none
theorem ixD_some {l : List D} {d c : D} {wrap : List PyData → PyData} (e : ixD l d wrap = some c) : ∃ p qs j, toPy d = some p ∧ toPys l = some qs ∧ SeqAt.shaped p = true ∧ SeqAt.shaped (wrap qs) = true ∧ firstIx p qs = some j ∧ c = .int (j : Nat) := by
  unfold ixD at e
  cases e1 : toPy d with
  | none => rw [e1] at e; cases e
  | some p =>
    cases e2 : toPys l with
    | none => rw [e1, e2] at e; cases e
    | some qs =>
      rw [e1, e2] at e
      dsimp only at e
      split at e
      · rename_i h
        rw [Bool.and_eq_true] at h
        obtain ⟨j, e3, rfl⟩ := Option.map_eq_some_iff.mp e
        exact ⟨p, qs, j, rfl, rfl, h.1, h.2, e3, rfl⟩
      · cases e
theorem mh_indexL {K : PySem.W.Frag} : MethS K (rIndexD K) opIndexL := fun F H x a xs ds c Q s b bs e q => by
  unfold opIndexL at e
  split at e
  · rename_i l d e1
    obtain ⟨p, qs, j, f1, f2, f3, f4, f5, rfl⟩ := ixD_some e
    obtain ⟨v, rfl, b1⟩ := breps_one bs
    obtain ⟨z, g1, g2, g3⟩ := firstIx_spec f5
    obtain ⟨ad, vs, rfl, h1, h2, h3⟩ := b.list s e1
    exact ⟨ad, v, p, qs, j, z, rfl, rfl, .lst h1 ((h3.mono s).dp f2), b1.dp s f1, f4, f3, g1, g2, g3, q F H _ (.refl _ _) (.int _)⟩
  · cases e
theorem mh_indexT {K : PySem.W.Frag} : MethS K (rIndexT K) opIndexT := fun F H x a xs ds c Q s b bs e q => by
  unfold opIndexT at e
  split at e
  · rename_i l d e1
    obtain ⟨p, qs, j, f1, f2, f3, f4, f5, rfl⟩ := ixD_some e
    obtain ⟨v, rfl, b1⟩ := breps_one bs
    obtain ⟨z, g1, g2, g3⟩ := firstIx_spec f5
    obtain ⟨ad, vs, rfl, h1, h2, h3⟩ := b.tuple s e1
    exact ⟨ad, v, p, qs, j, z, rfl, rfl, .tup h1 ((h3.mono s).dp f2), b1.dp s f1, f4, f3, g1, g2, g3, q F H _ (.refl _ _) (.int _)⟩
  · cases e
def opCountL (a : D) (ds : List D) : Option D := match lstOf a, ds with
  | some l, [d] => match toPy d, toPys l with
    | some p, some qs => if (SeqAt.shaped p && SeqAt.shaped (.list qs)) = true then some (.int ((qs.countP fun z => PyData.eqv z p) : Nat)) else none
    | _, _ => none
  | _, _ => none
theorem mh_countL {K : PySem.W.Frag} : MethS K (rCountD K) opCountL := fun F H x a xs ds c Q s b bs e q => by
  unfold opCountL at e
  split at e
  · rename_i l d e0
    cases e1 : toPy d with
    | none => rw [e1] at e; cases e
    | some p =>
      cases e2 : toPys l with
      | none => rw [e1, e2] at e; cases e
      | some qs =>
        rw [e1, e2] at e
        dsimp only at e
        split at e
        · rename_i h
          rw [Bool.and_eq_true] at h
          cases e
          obtain ⟨v, rfl, b1⟩ := breps_one bs
          obtain ⟨ad, vs, rfl, h1, h2, h3⟩ := b.list s e0
          exact ⟨ad, v, p, qs, rfl, rfl, .lst h1 ((h3.mono s).dp e2), b1.dp s e1, h.2, h.1, q F H _ (.refl _ _) (.int _)⟩
        · cases e
  · cases e
end
end Pv

set_option Elab.async false
set_option linter.all false
set_option maxRecDepth 100000
namespace Pv
open PySem PySem.Spec PyProof.Rows L2
open PySem.AutoSeq1 (wpAny_loadPart')
/-! enumerate over a tuple -/
theorem meets_enum_tup (l : Addr) (items : Array Value) (n : Nat) (dct : Option Addr) (sl : Array (Option Value)) :
    Meets (Builtin.«enumerate.__new__» ⟨[.type "enumerate", .ref l], []⟩) (fun _ R s => s.heap.get? l = some { cls := .type "tuple", dict := dct, data := .seq items n, slots := sl } ∧
      R (.ok (.ret (.ref (s.heap.push { cls := .type "tuple_iterator", data := .fields #[.ref l, .int 0 0] }).objs.size)))
        { s with heap := (s.heap.push { cls := .type "tuple_iterator", data := .fields #[.ref l, .int 0 0] }).push { cls := .type "enumerate", data := .fields #[.none, .bool false, .ref s.heap.objs.size, rawInt 0, .none, .none] } }) :=
  .of_wp fun prog w A R s h => by
    obtain ⟨hp, g, d, tk, os⟩ := s; obtain ⟨hl, h⟩ := h
    have hsub := sub_enumerate
    have hL : Heap.IsTuple (Shared.heap ⟨hp, g, d, tk, os⟩) l items := ⟨_, hl, rfl, n, rfl⟩
    wp_walk using wpAny_loadPart' hl
    refine wpAny_stack_any fun st => wpAny_pure ?_
    split
    · rename_i c _ _ _ _ _
      cases (c == Value.type "enumerate")
      · wp_walk using wpAny_loadPart' hl, wpAny_pyIter_tuple hL
        exact ⟨_, rfl, h⟩
      · wp_walk using wpAny_loadPart' hl, wpAny_pyIter_tuple hL
        exact ⟨_, rfl, h⟩
    · wp_walk using wpAny_loadPart' hl, wpAny_pyIter_tuple hL
      exact ⟨_, rfl, h⟩
theorem call_enum_tup {prog : Program} {w : World} {A : Around} {E : Value → Shared → Prop} {s : Shared} {l : Addr} {items : Array Value} {Q : Value → Shared → Prop} (hL : s.heap.IsTuple l items)
    (h : ∀ h', IsEnum h' (s.heap.objs.size + 1) s.heap.objs.size 0 .none → h'.IsTupleIter s.heap.objs.size l 0 → h'.objs.size = s.heap.objs.size + 2 →
      (∀ b o, s.heap.get? b = some o → h'.get? b = some o) → Q (.ref (s.heap.objs.size + 1)) { s with heap := h' }) :
    wpAny (model prog w) A (call (.type "enumerate") [.ref l]) Q E s := by
  obtain ⟨⟨c, dct, dt, sl⟩, hl, hc, n, hd⟩ := hL
  replace hc : c = .type "tuple" := hc
  replace hd : dt = .seq items n := hd
  subst hc hd
  refine callType_new F.called_enumerate (by decide) (F.typeCall_enumerate_1 _) (F.newCall_enumerate_1 _) (fun obj => F.args_object_init_2 obj _) F.entry_enumerate_new
    (meets_enum_tup l items n dct sl) ⟨hl, ?_⟩
  have hz : (s.heap.push { cls := .type "tuple_iterator", data := .fields #[.ref l, .int 0 0] }).objs.size = s.heap.objs.size + 1 := Heap.size_push ..
  show _ ∧ _
  rw [hz]
  have he : IsEnum ((s.heap.push { cls := .type "tuple_iterator", data := .fields #[.ref l, .int 0 0] }).push
      { cls := .type "enumerate", data := .fields #[.none, .bool false, .ref s.heap.objs.size, rawInt 0, .none, .none] }) (s.heap.objs.size + 1) s.heap.objs.size 0 .none := by
    have := Heap.get?_push_size (s.heap.push { cls := .type "tuple_iterator", data := .fields #[.ref l, .int 0 0] })
      (o := { cls := .type "enumerate", data := .fields #[.none, .bool false, .ref s.heap.objs.size, rawInt 0, .none, .none] }) rfl
    rw [hz] at this; exact this
  refine ⟨⟨_, he, rfl⟩, h _ he ⟨_, Heap.get?_push_of_some _ (Heap.get?_push_size _ rfl), rfl, rfl⟩ (by rw [Heap.size_push, hz]) fun b o x => Heap.get?_push_of_some _ (Heap.get?_push_of_some _ x)⟩
end Pv

set_option Elab.async false
set_option linter.all false
set_option maxRecDepth 100000
namespace Pv
open PySem PySem.Spec PyProof.Rows L2
/-! enumerate and zip as iterators -/
/-- the tuple at a, each item in a new pair with its place -/
def IteT (K : PySem.W.Frag) (a : Addr) : It :=
  ⟨fun i H => ∃ (xs : List V) (x : V), SqT K H a xs ∧ xs[i]? = some x,
   fun i H v H' => ∃ T x, v = .ref T ∧ H T = none ∧ H' = upd H T (.tup [.int (i : Nat), x]) ∧ ∀ xs, SqT K H a xs → xs[i]? = some x,
   fun i H => ∃ xs : List V, SqT K H a xs ∧ xs.length ≤ i⟩
theorem turn_enumT {P : Program} {w : World} {K : PySem.W.Frag} {elts : List Expr} {kk : Nat} {tpos : Pos} (a e it : Addr) :
    Turn P w K (.Tuple elts kk tpos) (IteT K a) [e, it] e (fun i h => (∃ old, IsEnum h e it ((i : Nat) : Int) old) ∧ h.IsTupleIter it a i ∧ e ≠ it ∧ e ≠ a ∧ a ≠ it) where
  mem := by simp
  obj := fun i h st b hb => by
    obtain ⟨⟨old, he⟩, ⟨o, ho, hc, hd⟩, _⟩ := st
    rcases (show b = e ∨ b = it by simpa using hb) with rfl | rfl
    · exact ⟨_, he, fun v q => nomatch q⟩
    · exact ⟨o, ho, fun v q => by rw [hd] at q; cases q⟩
  keep := fun i h h' st k => by
    obtain ⟨⟨old, he⟩, hi, hne⟩ := st
    exact ⟨⟨old, k e (by simp) _ he⟩, hi.at fun o q => k it (by simp) o q, hne⟩
  item := by
    intro X hP hw hK hc i pins s σ H E I hf st hg
    subst hP hw hK
    obtain ⟨⟨old, he⟩, hit, hne, hea, hai⟩ := st
    obtain ⟨xs, x, hq, hx⟩ := hg
    obtain ⟨its, rv, p, hz⟩ := I.tuple hq
    obtain ⟨u, hu, ru⟩ := rv.get hx
    have hel : e < s.heap.objs.size := Heap.lt_size he
    have hil : it < s.heap.objs.size := by obtain ⟨_, q, _⟩ := hit; exact Heap.lt_size q
    have hlt : i < its.toArray.size := (Array.getElem?_eq_some_iff.mp (show its.toArray[i]? = some u by simpa using hu)).1
    refine wpAny_pyNext_enum_itemD (Draws.tuple (A := X.A.in1) (I.ok.hd hc) it a hai its.toArray) he ⟨hit, p⟩ hlt hne (by simp; exact ⟨hne, hea⟩) fun x' h' tk hP ho ⟨hit', _⟩ hT hsz hk => ?_
    have hxu : x' = u := by
      have h1 : its.toArray[i]? = some u := by simpa using hu
      have h2 : its.toArray[i]? = some x' := hP
      rw [h1] at h2; exact (Option.some.inj h2).symm
    subst hxu
    refine ⟨_, rfl, wpAny_letOwnedTupleGo_enum (s := { s with heap := h', toks := tk + 1 }) ho fun h'' he' sb => ?_⟩
    have hT2 : h''.get? s.heap.objs.size = some { cls := .type "tuple", data := .seq #[.int i tk, x'] } := (sb.2 _ (Nat.ne_of_gt hel)).trans hT
    have new : ObjOk X.prog X.w (upd H s.heap.objs.size (.tup [.int (i : Nat), x])) h'' s.heap.objs.size (.tup [.int (i : Nat), x]) :=
      ⟨by show 2 ≤ sizeLine; decide, [.int i tk, x'], .cons ⟨_, rfl⟩ (.cons ru .nil), ⟨_, hT2, rfl, _, rfl⟩⟩
    have I1 : Inv X pins σ (upd H s.heap.objs.size (.tup [.int (i : Nat), x])) { s with heap := h'', toks := tk + 1 } :=
      I.turnedNew (ch := [e, it]) (fun b ob hb q => (sb.2 b (fun z => hb (by simp [z]))).trans (hk b ob (fun z => hb (by simp [z])) (fun z => hb (by simp [z])) q)) hf (Nat.le_refl _) new
    refine ⟨.ref s.heap.objs.size, _, I1, rfl, ⟨_, x, rfl, I.hok.fresh (Nat.le_refl _), rfl, fun ys hy => by rw [I.tuple_inj hy hq]; exact hx⟩, ⟨⟨x', ?_⟩, hit'.at fun o q => (sb.2 it (Ne.symm hne)).trans q, hne, hea, hai⟩, fun b hb => ?_⟩
    · rw [show ((i + 1 : Nat) : Int) = (i : Int) + 1 from by omega]; exact he'
    · have hb' : b < s.heap.objs.size := by
        rcases (show b = e ∨ b = it by simpa using hb) with rfl | rfl
        · exact hel
        · exact hil
      rw [upd_ne (Nat.ne_of_lt hb')]
      exact (hf b hb).1
  done := by
    intro X hP hw hK hc i pins s σ H E I hf st hg
    subst hP hw hK
    obtain ⟨⟨old, he⟩, hit, hne, hea, hai⟩ := st
    obtain ⟨xs, hq, hx⟩ := hg
    obtain ⟨its, rv, p, hz⟩ := I.tuple hq
    obtain ⟨f0, f1, f2, f3, f4, f5⟩ := hf it (by simp)
    have hl := rv.length
    have hT : s.TypeIs (.ref e) "enumerate" := ⟨_, he, rfl⟩
    unfold pyNext
    refine wpAny_bind (wpAny_attempt (wpAny_callSpecial?_slot (name := Str.ofString "__next__") hT F.slot_enumerate_next
      (wpAny_call_entry F.slot_enumerate_next hT F.entry_enumerate_next ?_ (F.args_enumerate_next_1 _))))
    show wpAny _ _ (field (.ref e) 2 >>= _) _ _ _
    refine wpAny_bind (wpAny_field he rfl (x := .ref it) rfl ?_)
    refine wpAny_bind (wpAny_nextOf_tuple_end (I.ok.hd hc) hit (show s.heap.IsTuple a its.toArray from p) (by simp; omega) fun h' x he' hx' => ?_)
    obtain ⟨o, ho, hcc⟩ := hx'
    refine wpAny_bind (wpAny_isInstance (T := "StopIteration") (b := true) ⟨o, ho, hcc⟩ isSubtype_stop ?_)
    exact wpAny_pure ⟨rfl, I.turned (t' := s.toks) (fun b o hb q => he' b o hb q) f0 f1 f3 f4 f5⟩
  self := fun A i s Q E st h => by
    obtain ⟨⟨_, he⟩, _⟩ := st
    exact wpAny_pyIter_enum he h
def iEnumT (K : PySem.W.Frag) (ta : TA) : TI := fun σ H R => ta σ H fun vs H1 => ∃ a xs, vs = [.ref a] ∧ SqT K H1 a xs ∧ R (IteT K a) H1
theorem pi_enumT {X : Cx} {e : Expr} {ta : TA} {p pos tpos : Pos} {elts : List Expr} {kk : Nat} (hg : Gl X "enumerate") (hm : X.mg "enumerate" = none) (ha : PA X [e] ta) (hs : starEach [e] X.env = [(false, eval e X.env)] := by rfl) :
    PI X (.Tuple elts kk tpos) (.Call (.Name "enumerate" p) [e] [] pos) (iEnumT X.K ta) := by
  refine ⟨fun pins s σ H R I h => ?_⟩
  refine Call_ (ld_blt I hg hm boot_enumerate (PyProof.Rows.callWith_type1 (thn (ha.run pos pins s σ H _ I h) fun us s1 ⟨vs, H1, I1, r1, q1⟩ => ?_) hs rfl))
  obtain ⟨a, xs, rfl, hq, q⟩ := q1
  cases r1 with
  | cons r rr =>
    cases rr
    cases r
    obtain ⟨its, rv, p', hz⟩ := I1.tuple hq
    have hlt : a < s1.heap.objs.size := by obtain ⟨_, q, _⟩ := id p'; exact Heap.lt_size q
    refine call_enum_tup p' fun h' he hit hsz hk => wpAny_pyIter_enum he ?_
    have I2 : Inv X pins σ H1 { s1 with heap := h' } := I1.kept (t' := s1.toks) hk
    refine ⟨s1.heap.objs.size + 1, [s1.heap.objs.size + 1, s1.heap.objs.size], _, _, H1, rfl, I2, turn_enumT a (s1.heap.objs.size + 1) s1.heap.objs.size, ⟨⟨.none, he⟩, hit, Nat.succ_ne_self _, fun z => by rw [← z] at hlt; exact absurd hlt (by simp), fun z => by rw [z] at hlt; exact absurd hlt (by simp)⟩, fun b hb => ?_, q⟩
    have hle : s1.heap.objs.size ≤ b := by
      rcases (show b = s1.heap.objs.size + 1 ∨ b = s1.heap.objs.size by simpa using hb) with rfl | rfl
      · omega
      · exact Nat.le_refl _
    exact I1.fpOk hle (I1.hok.fresh hle)
/-! the pure side -/
def enumD : Nat → List D → List D
  | _, [] => []
  | i, d :: ds => .tup [.int (i : Nat), d] :: enumD (i + 1) ds
theorem enumD_length : ∀ (i : Nat) (ds : List Pv.D), (enumD i ds).length = ds.length
  | _, [] => rfl
  | i, d :: ds => by show (enumD (i + 1) ds).length + 1 = ds.length + 1; rw [enumD_length]
theorem enumD_get : ∀ (i k : Nat) (ds : List Pv.D), (enumD i ds)[k]? = (ds[k]?).map fun d => .tup [.int ((i + k : Nat) : Int), d]
  | i, k, [] => by simp [enumD]
  | i, 0, d :: ds => rfl
  | i, k + 1, d :: ds => by
    show (enumD (i + 1) ds)[k]? = _
    rw [enumD_get, show i + 1 + k = i + (k + 1) from by omega]
    rfl
def zipD : List D → List D → List D
  | a :: as, b :: bs => .tup [a, b] :: zipD as bs
  | _, _ => []
theorem zipD_length : ∀ (a b : List Pv.D), (zipD a b).length = min a.length b.length
  | [], b => by simp [zipD]
  | a :: as, [] => by simp [zipD]
  | a :: as, b :: bs => by show (zipD as bs).length + 1 = _; rw [zipD_length]; simp
theorem zipD_get : ∀ (k : Nat) (a b : List Pv.D) (d : Pv.D), (zipD a b)[k]? = some d → ∃ x y, a[k]? = some x ∧ b[k]? = some y ∧ d = .tup [x, y]
  | k, [], b, d, h => by simp [zipD] at h
  | k, a :: as, [], d, h => by simp [zipD] at h
  | 0, a :: as, b :: bs, d, h => by cases h; exact ⟨a, b, rfl, rfl, rfl⟩
  | k + 1, a :: as, b :: bs, d, h => by
    obtain ⟨x, y, h1, h2, h3⟩ := zipD_get k as bs d h
    exact ⟨x, y, h1, h2, h3⟩
def itEnumL (fa : Envi → R (List Hd)) : Envi → R (List D) := fun ρ => (fa ρ).bind fun hs ρ1 => match hs with
  | [.dat d] => opt2 ρ1 ((lstOf d).map (enumD 0))
  | _ => .stuck
def itEnumT (fa : Envi → R (List Hd)) : Envi → R (List D) := fun ρ => (fa ρ).bind fun hs ρ1 => match hs with
  | [.dat d] => opt2 ρ1 ((tupOf d).map (enumD 0))
  | _ => .stuck
section
variable {P : Pr} {m : Bool} {W : WX} {te ta tb : TE} {f : Envi → R Hd} {B F0 F H : Hp} {tr : TA} {n : Nat} {fa : Envi → R (List Hd)}
theorem itOk_enumT {K : PySem.W.Frag} {a : Addr} {vs : List V} {ds : List D} (h : SqT K F a vs) (r : Reps K F vs ds) : ItOk K (IteT K a) F (enumD 0 ds) := fun F2 H2 s1 s2 => by
  have h2 := same_sqt s2 (same_sqt s1 h)
  refine ⟨fun i d e => ?_, fun i hi => ⟨vs, h2, by rw [enumD_length] at hi; rw [r.length]; exact hi⟩⟩
  rw [enumD_get] at e
  cases e0 : ds[i]? with
  | none => rw [e0] at e; cases e
  | some d0 =>
    rw [e0] at e
    cases e
    obtain ⟨v, e1, e2⟩ := r.get e0
    refine ⟨⟨vs, v, h2, e1⟩, fun x H3 y => ?_⟩
    obtain ⟨T, x', rfl, hn, rfl, y⟩ := y
    have := y vs h2
    rw [e1] at this
    cases this
    refine ⟨upd F2 T (.tup [.int (i : Nat), v]), .new (.refl _ _) hn, .tup upd_same (by show 2 ≤ sizeLine; decide) ?_⟩
    have hs : Same F2 (upd F2 T (.tup [.int (i : Nat), v])) := same_new (s2.free hn)
    refine .cons ?_ (.cons (Rep.mono (s1.trans hs) e2) .nil)
    rw [show ((0 + i : Nat) : Int) = (i : Int) from by omega]
    exact .int _
theorem itOk_enumL {K : PySem.W.Frag} {a : Addr} {vs : List V} {ds : List D} (h : SqL K F a vs) (r : Reps K F vs ds) : ItOk K (Ite K a) F (enumD 0 ds) := fun F2 H2 s1 s2 => by
  have h2 := same_sql s2 (same_sql s1 h)
  refine ⟨fun i d e => ?_, fun i hi => ⟨vs, h2, by rw [enumD_length] at hi; rw [r.length]; exact hi⟩⟩
  rw [enumD_get] at e
  cases e0 : ds[i]? with
  | none => rw [e0] at e; cases e
  | some d0 =>
    rw [e0] at e
    cases e
    obtain ⟨v, e1, e2⟩ := r.get e0
    refine ⟨⟨vs, v, h2, e1⟩, fun x H3 y => ?_⟩
    obtain ⟨T, x', rfl, hn, rfl, y⟩ := y
    have := y vs h2
    rw [e1] at this
    cases this
    refine ⟨upd F2 T (.tup [.int (i : Nat), v]), .new (.refl _ _) hn, .tup upd_same (by show 2 ≤ sizeLine; decide) ?_⟩
    have hs : Same F2 (upd F2 T (.tup [.int (i : Nat), v])) := same_new (s2.free hn)
    refine .cons ?_ (.cons (Rep.mono (s1.trans hs) e2) .nil)
    rw [show ((0 + i : Nat) : Int) = (i : Int) from by omega]
    exact .int _
theorem si_enumT (h : SndA P m W n tr fa) : SndI P m W (iEnumT P.K tr) (itEnumT fa) := fun B F0 F H σ ob ρ Q w q => by
  refine h B F0 F H σ ob ρ _ w (Post.of_bind q ?_)
  rintro hs ρ2 B' F2 H2 ob2 ys w2 s2 i2 ⟨⟨rfl, r2⟩, hl⟩ q
  match hs, ys, r2, q with
  | [.dat d], [v], ⟨r, _⟩, q =>
    cases e : tupOf d with
    | none => simp only [e, opt2, Option.map] at q; exact q.elim
    | some ds =>
      simp only [e, opt2, Option.map] at q
      obtain ⟨a, vs, rfl, h1, h2, h3⟩ := rep_tupOf r e
      exact ⟨a, vs, rfl, same_sqt w2.fh h1, q _ F2 H2 ob2 _ w2 s2 i2 ⟨rfl, itOk_enumT h1 h3, by rw [enumD_length, ← h3.length]; exact h2⟩⟩
theorem si_enumL (h : SndA P m W n tr fa) : SndI P m W (iEnum P.K tr) (itEnumL fa) := fun B F0 F H σ ob ρ Q w q => by
  refine h B F0 F H σ ob ρ _ w (Post.of_bind q ?_)
  rintro hs ρ2 B' F2 H2 ob2 ys w2 s2 i2 ⟨⟨rfl, r2⟩, hl⟩ q
  match hs, ys, r2, q with
  | [.dat d], [v], ⟨r, _⟩, q =>
    cases e : lstOf d with
    | none => simp only [e, opt2, Option.map] at q; exact q.elim
    | some ds =>
      simp only [e, opt2, Option.map] at q
      obtain ⟨a, vs, rfl, h1, h2, h3⟩ := rep_lstOf r e
      exact ⟨a, vs, rfl, same_sql w2.fh h1, q _ F2 H2 ob2 _ w2 s2 i2 ⟨rfl, itOk_enumL h1 h3, by rw [enumD_length, ← h3.length]; exact h2⟩⟩
/-! zip -/
theorem itOk_zip {K : PySem.W.Frag} {a b : Addr} {vs us : List V} {ds es : List D} (h : SqL K F a vs) (g : SqL K F b us) (r : Reps K F vs ds) (r' : Reps K F us es) : ItOk K (Itz K a b) F (zipD ds es) := fun F2 H2 s1 s2 => by
  have h2 := same_sql s2 (same_sql s1 h)
  have g2 := same_sql s2 (same_sql s1 g)
  refine ⟨fun i d e => ?_, fun i hi => ⟨vs, us, h2, g2, by rw [zipD_length] at hi; rw [r.length, r'.length]; omega⟩⟩
  obtain ⟨x, y, ex, ey, rfl⟩ := zipD_get i ds es d e
  obtain ⟨v, e1, e2⟩ := r.get ex
  obtain ⟨u, e3, e4⟩ := r'.get ey
  refine ⟨⟨vs, us, v, u, h2, g2, e1, e3⟩, fun x H3 y => ?_⟩
  obtain ⟨T, x', y', rfl, hn, rfl, y1, y2⟩ := y
  have z1 := y1 vs h2
  have z2 := y2 us g2
  rw [e1] at z1
  rw [e3] at z2
  cases z1
  cases z2
  have hs : Same F2 (upd F2 T (.tup [v, u])) := same_new (s2.free hn)
  exact ⟨upd F2 T (.tup [v, u]), .new (.refl _ _) hn, .tup upd_same (by show 2 ≤ sizeLine; decide) (.cons (Rep.mono (s1.trans hs) e2) (.cons (Rep.mono (s1.trans hs) e4) .nil))⟩
theorem itOk_zipT {K : PySem.W.Frag} {a b : Addr} {vs us : List V} {ds es : List D} (h : SqT K F a vs) (g : SqT K F b us) (r : Reps K F vs ds) (r' : Reps K F us es) : ItOk K (RZ.ItzT K a b) F (zipD ds es) := fun F2 H2 s1 s2 => by
  have h2 := same_sqt s2 (same_sqt s1 h)
  have g2 := same_sqt s2 (same_sqt s1 g)
  refine ⟨fun i d e => ?_, fun i hi => ⟨vs, us, h2, g2, by rw [zipD_length] at hi; rw [r.length, r'.length]; omega⟩⟩
  obtain ⟨x, y, ex, ey, rfl⟩ := zipD_get i ds es d e
  obtain ⟨v, e1, e2⟩ := r.get ex
  obtain ⟨u, e3, e4⟩ := r'.get ey
  refine ⟨⟨vs, us, v, u, h2, g2, e1, e3⟩, fun x H3 y => ?_⟩
  obtain ⟨T, x', y', rfl, hn, rfl, y1, y2⟩ := y
  have z1 := y1 vs h2
  have z2 := y2 us g2
  rw [e1] at z1
  rw [e3] at z2
  cases z1
  cases z2
  have hs : Same F2 (upd F2 T (.tup [v, u])) := same_new (s2.free hn)
  exact ⟨upd F2 T (.tup [v, u]), .new (.refl _ _) hn, .tup upd_same (by show 2 ≤ sizeLine; decide) (.cons (Rep.mono (s1.trans hs) e2) (.cons (Rep.mono (s1.trans hs) e4) .nil))⟩
def itZipA (fa : Envi → R (List Hd)) : Envi → R (List D) := fun ρ => (fa ρ).bind fun hs ρ1 => match hs with
  | [.dat d, .dat e] => match lstOf d, lstOf e, tupOf d, tupOf e with
    | some ds, some es, _, _ => .ok (zipD ds es) ρ1
    | _, _, some ds, some es => .ok (zipD ds es) ρ1
    | _, _, _, _ => .stuck
  | _ => .stuck
theorem si_zip (h : SndA P m W n tr fa) : SndI P m W (RZ.iZipA P.K tr) (itZipA fa) := fun B F0 F H σ ob ρ Q w q => by
  refine h B F0 F H σ ob ρ _ w (Post.of_bind q ?_)
  rintro hs ρ2 B' F2 H2 ob2 ys w2 s2 i2 ⟨⟨rfl, r2⟩, hl⟩ q
  match hs, ys, r2, q with
  | [.dat d, .dat e], [v, u], ⟨r, r', _⟩, q =>
    dsimp only at q
    split at q
    · rename_i ds es e1 e2
      obtain ⟨a, vs, rfl, h1, h2, h3⟩ := rep_lstOf r e1
      obtain ⟨b, us, rfl, g1, g2, g3⟩ := rep_lstOf r' e2
      refine ⟨a, b, vs, us, rfl, .inl ⟨same_sql w2.fh h1, same_sql w2.fh g1, q _ F2 H2 ob2 _ w2 s2 i2 ⟨rfl, itOk_zip h1 g1 h3 g3, ?_⟩⟩⟩
      rw [zipD_length, ← h3.length]; omega
    · rename_i ds es e1 e2 _
      obtain ⟨a, vs, rfl, h1, h2, h3⟩ := rep_tupOf r e1
      obtain ⟨b, us, rfl, g1, g2, g3⟩ := rep_tupOf r' e2
      refine ⟨a, b, vs, us, rfl, .inr ⟨same_sqt w2.fh h1, same_sqt w2.fh g1, q _ F2 H2 ob2 _ w2 s2 i2 ⟨rfl, itOk_zipT h1 g1 h3 g3, ?_⟩⟩⟩
      rw [zipD_length, ← h3.length]; omega
    · exact q.elim
end
end Pv

set_option Elab.async false
set_option linter.all false
set_option maxRecDepth 100000
namespace Pv
open PySem PySem.Spec PyProof.Rows L2
/-! more readings: chains, list(range), insert, dict(..), puts, sorted, least of data -/
section
variable {P : Pr} {m : Bool} {W : WX} {te ta tb tc to : TE} {f g e : Envi → R Hd} {n : Nat} {fa : Envi → R (List Hd)} {tr : TA} {B F0 F H : Hp} {σ : L2.St} {ob : Ob} {ρ : Envi} {K : PySem.W.Frag}
/-- a < b < c: the first test, then the second -/
def eChain (op op' : D → D → Option D) (f g e : Envi → R Hd) : Envi → R Hd := fun ρ => (f ρ).frz.bind fun h ρ1 => (g ρ1).frz.bind fun k ρ2 => match deref ρ2 h, deref ρ2 k with
  | some a, some b => match op a b with
    | some (.bl true) => (e ρ2).frz.bind fun l ρ3 => on2 op' ρ3 k l
    | some (.bl false) => .ok (.dat (.bl false)) ρ2
    | _ => .stuck
  | _, _ => .stuck
theorem snd_chain {r r' : R2} {op op' : D → D → Option D} (ho : OpS P.K r op) (ho' : OpS P.K r' op') (ha : SndE P false W ta f) (hb : SndE P false W tb g) (hc : SndE P false W tc e) : SndE P m W (tChain r r' ta tb tc) (eChain op op' f g e) := by
  refine SndE.up ?_
  intro B F0 F H σ ob ρ Q w q
  refine ha.frz B F0 F H σ ob ρ _ w (Post.of_bind q ?_)
  rintro h ρ1 B1 F1 H1 ob1 x w1 s1 i1 ⟨rfl, r1⟩ q
  refine hb.frz _ F0 F1 H1 σ ob1 ρ1 _ w1 (Post.of_bind (Post.shift s1 i1 q) ?_)
  rintro k ρ2 B2 F2 H2 ob2 y w2 s2 i2 ⟨rfl, r2⟩ q
  have q := Post.shift s2 i2 q
  have r1' := r1.mono s2 (i2 rfl)
  cases e1 : deref ρ2 h with
  | none => rw [e1] at q; exact q.elim
  | some a =>
    cases e2 : deref ρ2 k with
    | none => rw [e1, e2] at q; exact q.elim
    | some b =>
      rw [e1, e2] at q
      dsimp only at q
      have b1 := w2.deref r1' e1
      have b2 := w2.deref r2 e2
      cases e3 : op a b with
      | none => rw [e3] at q; exact q.elim
      | some c =>
        rw [e3] at q
        cases c with
        | bl c =>
          refine ho F2 H2 x y a b _ _ w2.fh b1 b2 e3 fun F3 H3 z gr rz => ?_
          cases rz
          obtain ⟨w3, s3⟩ := w2.growN gr
          refine ⟨c, rfl, ?_⟩
          cases c with
          | true =>
            simp only [if_true]
            refine hc.frz _ F0 F3 H3 σ ob2 ρ2 _ w3 (Post.of_bind (Post.shift s3 (fun _ => rfl) q) ?_)
            rintro l ρ3 B3 F4 H4 ob3 u w4 s4 i4 ⟨rfl, r4⟩ q
            have q := Post.shift s4 i4 q
            have r2' := (r2.mono s3 rfl).mono s4 (i4 rfl)
            unfold on2 at q
            cases e4 : deref ρ3 k with
            | none => rw [e4] at q; exact q.elim
            | some b' =>
              cases e5 : deref ρ3 l with
              | none => rw [e4, e5] at q; exact q.elim
              | some d =>
                rw [e4, e5] at q
                dsimp only at q
                cases e6 : op' b' d with
                | none => rw [e6] at q; exact q.elim
                | some c' =>
                  rw [e6] at q
                  refine ho' F4 H4 y u b' d _ _ w4.fh (w4.deref r2' e4) (w4.deref r4 e5) e6 fun F5 H5 z gr rz => ?_
                  obtain ⟨w5, s5⟩ := w4.growN gr
                  exact q _ F5 H5 ob3 z w5 s5 (fun _ => rfl) ⟨rfl, rz⟩
          | false =>
            simp only [Bool.false_eq_true, if_false]
            exact q _ F3 H3 ob2 _ w3 s3 (fun _ => rfl) ⟨rfl, .bl _⟩
        | _ => exact q.elim
/-! list(range(..)) -/
def eLRg1 (f : Envi → R Hd) : Envi → R Hd := fun ρ => (f ρ).frz.bind fun h ρ1 => match deref ρ1 h with
  | some (.int j) => if -16777216 < j ∧ j < 16777216 then .ok (.tm (.li (rangeD 0 j.toNat))) ρ1 else .stuck
  | _ => .stuck
theorem rgV_rep {lo : Int} {n : Nat} : Reps K F ((List.range n).map fun i => V.int (lo + (i : Nat))) (rangeD lo n) := by
  unfold rangeD
  generalize List.range n = l
  induction l with
  | nil => exact .nil
  | cons a l ih => exact .cons (.int _) ih
theorem snd_lrg1 (h : SndE P m W te f) : SndE P m W (tLstRg (tRg1 te)) (eLRg1 f) := fun B F0 F H σ ob ρ Q w q => by
  refine h.frz B F0 F H σ ob ρ _ w (Post.of_bind q ?_)
  rintro k ρ1 B1 F1 H1 ob1 x w1 s1 i1 ⟨rfl, r1⟩ q
  cases e1 : deref ρ1 k with
  | none => rw [e1] at q; exact q.elim
  | some d =>
    rw [e1] at q
    cases d with
    | int j =>
      dsimp only at q
      split at q
      · rename_i hj
        have b := w1.deref r1 e1
        cases b.int
        refine ⟨j, rfl, ⟨by omega, by omega, by omega, by omega, by omega⟩, fun a ha => ?_⟩
        have fa := w1.fh.free ha
        have ba := w1.bh.free ha
        refine q _ F1 _ ob1 _ (w1.tmp ha) s1 i1 ⟨a, _, rfl, rfl, ba, fa, ⟨_, rfl, ?_, ?_⟩⟩
        · rw [rgV_length, sizeLine_eq]; omega
        · show Reps P.K F1 ((List.range (j - 0).toNat).map fun i => V.int (0 + (i : Nat))) (rangeD 0 j.toNat)
          rw [Int.sub_zero]
          exact rgV_rep
      · exact q.elim
    | _ => exact q.elim
/-! insert -/
def muInsert (o : Own) (ds : List D) : Option (D × Own) := match o, ds with
  | .li l, [.int i, d] => if 0 ≤ i ∧ i < 16777216 ∧ l.length < 16777216 then some (.non, .li (l.take i.toNat ++ [d] ++ l.drop i.toNat)) else none
  | _, _ => none
theorem ms_insert : MutS K (fun x vs H Q => ∃ (l : Addr) (xs : List V) (i : Int) (y : V), x = .ref l ∧ vs = [.int i, y] ∧ H l = some (.lst xs) ∧ xs.length < sizeLine ∧ 0 ≤ i ∧ i < 2 ^ 63 ∧
    Q .non (upd H l (.lst (xs.take i.toNat ++ [y] ++ xs.drop i.toNat)))) muInsert := fun F H a ho o vs ds d o' Q s h1 h2 h3 rs e q => by
  unfold muInsert at e
  split at e
  · rename_i l i d0
    split at e
    · rename_i hi
      cases e
      obtain ⟨us, rfl, h4, h5⟩ := h3
      cases rs with
      | cons r1 r2 =>
        cases r2 with
        | cons r2 r3 =>
          cases r3
          cases r1
          have hl := h5.length
          refine ⟨a, us, i, _, rfl, rfl, h1, by rw [sizeLine_eq]; omega, hi.1, by omega, q _ .non ⟨_, rfl, ?_, ((h5.take _).append (.cons r2 .nil)).append (h5.drop _)⟩ .non⟩
          rw [sizeLine_eq]
          simp only [List.length_append, List.length_take, List.length_drop, List.length_cons, List.length_nil]
          omega
    · cases e
  · cases e
end
end Pv

set_option Elab.async false
set_option linter.all false
set_option maxRecDepth 100000
namespace Pv
open PySem PySem.Spec PyProof.Rows L2
/-! dict(..) of a list of pairs -/
section
variable {P : Pr} {m : Bool} {W : WX} {te ta tb tc to : TE} {f g e : Envi → R Hd} {n : Nat} {fa : Envi → R (List Hd)} {tr : TA} {B F0 F H : Hp} {σ : L2.St} {ob : Ob} {ρ : Envi} {K : PySem.W.Frag}
def pairsK : List D → Option (List (Key × D))
  | [] => some []
  | .tup [k, v] :: r => match keyOf k, pairsK r with
    | some k', some r' => some ((k', v) :: r')
    | _, _ => none
  | _ :: _ => none
def pairsTd : List D → Option (List (List Key × D))
  | [] => some []
  | .tup [.tup ks, v] :: r => match keysOf ks, pairsTd r with
    | some k', some r' => some ((k', v) :: r')
    | _, _ => none
  | _ :: _ => none
def mergeA {κ α : Type} [DecidableEq κ] (kvs more : List (κ × α)) : List (κ × α) := more.foldl (fun acc kv => putA acc kv.1 kv.2) kvs
theorem PR.append {κ : Type} {x x' : List (κ × V)} {y y' : List (κ × Pv.D)} (h : PR K F x y) (h' : PR K F x' y') : PR K F (x ++ x') (y ++ y') := by
  unfold PR at h h' ⊢
  induction h with
  | nil => exact h'
  | cons a b ih => exact .cons a ih
theorem PR.any {κ : Type} [DecidableEq κ] {k : κ} {x : List (κ × V)} {y : List (κ × Pv.D)} (h : PR K F x y) : (x.any fun kv => decide (kv.1 = k)) = (y.any fun kv => decide (kv.1 = k)) := by
  unfold PR at h
  induction h with
  | nil => rfl
  | cons a b ih => rw [List.any_cons, List.any_cons, ih, a.1]
theorem PR.mapPut {κ : Type} [DecidableEq κ] {k : κ} {v : V} {d : Pv.D} {x : List (κ × V)} {y : List (κ × Pv.D)} (h : PR K F x y) (r : Rep K F v d) : PR K F (x.map fun kv => if kv.1 = k then (kv.1, v) else kv) (y.map fun kv => if kv.1 = k then (kv.1, d) else kv) := by
  unfold PR at h ⊢
  induction h with
  | nil => exact .nil
  | @cons p q _ _ a b ih =>
    rw [List.map_cons, List.map_cons]
    refine .cons ?_ ih
    have ea := a.1
    by_cases hk : q.1 = k
    · rw [if_pos hk, if_pos (ea.trans hk)]; exact ⟨ea, r⟩
    · rw [if_neg hk, if_neg (fun z => hk (ea.symm.trans z))]; exact a
theorem PR.put {κ : Type} [DecidableEq κ] {k : κ} {v : V} {d : Pv.D} {x : List (κ × V)} {y : List (κ × Pv.D)} (h : PR K F x y) (r : Rep K F v d) : PR K F (putK x k v) (putA y k d) := by
  unfold putK putA
  rw [h.any]
  split
  · exact h.mapPut r
  · exact h.append (.cons ⟨rfl, r⟩ .nil)
theorem PR.mergeKV {x : List (Key × V)} {y : List (Key × Pv.D)} : ∀ {a : List (Key × V)} {b : List (Key × Pv.D)}, PR K F a b → PR K F x y → PR K F (mergeK a x) (mergeA b y) := fun {a b} h h' => by
  unfold PR at h'
  induction h' generalizing a b with
  | nil => exact h
  | @cons p q ps qs r _ ih =>
    have := h.put (k := p.1) r.2
    unfold mergeK mergeA
    rw [List.foldl_cons, List.foldl_cons, ← r.1]
    exact ih this
theorem PR.mergeTV {x : List (List Key × V)} {y : List (List Key × Pv.D)} : ∀ {a : List (List Key × V)} {b : List (List Key × Pv.D)}, PR K F a b → PR K F x y → PR K F (mergeT a x) (mergeA b y) := fun {a b} h h' => by
  unfold PR at h'
  induction h' generalizing a b with
  | nil => exact h
  | @cons p q ps qs r _ ih =>
    have := h.put (k := p.1) r.2
    unfold mergeT mergeA
    rw [List.foldl_cons, List.foldl_cons, ← r.1]
    exact ih this
theorem PR.len {κ : Type} {x : List (κ × V)} {y : List (κ × Pv.D)} (h : PR K F x y) : x.length = y.length := by
  unfold PR at h
  induction h with
  | nil => rfl
  | cons a b ih => exact congrArg (· + 1) ih
theorem pairsK_ok {F' : Hp} (s : Same F F') : ∀ {vs : List V} {ds : List Pv.D} {l : List (Key × Pv.D)}, Reps K F vs ds → pairsK ds = some l → ∃ (ps : List Addr) (kvs : List (Key × V)), vs = ps.map V.ref ∧ Paired (fun p kv => SqT K F' p [kV kv.1, kv.2]) ps kvs ∧ PR K F kvs l
  | _, _, _, .nil, e => by
    cases e
    exact ⟨[], [], rfl, .nil, .nil⟩
  | v :: vs, d :: ds, l, .cons a b, e => by
    unfold pairsK at e
    split at e
    · rename_i h; cases h
    · rename_i k x r h
      cases h
      cases e1 : keyOf k with
      | none => rw [e1] at e; cases e
      | some k' =>
        cases e2 : pairsK ds with
        | none => rw [e1, e2] at e; cases e
        | some r' =>
          rw [e1, e2] at e
          cases e
          obtain ⟨ps, kvs, rfl, h1, h2⟩ := pairsK_ok s b e2
          cases a with
          | @tup p us _ g1 g2 g3 =>
            cases g3 with
            | @cons u1 _ _ _ r1 g4 =>
              cases g4 with
              | @cons u2 _ _ _ r2 g5 =>
                cases g5
                have := keyOf_rep r1 e1
                subst this
                exact ⟨p :: ps, (k', u2) :: kvs, rfl, .cons (.inl (.inl (s _ _ g1))) h1, .cons ⟨rfl, r2⟩ h2⟩
    · cases e
theorem pairsT_ok {F' : Hp} (s : Same F F') : ∀ {vs : List V} {ds : List Pv.D} {l : List (List Key × Pv.D)}, Reps K F vs ds → pairsTd ds = some l →
    ∃ (ps : List Addr) (kvs : List (List Key × Addr × V)), vs = ps.map V.ref ∧ Paired (fun p kv => SqT K F' p [.ref kv.2.1, kv.2.2] ∧ F' kv.2.1 = some (.tup (kv.1.map kV))) ps kvs ∧ PR K F (kvs.map fun x => (x.1, x.2.2)) l
  | _, _, _, .nil, e => by
    cases e
    exact ⟨[], [], rfl, .nil, .nil⟩
  | v :: vs, d :: ds, l, .cons a b, e => by
    unfold pairsTd at e
    split at e
    · rename_i h; cases h
    · rename_i k x r h
      cases h
      cases e1 : keysOf k with
      | none => rw [e1] at e; cases e
      | some k' =>
        cases e2 : pairsTd ds with
        | none => rw [e1, e2] at e; cases e
        | some r' =>
          rw [e1, e2] at e
          cases e
          obtain ⟨ps, kvs, rfl, h1, h2⟩ := pairsT_ok s b e2
          cases a with
          | @tup p us _ g1 g2 g3 =>
            cases g3 with
            | @cons u1 _ _ _ r1 g4 =>
              cases g4 with
              | @cons u2 _ _ _ r2 g5 =>
                cases g5
                obtain ⟨b, rfl, hb⟩ := keyTup r1 e1
                exact ⟨p :: ps, (k', b, u2) :: kvs, rfl, .cons ⟨.inl (.inl (s _ _ g1)), s _ _ hb⟩ h1, .cons ⟨rfl, r2⟩ h2⟩
    · cases e
theorem putA_len {κ α : Type} [DecidableEq κ] (kvs : List (κ × α)) (k : κ) (v : α) : (putA kvs k v).length ≤ kvs.length + 1 := by
  unfold putA
  split
  · rw [List.length_map]; omega
  · rw [List.length_append]; simp
theorem mergeA_len {κ α : Type} [DecidableEq κ] : ∀ (more kvs : List (κ × α)), (mergeA kvs more).length ≤ kvs.length + more.length
  | [], kvs => by show kvs.length ≤ kvs.length + 0; omega
  | p :: r, kvs => by
    have h1 := mergeA_len r (putA kvs p.1 p.2)
    have h2 := putA_len kvs p.1 p.2
    show (mergeA (putA kvs p.1 p.2) r).length ≤ _
    rw [List.length_cons]; omega
theorem pairsK_len : ∀ {ds : List Pv.D} {l : List (Key × Pv.D)}, pairsK ds = some l → l.length = ds.length
  | [], _, e => by cases e; rfl
  | d :: ds, l, e => by
    unfold pairsK at e
    split at e
    · rename_i h; cases h
    · rename_i k x r h
      cases h
      cases e1 : keyOf k with
      | none => rw [e1] at e; cases e
      | some k' =>
        cases e2 : pairsK ds with
        | none => rw [e1, e2] at e; cases e
        | some r' =>
          rw [e1, e2] at e
          cases e
          rw [List.length_cons, List.length_cons, pairsK_len e2]
    · cases e
def fDictK (ds : List D) : Rf := match ds with
  | [d] => match lstOf d with
    | some l => match pairsK l with
      | some kvs => .ow (.di (mergeA [] kvs))
      | none => .stuck
    | none => .stuck
  | _ => .stuck
def fDictT (ds : List D) : Rf := match ds with
  | [d] => match lstOf d with
    | some l => match pairsTd l with
      | some kvs => .ow (.ti (mergeA [] kvs))
      | none => .stuck
    | none => .stuck
  | _ => .stuck
theorem cs_dictK : CallS K (fun xs H Q => ∃ (a : Addr) (ps : List Addr) (kvs : List (Key × V)), xs = [.ref a] ∧ SqL K H a (ps.map V.ref) ∧ Paired (fun p kv => SqT K H p [kV kv.1, kv.2]) ps kvs ∧
    ∀ p, H p = none → Q (.ref p) (upd H p (.dK (mergeK [] kvs)))) fDictK := fun F H xs ds Q s bs q => by
  unfold fDictK at q
  split at q
  · rename_i d
    obtain ⟨v, rfl, b⟩ := breps_one bs
    cases e : lstOf d with
    | none => rw [e] at q; exact q.elim
    | some l =>
      rw [e] at q
      dsimp only at q
      cases e2 : pairsK l with
      | none => rw [e2] at q; exact q.elim
      | some kvs =>
        rw [e2] at q
        obtain ⟨a, vs, rfl, h1, h2, h3⟩ := b.list s e
        obtain ⟨ps, kvs', rfl, g1, g2⟩ := pairsK_ok s h3 e2
        refine ⟨a, ps, kvs', rfl, h1, g1, fun p hp => q F H p _ (.refl _ _) hp ⟨_, rfl, ?_, PR.mergeKV .nil g2⟩⟩
        have l1 := (PR.mergeKV (K := K) (F := F) (a := []) (b := []) .nil g2).len
        have l2 := mergeA_len kvs ([] : List (Key × Pv.D))
        have l3 := g2.len
        have l4 := pairsK_len e2
        have l5 := h3.length
        rw [l1]
        rw [List.length_nil] at l2
        omega
  · exact False.elim q
theorem cs_dictT : CallS K (rDictT K) fDictT := fun F H xs ds Q s bs q => by
  unfold fDictT at q
  split at q
  · rename_i d
    obtain ⟨v, rfl, b⟩ := breps_one bs
    cases e : lstOf d with
    | none => rw [e] at q; exact q.elim
    | some l =>
      rw [e] at q
      dsimp only at q
      cases e2 : pairsTd l with
      | none => rw [e2] at q; exact q.elim
      | some kvs =>
        rw [e2] at q
        obtain ⟨a, vs, rfl, h1, h2, h3⟩ := b.list s e
        obtain ⟨ps, kvs', rfl, g1, g2⟩ := pairsT_ok s h3 e2
        refine ⟨a, ps, kvs', rfl, h1, g1, fun p hp => q F H p _ (.refl _ _) hp ⟨_, rfl, ?_, PR.mergeTV .nil g2⟩⟩
        have l0 : ∀ {ps : List Addr} {kvs : List (List Key × Addr × V)}, Paired (fun p kv => SqT K H p [.ref kv.2.1, kv.2.2] ∧ H kv.2.1 = some (.tup (kv.1.map kV))) ps kvs → kvs.length = ps.length := fun h => by
          induction h with
          | nil => rfl
          | cons a b ih => exact congrArg (· + 1) ih
        have l1 := length_mergeT (kvs'.map fun x => (x.1, x.2.2)) []
        have l2 := l0 g1
        rw [List.length_map] at l1 h2
        rw [List.length_nil] at l1
        omega
  · exact False.elim q
end
end Pv

set_option Elab.async false
set_option linter.all false
set_option maxRecDepth 100000
namespace Pv
open PySem PySem.Spec PyProof.Rows L2
section
variable {P : Pr} {m : Bool} {W : WX} {te ta tb tc to : TE} {f g e : Envi → R Hd} {n : Nat} {fa : Envi → R (List Hd)} {tr : TA} {B F0 F H : Hp} {σ : L2.St} {ob : Ob} {ρ : Envi} {K : PySem.W.Frag}
/-! d.get(k, x) -/
def isDictD : D → Bool
  | .dk _ _ => true
  | .dt _ _ => true
  | _ => false
def eDGet2 (f g e : Envi → R Hd) : Envi → R Hd := fun ρ => (eMat f ρ).bind fun h ρ1 => match h with
  | .dat a => if isDictD a = true then (g ρ1).frz.bind fun k ρ2 => (eMat e ρ2).bind fun x ρ3 => match deref ρ3 k, x with
    | some b, .dat z => match dLook a b with
      | some (some d) => .ok (.dat d) ρ3
      | some none => .ok (.dat z) ρ3
      | none => .stuck
    | _, _ => .stuck
    else .stuck
  | _ => .stuck
theorem isD_of {v : V} {d : D} (s : Same F H) (r : Rep K F v d) (e : isDictD d = true) : ∃ a, v = .ref a ∧ IsD H a := by
  cases r with
  | dk h1 h2 h3 => exact ⟨_, rfl, .inl ⟨_, same_rd s h1⟩⟩
  | dt h1 h2 h3 => exact ⟨_, rfl, .inr ⟨_, same_rd s h1⟩⟩
  | _ => cases e
theorem snd_dget2 (ha : SndE P m W ta f) (hb : SndE P false W tb g) (hc : SndE P false W tc e) : SndE P m W (tDGet2 ta tb tc) (eDGet2 f g e) := by
  intro B F0 F H σ ob ρ Q w q
  refine snd_mat ha B F0 F H σ ob ρ _ w (Post.of_bind q ?_)
  rintro h ρ1 B1 F1 H1 ob1 x w1 s1 i1 r1 q
  cases h with
  | dat a =>
    obtain ⟨rfl, r1⟩ := r1
    try dsimp only at q
    split at q
    · rename_i hd
      have r1 : Rep P.K F1 x a := r1
      obtain ⟨p, rfl, hp⟩ := isD_of w1.fh r1 hd
      refine ⟨p, rfl, hp, ?_⟩
      refine hb.frz _ F0 F1 H1 σ ob1 ρ1 _ w1 (Post.of_bind (Post.up (Post.shift s1 i1 q)) ?_)
      rintro k ρ2 B2 F2 H2 ob2 y w2 s2 i2 ⟨rfl, r2⟩ q
      refine snd_mat hc _ F0 F2 H2 σ ob2 ρ2 _ w2 (Post.of_bind (Post.shift s2 i2 q) ?_)
      rintro z ρ3 B3 F3 H3 ob3 u w3 s3 i3 r3 q
      cases e1 : deref ρ3 k with
      | none => rw [e1] at q; exact q.elim
      | some b =>
        rw [e1] at q
        cases z with
        | dat z =>
          obtain ⟨rfl, r3⟩ := r3
          try dsimp only at q
          have rk := w3.deref (r2.mono s3 (i3 rfl)) e1
          cases e2 : dLook a b with
          | none => rw [e2] at q; exact q.elim
          | some rr =>
            rw [e2] at q
            obtain ⟨p', o, e3, h1, h2⟩ := dLook_ok w3.fh (.inl ((r1.mono s2).mono s3)) rk e2
            cases e3
            refine ⟨o, h1, ?_⟩
            cases rr with
            | none =>
              cases o with
              | some _ => exact h2.elim
              | none => exact q _ F3 H3 ob3 u w3 s3 i3 ⟨rfl, r3⟩
            | some d =>
              cases o with
              | none => exact h2.elim
              | some v => exact q _ F3 H3 ob3 v w3 s3 i3 ⟨rfl, h2⟩
        | _ => exact q.elim
    · exact q.elim
  | _ => exact q.elim
/-! d[k] = x, at a place of ours -/
def dPut (o : Own) (b d : D) : Option Own := match o with
  | .di kvs => match keyOf b with
    | some k => if kvs.length < big then some (.di (putA kvs k d)) else none
    | none => none
  | .ti kvs => match b with
    | .tup ds => match keysOf ds with
      | some k => if kvs.length < big then some (.ti (putA kvs k d)) else none
      | none => none
    | _ => none
  | _ => none
def sDPutP (k : Nat) (ok : Envi → Bool) (g e : Envi → R Hd) : Sem := fun ρ => (eMat e ρ).toFl fun x ρ1 => match x with
  | .dat d => if ok ρ1 = true then (match ρ1[k]? with
    | some (.ow _) => (eMat g ρ1).toFl fun y ρ2 => match y, ρ2[k]? with
      | .dat b, some (.ow o) => match dPut o b d with
        | some o' => .nx (ρ2.set k (.ow o'))
        | none => .stuck
      | _, _ => .stuck
    | _ => .stuck) else .stuck
  | _ => .stuck
theorem dPut_ok {a : Addr} {ho : HO} {o o' : Own} {y v : V} {b d : D} (s : Same F H) (h1 : H a = some ho) (h2 : OwnR K F ho o) (ry : Rep K F y b) (rv : Rep K F v d) (e : dPut o b d = some o') : ∃ ho', DPut H a y v (upd H a ho') ∧ OwnR K F ho' o' := by
  unfold dPut at e
  split at e
  · rename_i kvs
    obtain ⟨kv, rfl, h3, h4⟩ := h2
    cases e1 : keyOf b with
    | none => rw [e1] at e; cases e
    | some k =>
      rw [e1] at e
      dsimp only at e
      split at e
      · rename_i hl
        cases e
        have := keyOf_rep ry e1
        subst this
        have l := h4.len
        have l2 := putA_len kvs k d
        have l3 := (h4.put (k := k) rv).len
        exact ⟨.dK (putK kv k v), .k h1 (by rw [← big_line, l]; exact hl), ⟨_, rfl, by rw [← big_line, l3]; omega, h4.put rv⟩⟩
      · cases e
  · rename_i kvs
    obtain ⟨kv, rfl, h3, h4⟩ := h2
    split at e
    · rename_i ds
      cases e1 : keysOf ds with
      | none => rw [e1] at e; cases e
      | some k =>
        rw [e1] at e
        dsimp only at e
        split at e
        · rename_i hl
          cases e
          obtain ⟨c, rfl, hc⟩ := keyTup ry e1
          have l := h4.len
          have l2 := putA_len kvs k d
          have l3 := (h4.put (k := k) rv).len
          exact ⟨.dT (putK kv k v), .t h1 (s _ _ hc) (by rw [← big_line, l]; exact hl), ⟨_, rfl, by rw [← big_line, l3]; omega, h4.put rv⟩⟩
        · cases e
    · cases e
  · cases e
theorem snd_dput {k : Nat} {ok : Envi → Bool} (hp : SndP P to k ok) (hg : SndE P m W tb g) (he : SndE P true W te e) (hk : m = false ∨ k < P.n) : SndS P W (sDPut to tb te) (sDPutP k ok g e) := fun B F0 F H σ ob ρ D w q => by
  refine snd_mat he B F0 F H σ ob ρ _ w (Post.of_toFl (H := H) (ρ := ρ) q ?_)
  rintro x ρ1 B1 F1 H1 ob1 v w1 s1 i1 r1 q
  cases x with
  | dat d =>
    obtain ⟨rfl, r1⟩ := r1
    try dsimp only at q
    split at q
    · rename_i hok
      cases e0 : ρ1[k]? with
      | none => rw [e0] at q; exact q.elim
      | some sl =>
        rw [e0] at q
        cases sl with
        | ow o0 =>
          try dsimp only at q
          obtain ⟨a, ho, h1, h2, h3, h4, h5, h6, h7⟩ := w1.owned e0
          refine hp _ F0 F1 H1 σ ob1 ρ1 _ _ w1 hok h1 ?_
          refine snd_mat hg _ F0 F1 H1 σ ob1 ρ1 _ w1 (Post.of_toFl (H := H) (ρ := ρ) (q.shift s1) ?_)
          rintro y ρ2 B2 F2 H2 ob2 u w2 s2 i2 r2 q
          cases y with
          | dat b =>
            obtain ⟨rfl, r2⟩ := r2
            cases e1 : ρ2[k]? with
            | none => rw [e1] at q; exact q.elim
            | some sl =>
              rw [e1] at q
              cases sl with
              | ow o =>
                try dsimp only at q
                cases e2 : dPut o b d with
                | none => rw [e2] at q; exact q.elim
                | some o' =>
                  rw [e2] at q
                  obtain ⟨a', ho', g1, g2, g3, g4, g5, g6, g7⟩ := w2.owned e1
                  have := tau_keep (F2 := F1) (H2 := H1) (ρ2 := ρ1) w1 hk i2 h1
                  rw [g1] at this
                  cases this
                  obtain ⟨ho2, z1, z2⟩ := dPut_ok w2.fh g2 g3 r2 (Rep.mono s2 r1) e2
                  exact ⟨_, _, rfl, z1, q F2 _ σ ob2 (g6 ho2 o' z2) s2⟩
              | _ => exact q.elim
          | _ => exact q.elim
        | _ => exact q.elim
    · exact q.elim
  | _ => exact q.elim
/-! xs[i] = y, xs a local list of ours -/
def sSetL (k : Nat) (g e : Envi → R Hd) : Sem := fun ρ => (eMat e ρ).toFl fun x ρ1 => match x with
  | .dat d => match ρ1[k]? with
    | some (.ow _) => (eMat g ρ1).toFl fun y ρ2 => match y, ρ2[k]? with
      | .dat (.int i), some (.ow (.li l)) => match ixN l.length i with
        | some j => .nx (ρ2.set k (.ow (.li (l.set j d))))
        | none => .stuck
      | _, _ => .stuck
    | _ => .stuck
  | _ => .stuck
theorem snd_setL {k : Nat} (hk : k < P.n) (hg : SndE P m W tb g) (he : SndE P true W te e) : SndS P W (tAsg te (gSub (tVar k) tb rSetL)) (sSetL k g e) := fun B F0 F H σ ob ρ D w q => by
  refine snd_mat he B F0 F H σ ob ρ _ w (Post.of_toFl (H := H) (ρ := ρ) q ?_)
  rintro x ρ1 B1 F1 H1 ob1 v w1 s1 i1 r1 q
  cases x with
  | dat d =>
    obtain ⟨rfl, r1⟩ := r1
    try dsimp only at q
    cases e0 : ρ1[k]? with
    | none => rw [e0] at q; exact q.elim
    | some sl =>
      rw [e0] at q
      cases sl with
      | ow o0 =>
        try dsimp only at q
        obtain ⟨a, ho, h1, h2, h3, h4, h5, h6, h7⟩ := w1.owned e0
        show tVar k σ H1 _
        have h1' := h1
        rw [tau_lt (by rw [w1.n]; exact hk)] at h1'
        refine ⟨_, h1', ?_⟩
        refine snd_mat hg _ F0 F1 H1 σ ob1 ρ1 _ w1 (Post.of_toFl (H := H) (ρ := ρ) (q.shift s1) ?_)
        rintro y ρ2 B2 F2 H2 ob2 u w2 s2 i2 r2 q
        cases y with
        | dat b =>
          obtain ⟨rfl, r2⟩ := r2
          cases b with
          | int i =>
            cases r2
            cases e1 : ρ2[k]? with
            | none => rw [e1] at q; exact q.elim
            | some sl =>
              rw [e1] at q
              cases sl with
              | ow o =>
                cases o with
                | li l =>
                  try dsimp only at q
                  cases e2 : ixN l.length i with
                  | none => rw [e2] at q; exact q.elim
                  | some j =>
                    rw [e2] at q
                    obtain ⟨a', ho', g1, g2, g3, g4, g5, g6, g7⟩ := w2.owned e1
                    have := tau_keep (m := m) (F2 := F1) (H2 := H1) (ρ2 := ρ1) w1 (.inr hk) i2 h1
                    rw [g1] at this
                    cases this
                    obtain ⟨us, rfl, z1, z2⟩ := g3
                    have lz := z2.length
                    exact ⟨_, us, i, j, rfl, rfl, g2, by rw [lz]; exact e2, q F2 _ σ ob2 (g6 (.lst (us.set j v)) (.li (l.set j d)) ⟨_, rfl, by rw [List.length_set]; exact z1, z2.set (Rep.mono s2 r1) j⟩) s2⟩
                | _ => exact q.elim
              | _ => exact q.elim
          | _ => exact q.elim
        | _ => exact q.elim
      | _ => exact q.elim
  | _ => exact q.elim
/-! sorted(..) of data -/
def alikeB (ps : List PyData) : Bool := ps.all fun x => ps.all fun y => PySem.W.alike x y
def isTupP : PyData → Bool
  | .tuple (_ :: _) => true
  | _ => false
def plainP : PyData → Bool
  | .none => false
  | .tuple _ => false
  | _ => true
def sortableB (ps : List PyData) : Bool := ps.all isTupP || ps.all plainP
def depthB (ps : List PyData) : Bool := ps.all fun p => decide (p.depth ≤ 60)
def sortD (ds : List D) (ps : List PyData) : List D := ((ds.zip ps).mergeSort (PySem.W.dataLe false (·.2))).map (·.1)
def fSorted (ds : List D) : Rf := match ds with
  | [d] => match lstOf d with
    | some l => match toPys l with
      | some ps => if (alikeB ps && sortableB ps && depthB ps) = true then .ow (.li (sortD l ps)) else .stuck
      | none => .stuck
    | none => .stuck
  | _ => .stuck
theorem alikeB_ok {ps : List PyData} (h : alikeB ps = true) : PySem.W.AllAlike ps := fun d hd d' hd' => by
  unfold alikeB at h
  rw [List.all_eq_true] at h
  have := h d hd
  rw [List.all_eq_true] at this
  exact this d' hd'
theorem sortableB_ok {ps : List PyData} (h : sortableB ps = true) : PySem.W.Sortable ps := by
  unfold sortableB at h
  rw [Bool.or_eq_true, List.all_eq_true, List.all_eq_true] at h
  rcases h with h | h
  · refine .inl fun d hd => ?_
    have := h d hd
    unfold isTupP at this
    split at this
    · exact ⟨_, _, rfl⟩
    · cases this
  · refine .inr fun d hd => ⟨fun z => ?_, fun xs z => ?_⟩
    · have := h d hd; rw [z] at this; cases this
    · have := h d hd; rw [z] at this; cases this
theorem reps_zip {vs : List V} {ds : List Pv.D} (r : Reps K F vs ds) : ∀ p ∈ vs.zip ds, Rep K F p.1 p.2 := by
  intro p hp
  obtain ⟨i, hi⟩ := List.mem_iff_getElem?.mp hp
  rw [List.getElem?_zip_eq_some] at hi
  obtain ⟨v, h1, h2⟩ := r.get hi.2
  rw [hi.1] at h1
  cases h1
  exact h2
theorem Reps.ofPairs {l : List (V × Pv.D)} (h : ∀ p ∈ l, Rep K F p.1 p.2) : Reps K F (l.map (·.1)) (l.map (·.2)) := by
  induction l with
  | nil => exact .nil
  | cons a l ih => exact .cons (h a List.mem_cons_self) (ih fun p hp => h p (List.mem_cons_of_mem _ hp))
theorem zip3_map {α β γ : Type} : ∀ {a : List α} {b : List β} {c : List γ}, a.length = b.length → b.length = c.length → ((a.zip b).zip c).map (fun x => (x.1.1, x.2)) = a.zip c ∧ ((a.zip b).zip c).map (fun x => (x.1.2, x.2)) = b.zip c
  | [], [], [], _, _ => ⟨rfl, rfl⟩
  | a :: as, b :: bs, c :: cs, h, h' => by
    obtain ⟨i1, i2⟩ := zip3_map (a := as) (b := bs) (c := cs) (by simpa using h) (by simpa using h')
    exact ⟨by rw [List.zip_cons_cons, List.zip_cons_cons, List.map_cons, i1]; rfl, by rw [List.zip_cons_cons, List.zip_cons_cons, List.map_cons, i2]; rfl⟩
theorem sortV_rep {vs : List V} {ds : List Pv.D} {ps : List PyData} (r : Reps K F vs ds) (hl : vs.length = ps.length) : Reps K F (sortV vs ps) (sortD ds ps) := by
  have hd := r.length
  have hz := zip3_map (a := vs) (b := ds) (c := ps) hd (by omega)
  let L := (vs.zip ds).zip ps
  let le : (V × Pv.D) × PyData → (V × Pv.D) × PyData → Bool := PySem.W.dataLe false (·.2)
  have m1 : (vs.zip ps).mergeSort (PySem.W.dataLe false (·.2)) = (L.mergeSort le).map (fun x => (x.1.1, x.2)) := by
    rw [← hz.1]
    exact (List.map_mergeSort (f := fun x : (V × Pv.D) × PyData => (x.1.1, x.2)) (fun a _ b _ => rfl)).symm
  have m2 : (ds.zip ps).mergeSort (PySem.W.dataLe false (·.2)) = (L.mergeSort le).map (fun x => (x.1.2, x.2)) := by
    rw [← hz.2]
    exact (List.map_mergeSort (f := fun x : (V × Pv.D) × PyData => (x.1.2, x.2)) (fun a _ b _ => rfl)).symm
  unfold sortV sortD
  rw [m1, m2, List.map_map, List.map_map]
  have : ∀ p ∈ (L.mergeSort le).map (·.1), Rep K F p.1 p.2 := fun p hp => by
    obtain ⟨x, hx, rfl⟩ := List.mem_map.mp hp
    rw [List.mem_mergeSort] at hx
    exact reps_zip r _ (List.of_mem_zip hx).1
  have := Reps.ofPairs this
  rw [List.map_map, List.map_map] at this
  exact this
theorem cs_sorted : CallS K (rSortD K) fSorted := fun F H xs ds Q s bs q => by
  unfold fSorted at q
  split at q
  · rename_i d
    obtain ⟨v, rfl, b⟩ := breps_one bs
    cases e : lstOf d with
    | none => rw [e] at q; exact q.elim
    | some l =>
      rw [e] at q
      try dsimp only at q
      cases e2 : toPys l with
      | none => rw [e2] at q; exact q.elim
      | some ps =>
        rw [e2] at q
        try dsimp only at q
        split at q
        · rename_i hc
          rw [Bool.and_eq_true, Bool.and_eq_true] at hc
          obtain ⟨a, vs, rfl, h1, h2, h3⟩ := b.list s e
          have hdp := (h3.mono s).dp e2
          have hl := dpAll_len hdp
          refine ⟨a, vs, ps, rfl, h1, hdp, alikeB_ok hc.1.1, sortableB_ok hc.1.2, fun p hp => ?_, fun p hp => q F H p _ (.refl _ _) hp ⟨_, rfl, ?_, sortV_rep h3 hl⟩⟩
          · have := hc.2
            unfold depthB at this
            rw [List.all_eq_true] at this
            simpa using this p hp
          · unfold sortV
            rw [List.length_map, List.length_mergeSort, List.length_zip, ← hl, Nat.min_self]
            exact h2
        · exact q.elim
  · exact False.elim q
end
end Pv

set_option Elab.async false
set_option linter.all false
set_option maxRecDepth 100000
namespace Pv
open PySem PySem.Spec PyProof.Rows L2
/-! the law's own def; what the top has written -/
theorem fin_law {K : PySem.W.Frag} {ec : Exc → Value} {N : List Str} {ts : TS} {g : Sem} {vs : List V} {H F : Hp} {ds : List D} {Q : VK} (hs : SndS ⟨K, ec, N.length, [], 0, 0⟩ W0 ts g) (hn : vs.length ≤ N.length) (s : Same F H) (r : Reps K F vs ds)
    (h : toRf (g (initE N.length ds)) = .fz (.bl true)) (q : ∀ H', Q (.bl true) H') : ts { nx := fun _ H' => Q .non H', rt := Q } (L2.start N vs) H := by
  refine hs H F F H _ none _ _ (Wf.init hn s r) ?_
  cases eg : g (initE N.length ds) with
  | ret v ρ' =>
    rw [eg] at h
    cases v with
    | fz d =>
      cases h
      rintro B' F' H' σ' ob' u w s' ⟨rfl, r'⟩
      cases r'
      exact q H'
    | ow o => cases h
  | nx ρ' => rw [eg] at h; cases h
  | exc c ρ' => rw [eg] at h; cases h
  | bk ρ' => rw [eg] at h; cases h
  | ct ρ' => rw [eg] at h; cases h
  | stuck => rw [eg] at h; cases h
/-- a def that the top has written -/
structure Fn (K : PySem.W.Frag) (mg : Str → Option Value) (x : Str) (st : Stmt) (ps : List Str) where
  f : Addr
  fd : FuncData
  g : mg x = some (.ref f)
  k : PySem.W.keepIn K (.ref f) = true
  F : Fun K x x st f fd
  b : Binds K fd ps []
/-- an exception class of ours, without own __init__ -/
structure Xc (K : PySem.W.Frag) (mg : Str → Option Value) (x : Str) where
  C : Addr
  g : mg x = some (.ref C)
  k : PySem.W.keepIn K (.ref C) = true
  q : PySem.W.excIn K C [.type "ValueError", .type "Exception", .type "BaseException", .type "object"] "ValueError.__new__" = true
  e : PySem.W.subIn K (.ref C) (.type "BaseException") = some true
  t : PySem.W.typeIn K (.ref C) = some (.type "type")
theorem snd_tb {P : Pr} {m : Bool} {W : WX} {te : TE} {f : Envi → R Hd} (h : SndE P m W te f) : SndT P m W (tB te) (tsE f) := snd_ts h
/-- the reading of a def: what its body does -/
abbrev fsOf (n : Nat) (g : Sem) : List D → Rf := fun ds => toRf (g (initE n ds))
theorem fin_gen {K : PySem.W.Frag} {ec : Exc → Value} {N : List Str} {n : Nat} {ts : TS} {g : Sem} {vs : List V} {H : Hp} {Q : VK} {E : XK} (hs : SndS ⟨K, ec, N.length, [], 0, 0⟩ (fun cls d _ H => E cls d H) ts g) (hn : n ≤ N.length)
    (h : spF K ec n (fsOf N.length g) vs H Q E) : ts { nx := fun _ H' => Q .non H', rt := Q } (L2.start N vs) H := fin_of hs hn (fun _ _ _ => rfl) h
/-! while, by a number of turns at most -/
def sWhileN (N : Nat) (c : Envi → R Bool) (g : Sem) : Sem := runW c g N
theorem snd_whileN {P : Pr} {m : Bool} {W : WX} {tt : TT} {c : Envi → R Bool} {ts : TS} {g : Sem} (N : Nat) (hc : SndT P true W tt c) (hb : SndS P W ts g) : SndS P W (tWhile tt ts) (sWhileN N c g) := fun B F0 F H σ ob ρ D w q => by
  refine snd_while hc hb B F0 F H σ ob ρ D w ?_
  have hn : sWhileN N c g ρ ≠ .stuck := fun z => by rw [z] at q; exact q
  rw [sWhile_of (n := N) rfl hn]
  exact q

theorem units65 {k : Nat} {A : Around} (r : Room k A) : A.units + 65 < cLine := by have := r.un; omega
theorem units1 {k : Nat} {A : Around} (r : Room k A) : A.units + 1 < cLine := by have := r.un; omega
theorem nx_ofOpt {o : Option D} {e : Exc} : ofOpt o ≠ .exc e := by cases o <;> (intro z; cases z)
theorem nx_fIsi (ds : List D) (e : Exc) : fIsi ds ≠ .exc e := by
  unfold fIsi
  split
  · exact nx_ofOpt
  · intro z; cases z
theorem nx_fLen (ds : List D) (e : Exc) : fLen ds ≠ .exc e := by
  unfold fLen
  split
  · exact nx_ofOpt
  · intro z; cases z
theorem nx_fList (ds : List D) (e : Exc) : fList ds ≠ .exc e := by unfold fList; intro z; (repeat' split at z) <;> (first | exact ofOpt_exc _ _ z | cases z)
theorem nx_fTup (ds : List D) (e : Exc) : fTup ds ≠ .exc e := by unfold fTup; intro z; (repeat' split at z) <;> (first | exact ofOpt_exc _ _ z | cases z)
theorem nx_fTupP (ds : List D) (e : Exc) : fTupP ds ≠ .exc e := by unfold fTupP; intro z; (repeat' split at z) <;> (first | exact ofOpt_exc _ _ z | cases z)
theorem nx_fInt (ds : List D) (e : Exc) : fInt ds ≠ .exc e := by unfold fInt; intro z; (repeat' split at z) <;> (first | exact ofOpt_exc _ _ z | cases z)
theorem nx_fAbs (ds : List D) (e : Exc) : fAbs ds ≠ .exc e := by unfold fAbs; intro z; (repeat' split at z) <;> (first | exact ofOpt_exc _ _ z | cases z)
theorem nx_fMax2 (ds : List D) (e : Exc) : fMax2 ds ≠ .exc e := by unfold fMax2; intro z; (repeat' split at z) <;> (first | exact ofOpt_exc _ _ z | cases z)
theorem nx_fMin2 (ds : List D) (e : Exc) : fMin2 ds ≠ .exc e := by unfold fMin2; intro z; (repeat' split at z) <;> (first | exact ofOpt_exc _ _ z | cases z)
theorem nx_fStrI (ds : List D) (e : Exc) : fStrI ds ≠ .exc e := by unfold fStrI; intro z; (repeat' split at z) <;> (first | exact ofOpt_exc _ _ z | cases z)
theorem nx_fSum (ds : List D) (e : Exc) : fSum ds ≠ .exc e := by unfold fSum; intro z; (repeat' split at z) <;> (first | exact ofOpt_exc _ _ z | cases z)
theorem nx_fMin (ds : List D) (e : Exc) : fMin ds ≠ .exc e := by unfold fMin; intro z; (repeat' split at z) <;> (first | exact ofOpt_exc _ _ z | cases z)
theorem nx_fAll (ds : List D) (e : Exc) : fAll ds ≠ .exc e := by unfold fAll; intro z; (repeat' split at z) <;> (first | exact ofOpt_exc _ _ z | cases z)
theorem nx_fAny (ds : List D) (e : Exc) : fAny ds ≠ .exc e := by unfold fAny; intro z; (repeat' split at z) <;> (first | exact ofOpt_exc _ _ z | cases z)
theorem nx_fSorted (ds : List D) (e : Exc) : fSorted ds ≠ .exc e := by unfold fSorted; intro z; (repeat' split at z) <;> (first | exact ofOpt_exc _ _ z | cases z)
theorem nx_fDictK (ds : List D) (e : Exc) : fDictK ds ≠ .exc e := by unfold fDictK; intro z; (repeat' split at z) <;> (first | exact ofOpt_exc _ _ z | cases z)
theorem nx_fDictT (ds : List D) (e : Exc) : fDictT ds ≠ .exc e := by unfold fDictT; intro z; (repeat' split at z) <;> (first | exact ofOpt_exc _ _ z | cases z)
/-! a tuple of which all is known -/
def eTupF (g : Envi → R (List Hd)) : Envi → R Hd := fun ρ => (g ρ).bind fun hs ρ1 => match matAll ρ1 hs with
  | some (ds, ρ2) => .ok (.dat (.ktup ds)) ρ2
  | none => .stuck
theorem snd_tupF {P : Pr} {m : Bool} {W : WX} {n : Nat} {tr : TA} {fa : Envi → R (List Hd)} (h : SndA P m W n tr fa) (hn : n ≤ 1000 := by decide) : SndE P m W (tTupF tr) (eTupF fa) := fun B F0 F H σ ob ρ Q w q => by
  refine h B F0 F H σ ob ρ _ w (Post.of_bind (k := fun hs ρ1 => match matAll ρ1 hs with | some (ds, ρ2) => R.ok (Hd.dat (.ktup ds)) ρ2 | none => R.stuck) q ?_)
  rintro hs ρ2 B' F2 H2 ob2 ys w2 s2 i2 ⟨⟨rfl, r2⟩, hl⟩ q
  have hl' : ys.length ≤ sizeLine := by rw [hl]; exact small_line hn
  refine ⟨hl', fun p o hp ho => ?_⟩
  cases e : matAll ρ2 hs with
  | none => rw [e] at q; exact q.elim
  | some x =>
    obtain ⟨ds, ρ3⟩ := x
    rw [e] at q
    obtain ⟨F3, w3, s3, r3⟩ := w2.matAll r2 e
    have w4 := w3.grow (o := .frz o (.tup ys)) hp
    have s4 : Same F3 (upd F3 p (.frz o (.tup ys))) := same_new (w3.fh.free hp)
    exact q B' _ _ ob2 _ w4 ((s2.trans s3).trans s4) i2 ⟨rfl, .ktup (.inl ⟨o, upd_same, ho⟩) hl' (Reps.mono s4 r3)⟩
/-! the least of data -/
def rMinD (K : PySem.W.Frag) : List V → Hp → VK → Prop := fun xs H Q => ∃ (a : Addr) (vs : List V) (ps : List PyData), xs = [.ref a] ∧ SqL K H a vs ∧ DpAll K H vs ps ∧ PySem.W.AlikeAll ps ∧ PyData.depthAll ps ≤ 60 ∧ 0 < ps.length ∧
  ∀ v, vs[argBest (fun i j => PySem.W.dataLt (ps.getD i .none) (ps.getD j .none)) (ps.length - 1)]? = some v → Q v H
theorem vals_getV : ∀ {vs : List V} {us : List Value} {i : Nat} {u : Value}, Vals vs us → us[i]? = some u → ∃ x, vs[i]? = some x ∧ RelV x u
  | _, _, _, _, .nil, e => by simp at e
  | _, _, 0, _, .cons r _, e => by simp at e; subst e; exact ⟨_, rfl, r⟩
  | _, _, i + 1, x, .cons _ t, e => by
    obtain ⟨u, h1, h2⟩ := vals_getV (i := i) (u := x) t (by simpa using e)
    exact ⟨u, by simpa using h1, h2⟩
theorem cr_minD {X : Cx} (hc : X.calm = true) (hu : X.A.units + 64 < cLine) : CallR X (.builtin "min") (rMinD X.K) := by
  intro pins s σ H xs us Q I r h
  obtain ⟨a, vs, ps, rfl, hs, hd, hal, hdp, hn, q⟩ := h
  obtain ⟨its, rv, hl, hz⟩ := I.list hs
  rw [Vals.ref1 r]
  obtain ⟨as, hr⟩ := Dp.readsAll I _ _ _ hd rv
  have hsz : its.length = ps.length := by rw [← dpAll_len hd]; exact rv.length.symm
  refine PySem.call_min_walkH (PySem.W.iter_listW (A := X.A.in1) (I.ok.hd hc) hl.isList fun s₂ e W st hfp hw hk => ?_)
  refine ⟨_, _, _, _, _, _, _, s.heap, _, rfl, W, st, hfp, by simp; omega, hw, hk, PySem.W.cmpIn_lt (A := X.A.in1) (xs := ps) (by simpa using hr) hal (by show X.A.units + 1 + _ < _; omega), fun v s' hP m => ?_⟩
  obtain ⟨h', tk, rfl, hk'⟩ := PySem.W.moved_old e rfl m
  have hP : its.toArray[_]? = some v := hP
  rw [List.size_toArray, hsz] at hP
  have I' : Inv X pins σ H { s with heap := h', toks := tk } := I.kept hk'
  rw [List.getElem?_toArray] at hP
  obtain ⟨x, h1, h2⟩ := vals_getV rv hP
  exact ⟨x, H, I', h2, q x h1⟩
def noNone (ps : List PyData) : Bool := ps.all fun p => match p with
  | .none => false
  | _ => true
def minIx (ps : List PyData) : Nat := argBest (fun i j => PySem.W.dataLt (ps.getD i .none) (ps.getD j .none)) (ps.length - 1)
def minOk (ps : List PyData) : Bool := alikeB ps && noNone ps && decide (PyData.depthAll ps ≤ 60) && decide (0 < ps.length)
def fMinD (ds : List D) : Rf := match ds with
  | [d] => match lstOf d with
    | some l => match toPys l with
      | some ps => if minOk ps = true then ofOpt l[minIx ps]? else .stuck
      | none => .stuck
    | none => .stuck
  | _ => .stuck
theorem noNone_ok {ps : List PyData} (h : noNone ps = true) : ∀ x ∈ ps, x ≠ .none := fun x hx e => by
  unfold noNone at h
  rw [List.all_eq_true] at h
  have := h x hx
  rw [e] at this
  cases this
theorem cs_minD {K : PySem.W.Frag} : CallS K (rMinD K) fMinD := fun F H xs ds Q s bs q => by
  unfold fMinD at q
  split at q
  · rename_i d
    obtain ⟨v, rfl, b⟩ := breps_one bs
    cases e : lstOf d with
    | none => rw [e] at q; exact q.elim
    | some l =>
      rw [e] at q
      try dsimp only at q
      cases e2 : toPys l with
      | none => rw [e2] at q; exact q.elim
      | some ps =>
        rw [e2] at q
        try dsimp only at q
        split at q
        · rename_i hc
          unfold minOk at hc
          rw [Bool.and_eq_true, Bool.and_eq_true, Bool.and_eq_true] at hc
          obtain ⟨⟨⟨c1, c2⟩, c3⟩, c4⟩ := hc
          obtain ⟨a, vs, rfl, h1, h2, h3⟩ := b.list s e
          refine ⟨a, vs, ps, rfl, h1, (h3.mono s).dp e2, ⟨fun x hx y hy => alikeB_ok c1 x hx y hy, noNone_ok c2⟩, of_decide_eq_true c3, of_decide_eq_true c4, fun v hv => ?_⟩
          obtain ⟨d', g1, g2⟩ := h3.getV hv
          have g1 : l[minIx ps]? = some d' := g1
          rw [g1] at q
          exact q F H v (.refl _ _) g2
        · exact q.elim
  · exact False.elim q
theorem nx_fMinD (ds : List D) (e : Exc) : fMinD ds ≠ .exc e := by unfold fMinD; intro z; (repeat' split at z) <;> (first | exact ofOpt_exc _ _ z | cases z)
theorem bt_isinstance : bootBuiltins "isinstance" = some (.builtin "isinstance") := by decide +kernel
theorem bt_len : bootBuiltins "len" = some (.builtin "len") := by decide +kernel
theorem bt_all : bootBuiltins "all" = some (.builtin "all") := by decide +kernel
theorem bt_any : bootBuiltins "any" = some (.builtin "any") := by decide +kernel
theorem bt_sum : bootBuiltins "sum" = some (.builtin "sum") := by decide +kernel
theorem bt_min : bootBuiltins "min" = some (.builtin "min") := by decide +kernel
theorem bt_max : bootBuiltins "max" = some (.builtin "max") := by decide +kernel
theorem bt_sorted : bootBuiltins "sorted" = some (.builtin "sorted") := by decide +kernel
theorem bt_abs : bootBuiltins "abs" = some (.builtin "abs") := by decide +kernel
theorem bt_int : bootBuiltins "int" = some (.type "int") := by decide +kernel
theorem bt_bool : bootBuiltins "bool" = some (.type "bool") := by decide +kernel
theorem bt_tuple : bootBuiltins "tuple" = some (.type "tuple") := by decide +kernel
theorem bt_list : bootBuiltins "list" = some (.type "list") := by decide +kernel
theorem bt_dict : bootBuiltins "dict" = some (.type "dict") := by decide +kernel
theorem bt_str : bootBuiltins "str" = some (.type "str") := by decide +kernel
theorem bt_range : bootBuiltins "range" = some (.type "range") := by decide +kernel
theorem bt_enumerate : bootBuiltins "enumerate" = some (.type "enumerate") := by decide +kernel
theorem bt_zip : bootBuiltins "zip" = some (.type "zip") := by decide +kernel
theorem bt_ValueError : bootBuiltins "ValueError" = some (.type "ValueError") := by decide +kernel
theorem bt_object : bootBuiltins "object" = some (.type "object") := by decide +kernel
theorem ltN {a b : Nat} (h : Nat.ble (a + 1) b = true) : a < b := Nat.le_of_ble_eq_true h
theorem leN {a b : Nat} (h : Nat.ble a b = true) : a ≤ b := Nat.le_of_ble_eq_true h
def blkB (N : List Str) (sc scope : Scope) (own : List (Str × Nat)) : Bool :=
  decide (scope.kind = .function) && (scope.names.all fun y => decide (scope.names.lookup y.1 = some y.2)) && (own.all fun p => decide (N[p.2]? = some p.1)) &&
  (scope.names.all fun y => if y.2 = .free then decide (sc.names.lookup y.1 = some .cell) || decide (sc.names.lookup y.1 = some .free) else true) &&
  (scope.names.all fun y => if y.2 = .local ∨ y.2 = .cell then decide (y.1 ∈ own.map (·.1)) || !decide (y.1 ∈ N) else true)
theorem blk_of {N : List Str} {sc scope : Scope} {own : List (Str × Nat)} (h : blkB N sc scope own = true) : BlkOk N sc scope own := by
  unfold blkB at h
  simp only [Bool.and_eq_true, List.all_eq_true, decide_eq_true_eq] at h
  obtain ⟨⟨⟨⟨h1, h2⟩, h3⟩, h4⟩, h5⟩ := h
  refine ⟨h1, h2, h3, fun y hy e => ?_, fun y hy e => ?_⟩
  · have := h4 y hy
    rw [if_pos e, Bool.or_eq_true, decide_eq_true_eq, decide_eq_true_eq] at this
    exact this
  · have := h5 y hy
    rw [if_pos e, Bool.or_eq_true, decide_eq_true_eq, Bool.not_eq_true', decide_eq_false_iff_not] at this
    exact this
end Pv

set_option Elab.async false
set_option linter.all false
set_option maxRecDepth 100000
namespace Pv
open PySem PySem.Spec PyProof.Rows L2
/-! try .. except X as e -/
def clr (i : Nat) : Fl → Fl
  | .nx ρ => .nx (ρ.set i .un)
  | .bk ρ => .bk (ρ.set i .un)
  | .ct ρ => .ct (ρ.set i .un)
  | .ret v ρ => .ret v (ρ.set i .un)
  | .exc _ _ => .stuck
  | .stuck => .stuck
def sTry (i : Nat) (cl : Exc → Option Bool) (body : Sem) (su : Exc → Sem) : Sem := fun ρ => match body ρ with
  | .exc c ρ1 => match cl c with
    | some true => clr i (su c (ρ1.set i (.fz (.adr 0))))
    | some false => .exc c ρ1
    | none => .stuck
  | r => r
section
variable {P : Pr} {m : Bool} {W Wout : WX} {B F0 F H : Hp} {σ : L2.St} {ob : Ob} {ρ : Envi} {D : Ends}
theorem clr_post {i : Nat} (hi : i < P.n) : ∀ {r : Fl}, PostS P B F0 F Wout D (clr i r) → PostS P B F0 F W0 { nx := fun σ' H' => D.nx (σ'.set i none) H', rt := D.rt, bk := fun σ' H' => D.bk (σ'.set i none) H', ct := fun σ' H' => D.ct (σ'.set i none) H' } r
  | .nx ρ, h => fun F' H' σ' ob' w s => h F' H' _ ob' (w.set hi rfl fun _ => True.intro) s
  | .bk ρ, h => fun F' H' σ' ob' w s => h F' H' _ ob' (w.set hi rfl fun _ => True.intro) s
  | .ct ρ, h => fun F' H' σ' ob' w s => h F' H' _ ob' (w.set hi rfl fun _ => True.intro) s
  | .ret v ρ, h => fun B' F' H' σ' ob' u w s r => h B' F' H' _ ob' u (w.set (v := none) hi rfl fun _ => True.intro) s r
  | .exc _ _, h => h.elim
  | .stuck, h => h.elim
theorem snd_try {tb : WX → TS} {ts : Addr → Value → Option Addr → TS} {i : Nat} {cv : Value} {body : Sem} {su : Addr → Exc → Sem} (cl : Exc → Option Bool) (hi : i < P.n) (hcl : ∀ c b, cl c = some b → PySem.W.exmOne P.K (P.ec c) cv = some b)
    (hb : ∀ W, SndS P W (tb W) body) (hsu : ∀ a c, cl c = some true → SndS P W0 (ts a (P.ec c) none) (su a c))
    (hind : ∀ (a : Addr) (c : Exc) (ρ : Envi), clr i (su a c (ρ.set i (.fz (.adr a)))) = clr i (su 0 c (ρ.set i (.fz (.adr 0))))) :
    SndS P Wout (fun D σ H => tb (wAs P.K cv i ts Wout D) D σ H) (sTry i cl body (fun c => su 0 c)) := fun B F0 F H σ ob ρ D w q => by
  refine hb _ B F0 F H σ ob ρ D w ?_
  unfold sTry at q
  cases e : body ρ with
  | nx ρ1 => rw [e] at q; exact q
  | bk ρ1 => rw [e] at q; exact q
  | ct ρ1 => rw [e] at q; exact q
  | ret v ρ1 => rw [e] at q; exact q
  | stuck => rw [e] at q; exact q
  | exc c ρ1 =>
    rw [e] at q
    try dsimp only at q
    intro F' H' σ' ob' w' s
    cases ec : cl c with
    | none => rw [ec] at q; exact q.elim
    | some b =>
      rw [ec] at q
      refine ⟨b, hcl c b ec, fun hb a ha => ?_, fun hb => ?_⟩
      · subst hb
        try dsimp only at q
        refine hsu a c ec B F0 F' H' _ ob' (ρ1.set i (.fz (.adr a))) _ (w'.set hi rfl fun _ => ⟨_, rfl, .adr a⟩) (clr_post (Wout := Wout) hi ?_)
        rw [hind a c ρ1]
        exact q.shift s
      · subst hb
        exact q F' H' σ' ob' w' s
/-- isinstance(e, X) in the suite, e the error caught -/
def rIsX (K : PySem.W.Frag) (a : Addr) (cls : Value) (d : Option Addr) : List V → Hp → VK → Prop := fun xs H Q => ∃ D, cls = .ref D ∧ d = none ∧ ExcC K D ∧ rIsE K D a xs H Q
theorem call_isX {X : Cx} {a : Addr} {oe : Obj} {cls : Value} {d : Option Addr} {pn : List (Addr × Obj)} (hz : Zc cls d oe) (hf : ∃ vs, oe.data = .fields vs) : CallR (X.suite a ((a, oe) :: pn)) (.builtin "isinstance") (rIsX X.K a cls d) := by
  intro pins s σ H xs us Q I r h
  obtain ⟨D, rfl, rfl, C, h⟩ := h
  exact call_isE C hz hf pins s σ H xs us Q I r h
def eIsX (i : Nat) (a : Addr) (b : Bool) : Envi → R Hd := fun ρ => match ρ[i]? with
  | some (.fz (.adr a')) => if a' = a then .ok (.dat (.bl b)) ρ else .stuck
  | _ => .stuck
theorem snd_isX {i : Nat} {a : Addr} {v : V} {c : Exc} {b : Bool} (hi : i < P.n) (h : ∃ D cv, P.ec c = .ref D ∧ ExcC P.K D ∧ (∀ u, RelV v u → u = cv) ∧ PySem.W.kitOne P.K (.ref D) cv = some b) :
    SndE P m W (tCB (rIsX P.K a (P.ec c) none) (tCons (tVar i) (tCons (tC v) tNil))) (eIsX i a b) := fun B F0 F H σ ob ρ Q w q => by
  unfold eIsX at q
  split at q
  · rename_i a' e
    split at q
    · rename_i ea
      subst ea
      obtain ⟨D, cv, h1, h2, h3, h4⟩ := h
      obtain ⟨al, s1, _⟩ := w.sl
      obtain ⟨u, e1, e2⟩ := s1 i _ e
      cases e2
      have hi' : i < σ.length := by rw [w.n]; exact hi
      rw [tau_lt hi'] at e1
      have e3 : σ[i]? = some (some (.ref a')) := by
        rw [List.getElem?_eq_getElem hi'] at e1 ⊢
        rw [show σ[i] = some (.ref a') from e1]
      exact ⟨_, e3, D, h1, rfl, h2, v, cv, b, rfl, h3, h4, q B F H ob _ w (Same.refl _) (fun _ => rfl) ⟨rfl, .bl b⟩⟩
    · exact q.elim
  · exact q.elim
theorem relv_ref {a : Addr} : ∀ u, RelV (.ref a) u → u = .ref a := fun u h => h
theorem relv_ty {n : String} : ∀ u, RelV (.ty n) u → u = .type n := fun u h => h
theorem eIsX_set {i : Nat} {a : Addr} {b : Bool} {ρ : Envi} : eIsX i a b (ρ.set i (.fz (.adr a))) = if i < ρ.length then .ok (.dat (.bl b)) (ρ.set i (.fz (.adr a))) else .stuck := by
  unfold eIsX
  by_cases h : i < ρ.length
  · rw [List.getElem?_set_self h, if_pos h]; exact if_pos rfl
  · rw [if_neg h, List.getElem?_eq_none (by rw [List.length_set]; omega)]
/-- an error class asked after -/
structure XcI (K : PySem.W.Frag) (mg : Str → Option Value) (x : Str) extends Xc K mg x where
  i : ExcC K C
end
end Pv

set_option Elab.async false
set_option linter.all false
set_option maxRecDepth 100000
namespace Pv
open PySem PySem.Spec PyProof.Rows L2
open PySem.W (Datum DatumOrd Tup T3 T4)
/-! data with a type of Lean -/
class Lay (α : Type) [DecidableEq α] [Datum α] : Prop where
  lay : ∀ x : α, PyData.canLay0 (Datum.toD x) = true
instance : Lay Int := ⟨fun x => by show PyData.canLay0 (.int x) = true; simp [PyData.canLay0]⟩
instance : Lay Bool := ⟨fun x => by show PyData.canLay0 (.bool x) = true; simp [PyData.canLay0]⟩
instance : Lay Unit := ⟨fun x => by show PyData.canLay0 .none = true; simp [PyData.canLay0]⟩
section
variable {α β γ δ : Type} [DecidableEq α] [Datum α] [DecidableEq β] [Datum β] [DecidableEq γ] [Datum γ] [DecidableEq δ] [Datum δ]
theorem layAll [Lay α] : ∀ xs : List α, PyData.canLayAll0 (xs.map Datum.toD) = true
  | [] => by simp [PyData.canLayAll0]
  | x :: xs => by rw [List.map_cons, PyData.canLayAll0, Lay.lay x, layAll xs]; rfl
instance [Lay α] : Lay (List α) := ⟨fun x => by show PyData.canLay0 (.list _) = true; rw [PyData.canLay0]; exact layAll x⟩
instance [Lay α] : Lay (Tup α) := ⟨fun x => by show PyData.canLay0 (.tuple _) = true; rw [PyData.canLay0]; exact layAll x.items⟩
instance [Lay α] [Lay β] : Lay (α × β) := ⟨fun x => by show PyData.canLay0 (.tuple [_, _]) = true; simp [PyData.canLay0, PyData.canLayAll0, Lay.lay]⟩
instance [Lay α] [Lay β] [Lay γ] : Lay (T3 α β γ) := ⟨fun x => by show PyData.canLay0 (.tuple [_, _, _]) = true; simp [PyData.canLay0, PyData.canLayAll0, Lay.lay]⟩
instance [Lay α] [Lay β] [Lay γ] [Lay δ] : Lay (T4 α β γ δ) := ⟨fun x => by show PyData.canLay0 (.tuple [_, _, _, _]) = true; simp [PyData.canLay0, PyData.canLayAll0, Lay.lay]⟩
/-- the datum d stands for x -/
def Is (d : D) (x : α) : Prop := toPy d = some (Datum.toD x)
def Iss (ds : List D) (xs : List α) : Prop := toPys ds = some (xs.map Datum.toD)
theorem shaped_is [Lay α] (hd : Datum.depth α ≤ 64) (x : α) : SeqAt.shaped (Datum.toD x) = true := by
  unfold SeqAt.shaped
  rw [Lay.lay x, Bool.true_and, decide_eq_true_eq]
  exact Nat.le_trans (Datum.depth_le x) hd
theorem is_int (i : Int) : Is (.int i) i := rfl
theorem is_bl (i : Bool) : Is (.bl i) i := rfl
theorem iss_nil : Iss [] ([] : List α) := rfl
theorem Iss.cons {d : D} {ds : List D} {x : α} {xs : List α} (h : Is d x) (g : Iss ds xs) : Iss (d :: ds) (x :: xs) := by
  unfold Iss toPys
  rw [h, g]
  rfl
theorem iss_map {enc : α → D} (h : ∀ x, Is (enc x) x) : ∀ xs : List α, Iss (xs.map enc) xs
  | [] => rfl
  | x :: xs => .cons (h x) (iss_map h xs)
theorem iss_ints (xs : List Int) : Iss (xs.map .int) xs := iss_map is_int xs
theorem is_tup {ds : List D} {xs : List α} (h : Iss ds xs) : Is (.tup ds) (Tup.mk xs) := by
  show (toPys ds).map _ = _
  rw [h]; rfl
theorem is_ktup {ds : List D} {xs : List α} (h : Iss ds xs) : Is (.ktup ds) (Tup.mk xs) := by
  show (toPys ds).map _ = _
  rw [h]; rfl
theorem is_lst {ds : List D} {xs : List α} (h : Iss ds xs) : Is (.lst ds) xs := by
  show (toPys ds).map _ = _
  rw [h]; rfl
theorem is_klst {ds : List D} {xs : List α} (h : Iss ds xs) : Is (.klst ds) xs := by
  show (toPys ds).map _ = _
  rw [h]; rfl
theorem is_pair {a b : D} {x : α} {y : β} (h : Is a x) (g : Is b y) : Is (.tup [a, b]) (x, y) := by
  show (toPys [a, b]).map _ = _
  simp only [toPys]
  rw [h, g]; rfl
theorem is_t3 {a b c : D} {x : T3 α β γ} (h : Is a x.a) (g : Is b x.b) (k : Is c x.c) : Is (.tup [a, b, c]) x := by
  show (toPys [a, b, c]).map _ = _
  simp only [toPys]
  rw [h, g, k]; rfl
theorem is_t4 {a b c d : D} {x : T4 α β γ δ} (h : Is a x.a) (g : Is b x.b) (k : Is c x.c) (l : Is d x.d) : Is (.tup [a, b, c, d]) x := by
  show (toPys [a, b, c, d]).map _ = _
  simp only [toPys]
  rw [h, g, k, l]; rfl
theorem eqD_is [Lay α] {a b : D} {x y : α} (h : Is a x) (g : Is b y) (hd : Datum.depth α ≤ 64) : eqD a b = some (decide (x = y)) := by
  unfold eqD
  rw [h, g]
  simp only [shaped_is hd, Bool.and_self, if_true, Datum.eqv]
theorem opEq_is [Lay α] {a b : D} {x y : α} (h : Is a x) (g : Is b y) (hd : Datum.depth α ≤ 64) : opEq a b = some (.bl (decide (x = y))) := by unfold opEq; rw [eqD_is h g hd]; rfl
theorem opNe_is [Lay α] {a b : D} {x y : α} (h : Is a x) (g : Is b y) (hd : Datum.depth α ≤ 64) : opNe a b = some (.bl (!decide (x = y))) := by unfold opNe; rw [eqD_is h g hd]; rfl
theorem any_is (x : α) : ∀ ys : List α, ((ys.map Datum.toD).any fun z => PyData.eqv z (Datum.toD x)) = decide (x ∈ ys)
  | [] => rfl
  | z :: zs => by
    rw [List.map_cons, List.any_cons, any_is x zs, Datum.eqv, ← Bool.decide_or]
    exact decide_eq_decide.mpr (by rw [List.mem_cons]; exact ⟨fun e => e.elim (fun e => .inl e.symm) .inr, fun e => e.elim (fun e => .inl e.symm) .inr⟩)
theorem inD_is [Lay α] {a l : D} {ds : List D} {x : α} {xs : List α} (h : Is a x) (hl : lstOf l = some ds) (g : Iss ds xs) (hd : Datum.depth α ≤ 60) : inD a l = some (decide (x ∈ xs)) := by
  have hn : dLook l a = none := by
    unfold dLook
    cases l <;> first | rfl | cases hl
  unfold inD
  rw [hn, hl]
  simp only
  rw [h, g]
  have s1 := shaped_is (α := α) (by omega) x
  have s2 := shaped_is (α := List α) (by show Datum.depth α + 1 ≤ 64; omega) xs
  have s2 : SeqAt.shaped (.list (xs.map Datum.toD)) = true := s2
  simp only [s1, s2, Bool.and_self, if_true, Option.some.injEq]
  exact any_is x xs
theorem opIn_is [Lay α] {a l : D} {ds : List D} {x : α} {xs : List α} (h : Is a x) (hl : lstOf l = some ds) (g : Iss ds xs) (hd : Datum.depth α ≤ 60) : opIn a l = some (.bl (decide (x ∈ xs))) := by unfold opIn; rw [inD_is h hl g hd]; rfl
theorem opNotIn_is [Lay α] {a l : D} {ds : List D} {x : α} {xs : List α} (h : Is a x) (hl : lstOf l = some ds) (g : Iss ds xs) (hd : Datum.depth α ≤ 60) : opNotIn a l = some (.bl (!decide (x ∈ xs))) := by unfold opNotIn; rw [inD_is h hl g hd]; rfl
theorem firstIx_is (x : α) : ∀ xs : List α, x ∈ xs → firstIx (Datum.toD x) (xs.map Datum.toD) = some (xs.idxOf x)
  | [], h => nomatch h
  | y :: ys, h => by
    rw [List.map_cons, firstIx, Datum.eqv]
    by_cases e : y = x
    · rw [if_pos (decide_eq_true e), e, List.idxOf_cons_self]
    · rw [if_neg (by simpa using e), firstIx_is x ys (by rcases List.mem_cons.mp h with h | h; exact absurd h.symm e; exact h), List.idxOf_cons, show (y == x) = false by simpa using e]
      rfl
theorem ixD_is [Lay α] {a : D} {ds : List D} {x : α} {xs : List α} {wrap : List PyData → PyData} (h : Is a x) (g : Iss ds xs) (hx : x ∈ xs) (hd : Datum.depth α ≤ 60) (hw : wrap = .list ∨ wrap = .tuple) : ixD ds a wrap = some (.int (xs.idxOf x : Nat)) := by
  unfold ixD
  rw [h, g]
  have s1 := shaped_is (α := α) (by omega) x
  have s2 : SeqAt.shaped (wrap (xs.map Datum.toD)) = true := by
    rcases hw with rfl | rfl
    · exact shaped_is (α := List α) (by show Datum.depth α + 1 ≤ 64; omega) xs
    · exact shaped_is (α := Tup α) (by show Datum.depth α + 1 ≤ 64; omega) ⟨xs⟩
  simp only [s1, s2, Bool.and_self, if_true, firstIx_is x xs hx]
  rfl
end
section
variable {α : Type} [DecidableEq α] [DatumOrd α]
theorem alikeB_is (xs : List α) : alikeB (xs.map Datum.toD) = true := by
  unfold alikeB
  rw [List.all_eq_true]
  intro x hx
  rw [List.all_eq_true]
  intro y hy
  exact (PySem.W.alikeAll_datum xs).1 x hx y hy
theorem noNone_is (xs : List α) : noNone (xs.map Datum.toD) = true := by
  unfold noNone
  rw [List.all_eq_true]
  intro x hx
  have := (PySem.W.alikeAll_datum xs).2 x hx
  cases x <;> first | rfl | exact absurd rfl this
theorem minOk_is {xs : List α} (hn : xs ≠ []) (hd : Datum.depth α ≤ 60) : minOk (xs.map Datum.toD) = true := by
  unfold minOk
  rw [alikeB_is, noNone_is, decide_eq_true (Nat.le_trans (PySem.W.depthAll_map xs) hd), decide_eq_true (by rw [List.length_map]; exact List.length_pos_iff.mpr hn)]
  rfl
/-- the place of the first of the least -/
def minAt : List α → Nat
  | [] => 0
  | x :: xs => argBest (fun i j => DatumOrd.lt ((x :: xs).getD i x) ((x :: xs).getD j x)) xs.length
theorem argBest_le (bt : Nat → Nat → Bool) : ∀ n, argBest bt n ≤ n
  | 0 => Nat.le_refl _
  | n + 1 => by
    unfold argBest
    split
    · exact Nat.le_refl _
    · exact Nat.le_succ_of_le (argBest_le bt n)
theorem argBest_congr {bt bt' : Nat → Nat → Bool} : ∀ n, (∀ i j, i ≤ n → j ≤ n → bt i j = bt' i j) → argBest bt n = argBest bt' n
  | 0, _ => rfl
  | n + 1, h => by
    unfold argBest
    have ih := argBest_congr (bt := bt) (bt' := bt') n fun i j hi hj => h i j (by omega) (by omega)
    rw [ih, h (n + 1) (argBest bt' n) (Nat.le_refl _) (Nat.le_succ_of_le (argBest_le _ n))]
theorem minIx_is (xs : List α) : minIx (xs.map Datum.toD) = minAt xs := by
  cases xs with
  | nil => rfl
  | cons x xs =>
    unfold minIx minAt
    rw [List.length_map, List.length_cons, Nat.add_sub_cancel]
    refine argBest_congr _ fun i j hi hj => ?_
    have g : ∀ k, k ≤ xs.length → ((x :: xs).map Datum.toD).getD k .none = Datum.toD ((x :: xs).getD k x) := fun k hk => by
      have hk' : k < (x :: xs).length := by rw [List.length_cons]; omega
      rw [List.getD_eq_getElem?_getD, List.getD_eq_getElem?_getD, List.getElem?_map, List.getElem?_eq_getElem hk']
      rfl
    rw [g i hi, g j hj, DatumOrd.lt_eq]
theorem fMinD_is {d : D} {ds : List D} {xs : List α} (hl : lstOf d = some ds) (h : Iss ds xs) (hn : xs ≠ []) (hd : Datum.depth α ≤ 60) : fMinD [d] = ofOpt ds[minAt xs]? := by
  have h : toPys ds = some (xs.map Datum.toD) := h
  simp only [fMinD, hl, h, minOk_is hn hd, if_true, minIx_is]
end
/-! for, comprehensions -/
theorem runFor_inv {α : Type} {b : Bnd} {g : Sem} (st : α → Envi) (f : α → D → α) (I : List D → α → Prop) (h : ∀ d r a, I (d :: r) a → (∃ ρ1, b d (st a) = some ρ1 ∧ (g ρ1 = .nx (st (f a d)) ∨ g ρ1 = .ct (st (f a d)))) ∧ I r (f a d)) :
    ∀ ds a, I ds a → runFor b g ds (st a) = .nx (st (ds.foldl f a)) ∧ I [] (ds.foldl f a)
  | [], a, i => ⟨rfl, i⟩
  | d :: r, a, i => by
    obtain ⟨⟨ρ1, h1, h2⟩, h3⟩ := h d r a i
    have ih := runFor_inv st f I h r (f a d) h3
    unfold runFor
    rw [h1]
    rcases h2 with h2 | h2
    · simp only [h2]; exact ih
    · simp only [h2]; exact ih
theorem runFor_map {ι α : Type} {b : Bnd} {g : Sem} {enc : ι → D} (st : α → Envi) (f : α → ι → α) (I : List ι → α → Prop) (h : ∀ d r a, I (d :: r) a → (∃ ρ1, b (enc d) (st a) = some ρ1 ∧ (g ρ1 = .nx (st (f a d)) ∨ g ρ1 = .ct (st (f a d)))) ∧ I r (f a d)) :
    ∀ ds a, I ds a → runFor b g (ds.map enc) (st a) = .nx (st (ds.foldl f a)) ∧ I [] (ds.foldl f a)
  | [], a, i => ⟨rfl, i⟩
  | d :: r, a, i => by
    obtain ⟨⟨ρ1, h1, h2⟩, h3⟩ := h d r a i
    have ih := runFor_map (b := b) (g := g) (enc := enc) st f I h r (f a d) h3
    rw [List.map_cons]
    unfold runFor
    rw [h1]
    rcases h2 with h2 | h2
    · simp only [h2]; exact ih
    · simp only [h2]; exact ih
theorem runComp_map {ι : Type} {b : Bnd} {c : Envi → R Bool} {e : Envi → R Hd} {vs : List Nat} {enc : ι → D} (ρ : Envi) (F : ι → Option D) : ∀ l : List ι,
    (∀ x ∈ l, ∃ ρ1, b (enc x) ρ = some ρ1 ∧ ((c ρ1 = .ok false ρ1 ∧ F x = none ∧ wipeE ρ1 vs = ρ) ∨ (c ρ1 = .ok true ρ1 ∧ ∃ d ρ2, eMat e ρ1 = .ok (.dat d) ρ2 ∧ F x = some d ∧ wipeE ρ2 vs = ρ))) →
    runComp b c e vs (l.map enc) ρ = some (l.filterMap F, ρ)
  | [], _ => rfl
  | x :: l, h => by
    obtain ⟨ρ1, h1, h2⟩ := h x List.mem_cons_self
    have ih := runComp_map (b := b) (c := c) (e := e) (vs := vs) (enc := enc) ρ F l fun y hy => h y (List.mem_cons_of_mem _ hy)
    rw [List.map_cons]
    unfold runComp
    rw [h1]
    rcases h2 with ⟨h2, h3, h4⟩ | ⟨h2, d, ρ2, h3, h4, h5⟩
    · simp only [h2, h4, ih]
      rw [List.filterMap_cons_none h3]
    · simp only [h2, h3, h5, ih]
      rw [List.filterMap_cons_some h4]
end Pv

set_option Elab.async false
set_option linter.all false
set_option maxRecDepth 100000
namespace Pv
open PySem PySem.Spec PyProof.Rows L2
open PySem.W (Datum DatumOrd Tup T3 T4)
/-! equations to compute with -/
section
variable {α β : Type} {ρ ρ1 : Envi} {i n : Nat} {d a b : D} {o : Own} {c : Exc}
theorem R.bind_congr {r r' : R α} {k : α → Envi → R β} (h : r = r') : r.bind k = r'.bind k := by rw [h]
theorem R.toFl_congr {r r' : R α} {k : α → Envi → Fl} (h : r = r') : r.toFl k = r'.toFl k := by rw [h]
@[simp] theorem y_bind_ok {x : α} {k : α → Envi → R β} : (R.ok x ρ).bind k = k x ρ := id rfl
@[simp] theorem y_bind_exc {k : α → Envi → R β} : (R.exc c ρ : R α).bind k = .exc c ρ := id rfl
@[simp] theorem y_bind_stuck {k : α → Envi → R β} : (R.stuck : R α).bind k = .stuck := id rfl
@[simp] theorem y_toFl_ok {x : α} {k : α → Envi → Fl} : (R.ok x ρ).toFl k = k x ρ := id rfl
@[simp] theorem y_toFl_exc {k : α → Envi → Fl} : (R.exc c ρ : R α).toFl k = .exc c ρ := id rfl
@[simp] theorem y_toFl_stuck {k : α → Envi → Fl} : (R.stuck : R α).toFl k = .stuck := id rfl
@[simp] theorem y_frz_dat : (R.ok (.dat d) ρ).frz = .ok (.dat d) ρ := id rfl
@[simp] theorem y_frz_pl : (R.ok (.pl i) ρ).frz = .ok (.pl i) ρ := id rfl
@[simp] theorem y_frz_fl : (R.ok (.fl i) ρ).frz = .ok (.fl i) ρ := id rfl
@[simp] theorem y_frz_obj : (R.ok .obj ρ).frz = .ok .obj ρ := id rfl
@[simp] theorem y_frz_tm : (R.ok (.tm o) ρ).frz = .ok (.dat o.toD) ρ := id rfl
@[simp] theorem y_frz_exc : (R.exc c ρ : R Hd).frz = .exc c ρ := id rfl
@[simp] theorem y_frz_stuck : (R.stuck : R Hd).frz = .stuck := id rfl
@[simp] theorem y_toD_li {l : List D} : (Own.li l).toD = .lst l := id rfl
@[simp] theorem y_toD_di {l : List (Key × D)} : (Own.di l).toD = .dk (l.map (·.1)) (l.map (·.2)) := id rfl
@[simp] theorem y_toD_ti {l : List (List Key × D)} : (Own.ti l).toD = .dt (l.map (·.1)) (l.map (·.2)) := id rfl
def varM (i : Nat) (ρ : Envi) : Option Slot → R Hd
  | some (.fz d) => .ok (.dat d) ρ
  | some (.ow _) => .ok (.pl i) ρ
  | some .self => .ok .obj ρ
  | _ => .stuck
@[simp] theorem y_var : eVar i ρ = varM i ρ ρ[i]? := by unfold eVar varM; rfl
@[simp] theorem y_varM_fz : varM i ρ (some (.fz d)) = .ok (.dat d) ρ := id rfl
@[simp] theorem y_varM_ow : varM i ρ (some (.ow o)) = .ok (.pl i) ρ := id rfl
@[simp] theorem y_varM_self : varM i ρ (some .self) = .ok .obj ρ := id rfl
@[simp] theorem y_C : eC d ρ = .ok (.dat d) ρ := id rfl
def derM : Option Slot → Option D
  | some (.fz d) => some d
  | some (.ow o) => some o.toD
  | _ => none
@[simp] theorem y_derM_fz : derM (some (.fz d)) = some d := id rfl
@[simp] theorem y_derM_ow : derM (some (.ow o)) = some o.toD := id rfl
@[simp] theorem y_der_dat : deref ρ (.dat d) = some d := id rfl
@[simp] theorem y_der_pl : deref ρ (.pl i) = derM ρ[i]? := by unfold deref derM; rfl
@[simp] theorem y_der_fl : deref ρ (.fl i) = derM ρ[i]? := by unfold deref derM; rfl
def matM (i : Nat) (ρ : Envi) : Option Slot → Option (D × Envi)
  | some (.fz d) => some (d, ρ)
  | some (.ow o) => some (o.toD, ρ.set i (.fz o.toD))
  | _ => none
@[simp] theorem y_matM_fz : matM i ρ (some (.fz d)) = some (d, ρ) := id rfl
@[simp] theorem y_matM_ow : matM i ρ (some (.ow o)) = some (o.toD, ρ.set i (.fz o.toD)) := id rfl
@[simp] theorem y_mat_dat : mat ρ (.dat d) = some (d, ρ) := id rfl
@[simp] theorem y_mat_pl : mat ρ (.pl i) = matM i ρ ρ[i]? := by unfold mat matM; rfl
@[simp] theorem y_mat_fl : mat ρ (.fl i) = matM i ρ ρ[i]? := by unfold mat matM; rfl
def matAM (hs : List Hd) : Option (D × Envi) → Option (List D × Envi)
  | some (d, ρ1) => match matAll ρ1 hs with
    | some (ds, ρ2) => some (d :: ds, ρ2)
    | none => none
  | none => none
def consM (d : D) : Option (List D × Envi) → Option (List D × Envi)
  | some (ds, ρ2) => some (d :: ds, ρ2)
  | none => none
@[simp] theorem y_matAll_nil : matAll ρ [] = some ([], ρ) := id rfl
@[simp] theorem y_matAll_cons {h : Hd} {hs : List Hd} : matAll ρ (h :: hs) = matAM hs (mat ρ h) := by unfold matAll matAM; rfl
@[simp] theorem y_matAM {hs : List Hd} : matAM hs (some (d, ρ)) = consM d (matAll ρ hs) := by unfold matAM consM; rfl
@[simp] theorem y_consM {ds : List D} : consM d (some (ds, ρ)) = some (d :: ds, ρ) := id rfl
def derAM : Option D → Option (List D) → Option (List D)
  | some d, some ds => some (d :: ds)
  | _, _ => none
@[simp] theorem y_derA_nil : derefAll ρ [] = some [] := id rfl
@[simp] theorem y_derA_cons {h : Hd} {hs : List Hd} : derefAll ρ (h :: hs) = derAM (deref ρ h) (derefAll ρ hs) := by unfold derAM; rfl
@[simp] theorem y_derAM {ds : List D} : derAM (some d) (some ds) = some (d :: ds) := id rfl
def matK {γ : Type} (k : D → Envi → R γ) : Option (D × Envi) → R γ
  | some (d, ρ2) => k d ρ2
  | none => .stuck
@[simp] theorem y_matK {γ : Type} {k : D → Envi → R γ} : matK k (some (d, ρ)) = k d ρ := id rfl
def emK (h : Hd) (ρ1 : Envi) : R Hd := matK (fun d ρ2 => .ok (.dat d) ρ2) (mat ρ1 h)
def emM : Option (D × Envi) → R Hd
  | some (d, ρ2) => .ok (.dat d) ρ2
  | none => .stuck
@[simp] theorem y_emM : emM (some (d, ρ)) = .ok (.dat d) ρ := id rfl
@[simp] theorem y_emK {h : Hd} : emK h ρ = emM (mat ρ h) := by unfold emK matK emM; rfl
@[simp] theorem y_eMat {f : Envi → R Hd} : eMat f ρ = (f ρ).frz.bind emK := by unfold eMat emK matK; rfl
@[simp] theorem y_opt1 : opt1 ρ (some d) = .ok (.dat d) ρ := id rfl
def on1M (op : D → Option D) (ρ : Envi) : Option D → R Hd
  | some a => opt1 ρ (op a)
  | none => .stuck
def on2M (op : D → D → Option D) (ρ : Envi) : Option D → Option D → R Hd
  | some a, some b => opt1 ρ (op a b)
  | _, _ => .stuck
@[simp] theorem y_on1M {op : D → Option D} : on1M op ρ (some a) = opt1 ρ (op a) := id rfl
@[simp] theorem y_on2M {op : D → D → Option D} : on2M op ρ (some a) (some b) = opt1 ρ (op a b) := id rfl
@[simp] theorem y_on1 {op : D → Option D} {h : Hd} : on1 op ρ h = on1M op ρ (deref ρ h) := by unfold on1 on1M; rfl
@[simp] theorem y_on2 {op : D → D → Option D} {h k : Hd} : on2 op ρ h k = on2M op ρ (deref ρ h) (deref ρ k) := by unfold on2 on2M; rfl
def bk2 (op : D → D → Option D) (h k : Hd) (ρ2 : Envi) : R Hd := on2 op ρ2 h k
def bk1 (op : D → D → Option D) (g : Envi → R Hd) (h : Hd) (ρ1 : Envi) : R Hd := (g ρ1).frz.bind (bk2 op h)
@[simp] theorem y_bk2 {op : D → D → Option D} {h k : Hd} : bk2 op h k ρ = on2 op ρ h k := id rfl
@[simp] theorem y_bk1 {op : D → D → Option D} {g : Envi → R Hd} {h : Hd} : bk1 op g h ρ = (g ρ).frz.bind (bk2 op h) := id rfl
@[simp] theorem y_bin {op : D → D → Option D} {f g : Envi → R Hd} : eBin op f g ρ = (f ρ).frz.bind (bk1 op g) := id rfl
def uk (op : D → Option D) (h : Hd) (ρ1 : Envi) : R Hd := on1 op ρ1 h
@[simp] theorem y_uk {op : D → Option D} {h : Hd} : uk op h ρ = on1 op ρ h := id rfl
@[simp] theorem y_un {op : D → Option D} {f : Envi → R Hd} : eUn op f ρ = (f ρ).frz.bind (uk op) := id rfl
@[simp] theorem y_aNil : aNil ρ = .ok [] ρ := id rfl
def ck2 (h : Hd) (hs : List Hd) (ρ2 : Envi) : R (List Hd) := .ok (h :: hs) ρ2
def ck1 (g : Envi → R (List Hd)) (h : Hd) (ρ1 : Envi) : R (List Hd) := (g ρ1).bind (ck2 h)
@[simp] theorem y_ck2 {h : Hd} {hs : List Hd} : ck2 h hs ρ = .ok (h :: hs) ρ := id rfl
@[simp] theorem y_ck1 {g : Envi → R (List Hd)} {h : Hd} : ck1 g h ρ = (g ρ).bind (ck2 h) := id rfl
@[simp] theorem y_aCons {f : Envi → R Hd} {g : Envi → R (List Hd)} : aCons f g ρ = (f ρ).frz.bind (ck1 g) := id rfl
def matsK {γ : Type} (k : List D → Envi → R γ) : Option (List D × Envi) → R γ
  | some (ds, ρ2) => k ds ρ2
  | none => .stuck
@[simp] theorem y_matsK {γ : Type} {k : List D → Envi → R γ} {ds : List D} : matsK k (some (ds, ρ)) = k ds ρ := id rfl
def eTupKM : Option (List D × Envi) → R Hd
  | some (ds, ρ2) => .ok (.dat (.tup ds)) ρ2
  | none => .stuck
def eTupK (hs : List Hd) (ρ1 : Envi) : R Hd := eTupKM (matAll ρ1 hs)
@[simp] theorem y_tupM {ds : List D} : eTupKM (some (ds, ρ)) = .ok (.dat (.tup ds)) ρ := id rfl
@[simp] theorem y_tupK {hs : List Hd} : eTupK hs ρ = eTupKM (matAll ρ hs) := id rfl
@[simp] theorem y_tup {g : Envi → R (List Hd)} : eTup g ρ = (g ρ).bind eTupK := by unfold eTup eTupK eTupKM; rfl
def eTupFKM : Option (List D × Envi) → R Hd
  | some (ds, ρ2) => .ok (.dat (.ktup ds)) ρ2
  | none => .stuck
def eTupFK (hs : List Hd) (ρ1 : Envi) : R Hd := eTupFKM (matAll ρ1 hs)
@[simp] theorem y_tupFM {ds : List D} : eTupFKM (some (ds, ρ)) = .ok (.dat (.ktup ds)) ρ := id rfl
@[simp] theorem y_tupFK {hs : List Hd} : eTupFK hs ρ = eTupFKM (matAll ρ hs) := id rfl
@[simp] theorem y_tupF {g : Envi → R (List Hd)} : eTupF g ρ = (g ρ).bind eTupFK := by unfold eTupF eTupFK eTupFKM; rfl
def eLstKM : Option (List D × Envi) → R Hd
  | some (ds, ρ2) => .ok (.tm (.li ds)) ρ2
  | none => .stuck
def eLstK (hs : List Hd) (ρ1 : Envi) : R Hd := eLstKM (matAll ρ1 hs)
@[simp] theorem y_lstM {ds : List D} : eLstKM (some (ds, ρ)) = .ok (.tm (.li ds)) ρ := id rfl
@[simp] theorem y_lstK {hs : List Hd} : eLstK hs ρ = eLstKM (matAll ρ hs) := id rfl
@[simp] theorem y_lst {g : Envi → R (List Hd)} : eLst g ρ = (g ρ).bind eLstK := by unfold eLst eLstK eLstKM; rfl
@[simp] theorem y_ofRf_fz : ofRf ρ (.fz d) = .ok (.dat d) ρ := id rfl
@[simp] theorem y_ofRf_ow : ofRf ρ (.ow o) = .ok (.tm o) ρ := id rfl
@[simp] theorem y_ofRf_exc : ofRf ρ (.exc c) = .exc c ρ := id rfl
@[simp] theorem y_ofRf_stuck : ofRf ρ .stuck = .stuck := id rfl
def lkM (fs : List D → Rf) : Option (List D × Envi) → R Hd
  | some (ds, ρ2) => ofRf ρ2 (fs ds)
  | none => .stuck
def lk (fs : List D → Rf) (hs : List Hd) (ρ1 : Envi) : R Hd := lkM fs (matAll ρ1 hs)
@[simp] theorem y_lkM {fs : List D → Rf} {ds : List D} : lkM fs (some (ds, ρ)) = ofRf ρ (fs ds) := id rfl
@[simp] theorem y_lk {fs : List D → Rf} {hs : List Hd} : lk fs hs ρ = lkM fs (matAll ρ hs) := id rfl
@[simp] theorem y_call {fs : List D → Rf} {g : Envi → R (List Hd)} : eCall fs g ρ = (g ρ).bind (lk fs) := by unfold eCall lk lkM; rfl
def dersK {γ : Type} (k : List D → R γ) : Option (List D) → R γ
  | some ds => k ds
  | none => .stuck
@[simp] theorem y_dersK {γ : Type} {k : List D → R γ} {ds : List D} : dersK k (some ds) = k ds := id rfl
def cbM (fs : List D → Rf) (ρ1 : Envi) : Option (List D) → R Hd
  | some ds => ofRf ρ1 (fs ds)
  | none => .stuck
def cbk (fs : List D → Rf) (hs : List Hd) (ρ1 : Envi) : R Hd := cbM fs ρ1 (derefAll ρ1 hs)
@[simp] theorem y_cbM {fs : List D → Rf} {ds : List D} : cbM fs ρ (some ds) = ofRf ρ (fs ds) := id rfl
@[simp] theorem y_cbk {fs : List D → Rf} {hs : List Hd} : cbk fs hs ρ = cbM fs ρ (derefAll ρ hs) := id rfl
@[simp] theorem y_cb {fs : List D → Rf} {g : Envi → R (List Hd)} : eCB fs g ρ = (g ρ).bind (cbk fs) := by unfold eCB cbk cbM; rfl
@[simp] theorem y_ofBl {x : Bool} : ofBl ρ (some (.bl x)) = .ok x ρ := id rfl
def tsk (h : Hd) (ρ1 : Envi) : R Bool := ofBl ρ1 (deref ρ1 h)
@[simp] theorem y_tsk {h : Hd} : tsk h ρ = ofBl ρ (deref ρ h) := id rfl
@[simp] theorem y_tsE {f : Envi → R Hd} : tsE f ρ = (f ρ).frz.bind tsk := id rfl
def andk (g : Envi → R Bool) (b : Bool) (ρ1 : Envi) : R Bool := if b = true then g ρ1 else .ok false ρ1
@[simp] theorem y_andk {g : Envi → R Bool} {b : Bool} : andk g b ρ = if b = true then g ρ else .ok false ρ := id rfl
@[simp] theorem y_tsAnd {f g : Envi → R Bool} : tsAnd f g ρ = (f ρ).bind (andk g) := id rfl
def ork (g : Envi → R Bool) (b : Bool) (ρ1 : Envi) : R Bool := if b = true then .ok true ρ1 else g ρ1
@[simp] theorem y_ork {g : Envi → R Bool} {b : Bool} : ork g b ρ = if b = true then .ok true ρ else g ρ := id rfl
@[simp] theorem y_tsOr {f g : Envi → R Bool} : tsOr f g ρ = (f ρ).bind (ork g) := id rfl
def notk (b : Bool) (ρ1 : Envi) : R Bool := .ok (!b) ρ1
@[simp] theorem y_notk {b : Bool} : notk b ρ = .ok (!b) ρ := id rfl
@[simp] theorem y_tsNot {f : Envi → R Bool} : tsNot f ρ = (f ρ).bind notk := id rfl
def oftk (b : Bool) (ρ1 : Envi) : R Hd := .ok (.dat (.bl b)) ρ1
@[simp] theorem y_oftk {b : Bool} : oftk b ρ = .ok (.dat (.bl b)) ρ := id rfl
@[simp] theorem y_ofT {f : Envi → R Bool} : eOfT f ρ = (f ρ).bind oftk := id rfl
def ifk (f g : Envi → R Hd) (b : Bool) (ρ1 : Envi) : R Hd := if b = true then f ρ1 else g ρ1
@[simp] theorem y_ifk {f g : Envi → R Hd} {b : Bool} : ifk f g b ρ = if b = true then f ρ else g ρ := id rfl
@[simp] theorem y_eIf {c : Envi → R Bool} {f g : Envi → R Hd} : eIf c f g ρ = (c ρ).bind (ifk f g) := id rfl
@[simp] theorem y_tTrue : tTrue ρ = .ok true ρ := id rfl
def chM (op' : D → D → Option D) (k : Hd) (e : Envi → R Hd) (ρ : Envi) : Option D → R Hd
  | some (.bl true) => (e ρ).frz.bind fun l ρ3 => on2 op' ρ3 k l
  | some (.bl false) => .ok (.dat (.bl false)) ρ
  | _ => .stuck
def chN (op op' : D → D → Option D) (k : Hd) (e : Envi → R Hd) (ρ : Envi) : Option D → Option D → R Hd
  | some a, some b => chM op' k e ρ (op a b)
  | _, _ => .stuck
@[simp] theorem y_chN {op op' : D → D → Option D} {k : Hd} {e : Envi → R Hd} : chN op op' k e ρ (some a) (some b) = chM op' k e ρ (op a b) := id rfl
def ck3 (op' : D → D → Option D) (k l : Hd) (ρ3 : Envi) : R Hd := on2 op' ρ3 k l
@[simp] theorem y_ck3 {op' : D → D → Option D} {k l : Hd} : ck3 op' k l ρ = on2 op' ρ k l := id rfl
@[simp] theorem y_chM {op' : D → D → Option D} {k : Hd} {e : Envi → R Hd} {x : Bool} : chM op' k e ρ (some (.bl x)) = if x = true then (e ρ).frz.bind (ck3 op' k) else .ok (.dat (.bl false)) ρ := by cases x <;> rfl
def chk2 (op op' : D → D → Option D) (e : Envi → R Hd) (h k : Hd) (ρ2 : Envi) : R Hd := chN op op' k e ρ2 (deref ρ2 h) (deref ρ2 k)
def chk1 (op op' : D → D → Option D) (g e : Envi → R Hd) (h : Hd) (ρ1 : Envi) : R Hd := (g ρ1).frz.bind (chk2 op op' e h)
@[simp] theorem y_chk2 {op op' : D → D → Option D} {e : Envi → R Hd} {h k : Hd} : chk2 op op' e h k ρ = chN op op' k e ρ (deref ρ h) (deref ρ k) := id rfl
@[simp] theorem y_chk1 {op op' : D → D → Option D} {g e : Envi → R Hd} {h : Hd} : chk1 op op' g e h ρ = (g ρ).frz.bind (chk2 op op' e h) := id rfl
@[simp] theorem y_chain {op op' : D → D → Option D} {f g e : Envi → R Hd} : eChain op op' f g e ρ = (f ρ).frz.bind (chk1 op op' g e) := by unfold eChain chk1 chk2 chN chM; rfl
/-! statements -/
def Fl.andThen (r : Fl) (h : Sem) : Fl := match r with
  | .nx ρ => h ρ
  | r => r
theorem andThen_congr {r r' : Fl} {h : Sem} (e : r = r') : r.andThen h = r'.andThen h := by rw [e]
@[simp] theorem y_at_nx {h : Sem} : (Fl.nx ρ).andThen h = h ρ := id rfl
@[simp] theorem y_at_ret {h : Sem} {v : Rv} : (Fl.ret v ρ).andThen h = .ret v ρ := id rfl
@[simp] theorem y_at_exc {h : Sem} : (Fl.exc c ρ).andThen h = .exc c ρ := id rfl
@[simp] theorem y_at_bk {h : Sem} : (Fl.bk ρ).andThen h = .bk ρ := id rfl
@[simp] theorem y_at_ct {h : Sem} : (Fl.ct ρ).andThen h = .ct ρ := id rfl
@[simp] theorem y_at_stuck {h : Sem} : (Fl.stuck).andThen h = .stuck := id rfl
@[simp] theorem y_seq {g h : Sem} : sSeq g h ρ = (g ρ).andThen h := by unfold sSeq Fl.andThen; rfl
@[simp] theorem y_next : sNext ρ = .nx ρ := id rfl
def ifs (g h : Sem) (b : Bool) (ρ1 : Envi) : Fl := if b = true then g ρ1 else h ρ1
@[simp] theorem y_ifs {g h : Sem} {b : Bool} : ifs g h b ρ = if b = true then g ρ else h ρ := id rfl
@[simp] theorem y_if {c : Envi → R Bool} {g h : Sem} : sIf c g h ρ = (c ρ).toFl (ifs g h) := id rfl
@[simp] theorem y_at_ite {p : Prop} [Decidable p] {x y : Fl} {h : Sem} : (if p then x else y).andThen h = if p then x.andThen h else y.andThen h := by split <;> rfl
def rek (h : Hd) (ρ1 : Envi) : Fl := retH ρ1 h
@[simp] theorem y_rek {h : Hd} : rek h ρ = retH ρ h := id rfl
@[simp] theorem y_ret {f : Envi → R Hd} : sRet f ρ = (f ρ).toFl rek := id rfl
@[simp] theorem y_retH_tm : retH ρ (.tm o) = .ret (.ow o) ρ := id rfl
@[simp] theorem y_retH_dat : retH ρ (.dat d) = .ret (.fz d) ρ := id rfl
def retM : Option (D × Envi) → Fl
  | some (d, ρ2) => .ret (.fz d) ρ2
  | none => .stuck
@[simp] theorem y_retM : retM (some (d, ρ)) = .ret (.fz d) ρ := id rfl
@[simp] theorem y_retH_pl : retH ρ (.pl i) = retM (mat ρ (.pl i)) := by unfold retH retM; rfl
@[simp] theorem y_retN : sRetN ρ = .ret (.fz .non) ρ := id rfl
def drk (_ : Hd) (ρ1 : Envi) : Fl := .nx ρ1
@[simp] theorem y_drk {h : Hd} : drk h ρ = .nx ρ := id rfl
@[simp] theorem y_drop {f : Envi → R Hd} : sDrop f ρ = (f ρ).frz.toFl drk := id rfl
def sek (i : Nat) (h : Hd) (ρ1 : Envi) : Fl := setH i ρ1 h
@[simp] theorem y_sek {h : Hd} : sek i h ρ = setH i ρ h := id rfl
@[simp] theorem y_set {f : Envi → R Hd} : sSet i f ρ = (f ρ).toFl (sek i) := id rfl
@[simp] theorem y_setH_tm : setH i ρ (.tm o) = .nx (ρ.set i (.ow o)) := id rfl
@[simp] theorem y_setH_dat : setH i ρ (.dat d) = .nx (ρ.set i (.fz d)) := id rfl
@[simp] theorem y_setH_obj : setH i ρ .obj = .nx (ρ.set i .self) := id rfl
def setM (i : Nat) : Option (D × Envi) → Fl
  | some (d, ρ2) => .nx (ρ2.set i (.fz d))
  | none => .stuck
@[simp] theorem y_setM : setM i (some (d, ρ)) = .nx (ρ.set i (.fz d)) := id rfl
@[simp] theorem y_setH_pl {j : Nat} : setH i ρ (.pl j) = setM i (mat ρ (.pl j)) := by unfold setH setM; rfl
@[simp] theorem y_raise : sRaise c ρ = .exc c ρ := id rfl
@[simp] theorem y_break : sBreak ρ = .bk ρ := id rfl
@[simp] theorem y_cont : sCont ρ = .ct ρ := id rfl
def bndM (k : Envi → Fl) : Option Envi → Fl
  | some ρ1 => k ρ1
  | none => .stuck
@[simp] theorem y_bndM {k : Envi → Fl} : bndM k (some ρ) = k ρ := id rfl
@[simp] theorem y_bindFl {b : Bnd} {k : Envi → Fl} : bindFl b (.dat d) ρ k = bndM k (b d ρ) := by unfold bindFl bndM; rfl
def ask (b : Bnd) (h : Hd) (ρ1 : Envi) : Fl := bindFl b h ρ1 .nx
@[simp] theorem y_ask {b : Bnd} {h : Hd} : ask b h ρ = bindFl b h ρ .nx := id rfl
@[simp] theorem y_asg {f : Envi → R Hd} {b : Bnd} : sAsg f b ρ = (eMat f ρ).toFl (ask b) := id rfl
@[simp] theorem y_bN : bN i d ρ = some (ρ.set i (.fz d)) := id rfl
@[simp] theorem y_bsNil : bsNil [] ρ = some ρ := id rfl
def bsM (bs : Bnds) (r : List D) : Option Envi → Option Envi
  | some ρ1 => bs r ρ1
  | none => none
@[simp] theorem y_bsM {bs : Bnds} {r : List D} : bsM bs r (some ρ) = bs r ρ := id rfl
@[simp] theorem y_bsCons {b : Bnd} {bs : Bnds} {r : List D} : bsCons b bs (d :: r) ρ = bsM bs r (b d ρ) := by unfold bsCons bsM; rfl
@[simp] theorem y_bT {bs : Bnds} {ds : List D} : bT n bs (.tup ds) ρ = if ds.length = n then bs ds ρ else none := id rfl
@[simp] theorem y_bTk {bs : Bnds} {ds : List D} : bT n bs (.ktup ds) ρ = if ds.length = n then bs ds ρ else none := id rfl
def fok (b : Bnd) (g : Sem) (ds : List D) (ρ1 : Envi) : Fl := runFor b g ds ρ1
@[simp] theorem y_fok {b : Bnd} {g : Sem} {ds : List D} : fok b g ds ρ = runFor b g ds ρ := id rfl
@[simp] theorem y_for {it : Envi → R (List D)} {b : Bnd} {g : Sem} : sFor it b g ρ = (it ρ).toFl (fok b g) := id rfl
@[simp] theorem y_toRf_nx : toRf (.nx ρ) = .fz .non := id rfl
@[simp] theorem y_toRf_fz : toRf (.ret (.fz d) ρ) = .fz d := id rfl
@[simp] theorem y_toRf_ow : toRf (.ret (.ow o) ρ) = .ow o := id rfl
@[simp] theorem y_toRf_exc : toRf (.exc c ρ) = .exc c := id rfl
@[simp] theorem y_toRf_ite {p : Prop} [Decidable p] {x y : Fl} : toRf (if p then x else y) = if p then toRf x else toRf y := by split <;> rfl
/-- numbers that fit a line -/
def Small (n : Nat) : Prop := n < 16777216
instance (n : Nat) : Decidable (Small n) := by unfold Small; infer_instance
theorem small_of {n : Nat} (h : n ≤ 1000) : Small n := by unfold Small; omega
theorem small_le {m n : Nat} (h : Small n) (e : m ≤ n) : Small m := Nat.lt_of_le_of_lt e h
def SmallI (j : Int) : Prop := -16777216 < j ∧ j < 16777216
instance (n : Int) : Decidable (SmallI n) := by unfold SmallI; infer_instance
theorem smallI_of {n : Int} (h0 : -1000 ≤ n) (h : n ≤ 1000) : SmallI n := ⟨by omega, by omega⟩
theorem smallI_nat {n : Nat} (h : Small n) : SmallI n := by unfold Small at h; exact ⟨by omega, by omega⟩
/-- 0 .. n - 1 -/
def nats (n : Nat) : List D := (List.range n).map fun i : Nat => D.int (i : Int)
theorem rangeD_nats (n : Nat) : rangeD 0 n = nats n := by
  unfold rangeD nats
  exact List.map_congr_left fun i _ => by rw [Int.zero_add]
/-! iterators -/
@[simp] theorem y_opt2 {γ : Type} {x : γ} : opt2 ρ (some x) = .ok x ρ := id rfl
def byM (op : D → Option (List D)) (ρ : Envi) : Hd → R (List D)
  | .dat d => opt2 ρ (op d)
  | _ => .stuck
@[simp] theorem y_byM {op : D → Option (List D)} : byM op ρ (.dat d) = opt2 ρ (op d) := id rfl
def byk (op : D → Option (List D)) (h : Hd) (ρ1 : Envi) : R (List D) := byM op ρ1 h
@[simp] theorem y_byk {op : D → Option (List D)} {h : Hd} : byk op h ρ = byM op ρ h := id rfl
@[simp] theorem y_itBy {op : D → Option (List D)} {f : Envi → R Hd} : itBy op f ρ = (eMat f ρ).bind (byk op) := by unfold itBy byk byM; rfl
@[simp] theorem y_lstOf_l {l : List D} : lstOf (.lst l) = some l := id rfl
@[simp] theorem y_lstOf_k {l : List D} : lstOf (.klst l) = some l := id rfl
@[simp] theorem y_tupOf_t {l : List D} : tupOf (.tup l) = some l := id rfl
@[simp] theorem y_tupOf_k {l : List D} : tupOf (.ktup l) = some l := id rfl
def rngM (ρ : Envi) : Option (List D) → R (List D)
  | some [.int j] => if -16777216 < j ∧ j < 16777216 then .ok (rangeD 0 j.toNat) ρ else .stuck
  | _ => .stuck
@[simp] theorem y_rngM {j : Int} : rngM ρ (some [.int j]) = if SmallI j then .ok (nats j.toNat) ρ else .stuck := by
  rw [← rangeD_nats]; rfl
def rnk (hs : List Hd) (ρ1 : Envi) : R (List D) := rngM ρ1 (derefAll ρ1 hs)
@[simp] theorem y_rnk {hs : List Hd} : rnk hs ρ = rngM ρ (derefAll ρ hs) := id rfl
@[simp] theorem y_rng1 {g : Envi → R (List Hd)} : itRng1 g ρ = (g ρ).bind rnk := by unfold itRng1 rnk rngM; rfl
def rngM2 (ρ : Envi) : Option (List D) → R (List D)
  | some [.int i, .int j] => if -16777216 < i ∧ i < 16777216 ∧ j < 16777216 ∧ -16777216 < j ∧ j - i ≤ 16777216 then .ok (rangeD i (j - i).toNat) ρ else .stuck
  | _ => .stuck
@[simp] theorem y_rngM2 {i j : Int} : rngM2 ρ (some [.int i, .int j]) = if -16777216 < i ∧ i < 16777216 ∧ j < 16777216 ∧ -16777216 < j ∧ j - i ≤ 16777216 then .ok (rangeD i (j - i).toNat) ρ else .stuck := id rfl
def rnk2 (hs : List Hd) (ρ1 : Envi) : R (List D) := rngM2 ρ1 (derefAll ρ1 hs)
@[simp] theorem y_rnk2 {hs : List Hd} : rnk2 hs ρ = rngM2 ρ (derefAll ρ hs) := id rfl
@[simp] theorem y_rng2 {g : Envi → R (List Hd)} : itRng2 g ρ = (g ρ).bind rnk2 := by unfold itRng2 rnk2 rngM2; rfl
def lrgM (ρ : Envi) : Option D → R Hd
  | some (.int j) => if -16777216 < j ∧ j < 16777216 then .ok (.tm (.li (rangeD 0 j.toNat))) ρ else .stuck
  | _ => .stuck
@[simp] theorem y_lrgM {j : Int} : lrgM ρ (some (.int j)) = if SmallI j then .ok (.tm (.li (nats j.toNat))) ρ else .stuck := by
  rw [← rangeD_nats]; rfl
def lrk (h : Hd) (ρ1 : Envi) : R Hd := lrgM ρ1 (deref ρ1 h)
@[simp] theorem y_lrk {h : Hd} : lrk h ρ = lrgM ρ (deref ρ h) := id rfl
@[simp] theorem y_lrg1 {f : Envi → R Hd} : eLRg1 f ρ = (f ρ).frz.bind lrk := by unfold eLRg1 lrk lrgM; rfl
def enM (op : D → Option (List D)) (ρ : Envi) : List Hd → R (List D)
  | [.dat d] => opt2 ρ ((op d).map (enumD 0))
  | _ => .stuck
@[simp] theorem y_enM {op : D → Option (List D)} : enM op ρ [.dat d] = opt2 ρ ((op d).map (enumD 0)) := id rfl
def enk (op : D → Option (List D)) (hs : List Hd) (ρ1 : Envi) : R (List D) := enM op ρ1 hs
@[simp] theorem y_enk {op : D → Option (List D)} {hs : List Hd} : enk op hs ρ = enM op ρ hs := id rfl
@[simp] theorem y_enumT {g : Envi → R (List Hd)} : itEnumT g ρ = (g ρ).bind (enk tupOf) := by unfold itEnumT enk enM; rfl
@[simp] theorem y_enumL {g : Envi → R (List Hd)} : itEnumL g ρ = (g ρ).bind (enk lstOf) := by unfold itEnumL enk enM; rfl
def cok (b : Bnd) (c : Envi → R Bool) (e : Envi → R Hd) (vs : List Nat) (ds : List D) (ρ1 : Envi) : R Hd := opt3 (runComp b c e vs ds (wipeE ρ1 vs))
@[simp] theorem y_cok {b : Bnd} {c : Envi → R Bool} {e : Envi → R Hd} {vs : List Nat} {ds : List D} : cok b c e vs ds ρ = opt3 (runComp b c e vs ds (wipeE ρ vs)) := id rfl
@[simp] theorem y_comp {it : Envi → R (List D)} {b : Bnd} {c : Envi → R Bool} {e : Envi → R Hd} {vs : List Nat} : eComp it b c e vs ρ = (it ρ).bind (cok b c e vs) := id rfl
@[simp] theorem y_opt3 {r : List D} : opt3 (some (r, ρ)) = .ok (.tm (.li r)) ρ := id rfl
@[simp] theorem y_wipe0 : wipeE ρ [] = ρ := id rfl
@[simp] theorem y_wipe1 {v : Nat} {vs : List Nat} : wipeE ρ (v :: vs) = (wipeE ρ vs).set v .un := id rfl
/-! operators -/
@[simp] theorem y_add_int {x y : Int} : opAdd (.int x) (.int y) = some (.int (x + y)) := id rfl
@[simp] theorem y_sub {x y : Int} : opSub (.int x) (.int y) = some (.int (x - y)) := id rfl
@[simp] theorem y_mul {x y : Int} : opMul (.int x) (.int y) = if L2.CMul x y ∨ L2.CMulW x y then some (.int (x * y)) else none := id rfl
@[simp] theorem y_mod {x y : Int} : opMod (.int x) (.int y) = if 0 < y then some (.int (x % y)) else none := id rfl
@[simp] theorem y_div {x y : Int} : opDiv (.int x) (.int y) = if L2.CDivW x y then some (.int (x / y)) else none := id rfl
@[simp] theorem y_neg {x : Int} : opNeg (.int x) = some (.int (-x)) := id rfl
@[simp] theorem y_lt {x y : Int} : opLtA (.int x) (.int y) = some (.bl (decide (x < y))) := id rfl
@[simp] theorem y_le {x y : Int} : opLe (.int x) (.int y) = some (.bl (decide (x ≤ y))) := id rfl
@[simp] theorem y_gt {x y : Int} : opGt (.int x) (.int y) = some (.bl (decide (y < x))) := id rfl
@[simp] theorem y_ge {x y : Int} : opGe (.int x) (.int y) = some (.bl (decide (y ≤ x))) := id rfl
@[simp] theorem y_eqI {x y : Int} : opEq (.int x) (.int y) = some (.bl (decide (x = y))) := opEq_is (is_int x) (is_int y) (by decide)
@[simp] theorem y_neI {x y : Int} : opNe (.int x) (.int y) = some (.bl (!decide (x = y))) := opNe_is (is_int x) (is_int y) (by decide)
@[simp] theorem y_ixL {l : List D} {x : Int} : opIx (.lst l) (.int x) = atI l x := id rfl
@[simp] theorem y_ixK {l : List D} {x : Int} : opIx (.klst l) (.int x) = atI l x := id rfl
@[simp] theorem y_ixT {l : List D} {x : Int} : opIx (.tup l) (.int x) = atI l x := id rfl
@[simp] theorem y_ixU {l : List D} {x : Int} : opIx (.ktup l) (.int x) = atI l x := id rfl
@[simp] theorem y_at0 {l : List D} : atI (d :: l) 0 = some d := atI_nat (j := 0) rfl
@[simp] theorem y_at1 {l : List D} : atI (a :: d :: l) 1 = some d := atI_nat (j := 1) rfl
@[simp] theorem y_at2 {l : List D} : atI (a :: b :: d :: l) 2 = some d := atI_nat (j := 2) rfl
@[simp] theorem y_at3 {e : D} {l : List D} : atI (e :: a :: b :: d :: l) 3 = some d := atI_nat (j := 3) rfl
@[simp] theorem y_len {ds : List D} : fLen [.lst ds] = .fz (.int ds.length) := id rfl
@[simp] theorem y_lenK {ds : List D} : fLen [.klst ds] = .fz (.int ds.length) := id rfl
@[simp] theorem y_lenT {ds : List D} : fLen [.tup ds] = .fz (.int ds.length) := id rfl
@[simp] theorem y_lenU {ds : List D} : fLen [.ktup ds] = .fz (.int ds.length) := id rfl
@[simp] theorem y_list {ds : List D} : fList [.lst ds] = .ow (.li ds) := id rfl
@[simp] theorem y_listT {ds : List D} : fList [.tup ds] = .ow (.li ds) := id rfl
@[simp] theorem y_listU {ds : List D} : fList [.ktup ds] = .ow (.li ds) := id rfl
@[simp] theorem y_tupL {ds : List D} : fTup [.lst ds] = .fz (.ktup ds) := id rfl
/-! a list that is changed -/
def mutM (k : Nat) (mu : Own → List D → Option (D × Own)) (ρ : Envi) (ds : List D) : Option Slot → R Hd
  | some (.ow o) => mutN k ρ (mu o ds)
  | _ => .stuck
where mutN (k : Nat) (ρ : Envi) : Option (D × Own) → R Hd
  | some (d, o') => .ok (.dat d) (ρ.set k (.ow o'))
  | none => .stuck
@[simp] theorem y_mutM {k : Nat} {mu : Own → List D → Option (D × Own)} {ds : List D} : mutM k mu ρ ds (some (.ow o)) = mutM.mutN k ρ (mu o ds) := id rfl
@[simp] theorem y_mutN {k : Nat} : mutM.mutN k ρ (some (d, o)) = .ok (.dat d) (ρ.set k (.ow o)) := id rfl
@[simp] theorem y_mutEnd {k : Nat} {mu : Own → List D → Option (D × Own)} {ds : List D} : mutEnd k mu ρ ds = mutM k mu ρ ds ρ[k]? := by unfold mutEnd mutM mutM.mutN; rfl
def tyM (T : String) : Option Slot → Bool
  | some (.ow o) => ownTy o == T
  | _ => false
@[simp] theorem y_tyM_l {l : List D} : tyM "list" (some (.ow (.li l))) = true := id rfl
@[simp] theorem y_isTy {T : String} {k : Nat} : isTy T ρ k = tyM T ρ[k]? := by unfold isTy tyM; rfl
@[simp] theorem y_okT : okT ρ = true := id rfl
def muM (k : Nat) (mu : Own → List D → Option (D × Own)) : Option (List D × Envi) → R Hd
  | some (ds, ρ2) => mutEnd k mu ρ2 ds
  | none => .stuck
def muk (k : Nat) (mu : Own → List D → Option (D × Own)) (hs : List Hd) (ρ1 : Envi) : R Hd := muM k mu (matAll ρ1 hs)
@[simp] theorem y_muM {k : Nat} {mu : Own → List D → Option (D × Own)} {ds : List D} : muM k mu (some (ds, ρ)) = mutEnd k mu ρ ds := id rfl
@[simp] theorem y_muk {k : Nat} {mu : Own → List D → Option (D × Own)} {hs : List Hd} : muk k mu hs ρ = muM k mu (matAll ρ hs) := id rfl
@[simp] theorem y_mut {k : Nat} {ok : Envi → Bool} {T : String} {mu : Own → List D → Option (D × Own)} {g : Envi → R (List Hd)} : eMut k ok T mu g ρ = if (ok ρ && isTy T ρ k) = true then (g ρ).bind (muk k mu) else .stuck := by unfold eMut muk muM; rfl
@[simp] theorem y_mut0 {k : Nat} {ok : Envi → Bool} {T : String} {mu : Own → List D → Option (D × Own)} : eMut0 k ok T mu ρ = if (ok ρ && isTy T ρ k) = true then mutEnd k mu ρ [] else .stuck := id rfl
@[simp] theorem y_append {l : List D} : muAppend (.li l) [d] = if Small l.length then some (.non, .li (l ++ [d])) else none := id rfl
@[simp] theorem y_extend {l l' : List D} : muExtend (.li l) [.lst l'] = if l.length + l'.length ≤ big then some (.non, .li (l ++ l')) else none := id rfl
@[simp] theorem y_popAt {l : List D} {x : Int} : muPopAt (.li l) [.int x] = if 0 ≤ x ∧ x < l.length ∧ l.length ≤ big then (match l[x.toNat]? with | some d => some (d, .li (l.eraseIdx x.toNat)) | none => none) else none := id rfl
@[simp] theorem y_insert {l : List D} {x : Int} : muInsert (.li l) [.int x, d] = if 0 ≤ x ∧ Small x.toNat ∧ Small l.length then some (.non, .li (l.take x.toNat ++ [d] ++ l.drop x.toNat)) else none := by
  show (if 0 ≤ x ∧ x < 16777216 ∧ l.length < 16777216 then _ else _) = _
  have : (0 ≤ x ∧ x < 16777216 ∧ l.length < 16777216) ↔ (0 ≤ x ∧ Small x.toNat ∧ Small l.length) := by unfold Small; omega
  simp only [this]
end
/-! slices, methods, dicts -/
section
variable {ρ : Envi} {i n : Nat} {d a b : D} {o : Own} {c : Exc}
@[simp] theorem y_pNo : pNo ρ = .ok none ρ := id rfl
def psM (ρ : Envi) : Option D → R (Option Int)
  | some (.int i) => .ok (some i) ρ
  | _ => .stuck
def psk (h : Hd) (ρ1 : Envi) : R (Option Int) := psM ρ1 (deref ρ1 h)
@[simp] theorem y_psM {x : Int} : psM ρ (some (.int x)) = .ok (some x) ρ := id rfl
@[simp] theorem y_psk {h : Hd} : psk h ρ = psM ρ (deref ρ h) := id rfl
@[simp] theorem y_pSome {f : Envi → R Hd} : pSome f ρ = (f ρ).frz.bind psk := by unfold pSome psk psM; rfl
def slM (op : D → Option Int → Option Int → Option D) (l u : Option Int) (ρ : Envi) : Option D → R Hd
  | some d => opt1 ρ (op d l u)
  | none => .stuck
def sl3 (op : D → Option Int → Option Int → Option D) (h : Hd) (l u : Option Int) (ρ3 : Envi) : R Hd := slM op l u ρ3 (deref ρ3 h)
def sl2 (op : D → Option Int → Option Int → Option D) (hi : Envi → R (Option Int)) (h : Hd) (l : Option Int) (ρ2 : Envi) : R Hd := (hi ρ2).bind (sl3 op h l)
def sl1 (op : D → Option Int → Option Int → Option D) (lo hi : Envi → R (Option Int)) (h : Hd) (ρ1 : Envi) : R Hd := (lo ρ1).bind (sl2 op hi h)
@[simp] theorem y_slM {op : D → Option Int → Option Int → Option D} {l u : Option Int} : slM op l u ρ (some d) = opt1 ρ (op d l u) := id rfl
@[simp] theorem y_sl3 {op : D → Option Int → Option Int → Option D} {h : Hd} {l u : Option Int} : sl3 op h l u ρ = slM op l u ρ (deref ρ h) := id rfl
@[simp] theorem y_sl2 {op : D → Option Int → Option Int → Option D} {hi : Envi → R (Option Int)} {h : Hd} {l : Option Int} : sl2 op hi h l ρ = (hi ρ).bind (sl3 op h l) := id rfl
@[simp] theorem y_sl1 {op : D → Option Int → Option Int → Option D} {lo hi : Envi → R (Option Int)} {h : Hd} : sl1 op lo hi h ρ = (lo ρ).bind (sl2 op hi h) := id rfl
@[simp] theorem y_sl {op : D → Option Int → Option Int → Option D} {f : Envi → R Hd} {lo hi : Envi → R (Option Int)} : eSl op f lo hi ρ = (f ρ).frz.bind (sl1 op lo hi) := by unfold eSl sl1 sl2 sl3 slM; rfl
def leM (op : D → List D → Option D) (ρ : Envi) : Option D → Option (List D) → R Hd
  | some a, some ds => opt1 ρ (op a ds)
  | _, _ => .stuck
@[simp] theorem y_leM {op : D → List D → Option D} {ds : List D} : leM op ρ (some a) (some ds) = opt1 ρ (op a ds) := id rfl
@[simp] theorem y_lookEnd {op : D → List D → Option D} {h : Hd} {hs : List Hd} : lookEnd op ρ h hs = leM op ρ (deref ρ h) (derefAll ρ hs) := by unfold lookEnd leM; rfl
def chkM (c : D → Bool) : Option D → Bool
  | some d => c d
  | none => false
@[simp] theorem y_chkM {c : D → Bool} : chkM c (some d) = c d := id rfl
@[simp] theorem y_chk {c : D → Bool} {h : Hd} : chk c ρ h = chkM c (deref ρ h) := by unfold chk chkM; rfl
def me2 (op : D → List D → Option D) (h : Hd) (hs : List Hd) (ρ2 : Envi) : R Hd := lookEnd op ρ2 h hs
def me1 (c : D → Bool) (op : D → List D → Option D) (fa : Envi → R (List Hd)) (h : Hd) (ρ1 : Envi) : R Hd := if chk c ρ1 h = true then (fa ρ1).bind (me2 op h) else .stuck
@[simp] theorem y_me2 {op : D → List D → Option D} {h : Hd} {hs : List Hd} : me2 op h hs ρ = lookEnd op ρ h hs := id rfl
@[simp] theorem y_me1 {c : D → Bool} {op : D → List D → Option D} {fa : Envi → R (List Hd)} {h : Hd} : me1 c op fa h ρ = if chk c ρ h = true then (fa ρ).bind (me2 op h) else .stuck := id rfl
@[simp] theorem y_meth {c : D → Bool} {op : D → List D → Option D} {f : Envi → R Hd} {fa : Envi → R (List Hd)} : eMeth c op f fa ρ = (f ρ).frz.bind (me1 c op fa) := by unfold eMeth me1 me2; rfl
@[simp] theorem y_isKT {l : List D} : isKT (.ktup l) = true := id rfl
@[simp] theorem y_tyD {l : List D} : tyD "list" (.lst l) = true := id rfl
@[simp] theorem y_tyDk {l : List D} : tyD "list" (.klst l) = true := id rfl
@[simp] theorem y_is_non : opIs .non .non = some (.bl true) := id rfl
@[simp] theorem y_isNot_non : opIsNot .non .non = some (.bl false) := id rfl
@[simp] theorem y_is_tup {l : List D} : opIs (.tup l) .non = some (.bl false) := id rfl
@[simp] theorem y_isNot_tup {l : List D} : opIsNot (.tup l) .non = some (.bl true) := id rfl
end
/-! loops by a relation -/
theorem runFor_rel {ι : Type} {b : Bnd} {g : Sem} {enc : ι → D} (I : List ι → Envi → Prop) (h : ∀ x r ρ, I (x :: r) ρ → ∃ ρ1 ρ2, b (enc x) ρ = some ρ1 ∧ (g ρ1 = .nx ρ2 ∨ g ρ1 = .ct ρ2) ∧ I r ρ2) :
    ∀ ds ρ, I ds ρ → ∃ ρ', runFor b g (ds.map enc) ρ = .nx ρ' ∧ I [] ρ'
  | [], ρ, i => ⟨ρ, rfl, i⟩
  | d :: r, ρ, i => by
    obtain ⟨ρ1, ρ2, h1, h2, h3⟩ := h d r ρ i
    obtain ⟨ρ', e1, e2⟩ := runFor_rel I h r ρ2 h3
    refine ⟨ρ', ?_, e2⟩
    rw [List.map_cons]
    unfold runFor
    rw [h1]
    rcases h2 with h2 | h2
    · simp only [h2]; exact e1
    · simp only [h2]; exact e1
/-! webs -/
abbrev Ar := T3 Int Int Int
def arD (x : Ar) : D := .tup [.int x.a, .int x.b, .int x.c]
def webD (n : Nat) (as : List Ar) : D := .tup [.int n, .ktup (as.map arD)]
def arLt (x y : Ar) : Prop := x.a < y.a ∨ (x.a = y.a ∧ x.b < y.b)
structure WebOk (n : Nat) (as : List Ar) : Prop where
  n1 : 1 ≤ n
  n7 : n ≤ 7
  ar : ∀ x ∈ as, 0 ≤ x.a ∧ x.a < n ∧ 0 ≤ x.b ∧ x.b < n ∧ x.a ≠ x.b ∧ 1 ≤ x.c ∧ x.c ≤ 99
  so : as.Pairwise arLt
  len : as.length ≤ 1000
theorem is_ar (x : Ar) : Is (arD x) x := is_t3 (is_int _) (is_int _) (is_int _)
theorem is_ars (as : List Ar) : Is (.ktup (as.map arD)) (Tup.mk as) := is_ktup (iss_map is_ar as)
theorem is_web (n : Nat) (as : List Ar) : Is (webD n as) ((n : Int), Tup.mk as) := is_pair (is_int _) (is_ars as)
end Pv

set_option Elab.async false
set_option linter.all false
set_option maxRecDepth 100000
namespace Pv
open PySem PySem.Spec PyProof.Rows L2
open PySem.W (Datum DatumOrd Tup T3 T4)
/-! rows -/
def intsN (n : Nat) : List Int := (List.range n).map fun i : Nat => (i : Int)
theorem nats_intsN (n : Nat) : nats n = (intsN n).map D.int := by unfold nats intsN; rw [List.map_map]; rfl
theorem ints_len (n : Nat) : (intsN n).length = n := by unfold intsN; simp
theorem mem_intsN {n : Nat} {x : Int} : x ∈ intsN n ↔ 0 ≤ x ∧ x < n := by
  unfold intsN
  rw [List.mem_map]
  constructor
  · rintro ⟨i, hi, rfl⟩
    rw [List.mem_range] at hi
    omega
  · rintro ⟨h1, h2⟩
    exact ⟨x.toNat, List.mem_range.mpr (by omega), by omega⟩
theorem ints_lt (n : Nat) : (intsN n).Pairwise (· < ·) := by
  unfold intsN
  rw [List.pairwise_map]
  exact List.pairwise_lt_range.imp fun h => by omega
theorem ints_nodup (n : Nat) : (intsN n).Nodup := (ints_lt n).imp fun h => by omega
def rowD (r : List Int) : D := .ktup (r.map .int)
theorem is_row (r : List Int) : Is (rowD r) (Tup.mk r) := is_ktup (iss_ints r)
abbrev leI (a b : Int) : Bool := decide (a ≤ b)
theorem sortD_ints (r : List Int) : sortD (r.map .int) (r.map Datum.toD) = (r.mergeSort leI).map .int := by
  unfold sortD
  have hz : (r.map D.int).zip (r.map Datum.toD) = r.map fun x => (D.int x, (Datum.toD x : PyData)) := by
    induction r with
    | nil => rfl
    | cons x r ih => rw [List.map_cons, List.map_cons, List.zip_cons_cons, ih]; rfl
  rw [hz, ← List.map_mergeSort (r := leI) (f := fun x : Int => (D.int x, (Datum.toD x : PyData))), List.map_map]
  · rfl
  · intro a _ b _
    have := PySem.W.dataLe_int (fun x : Int => x)
    exact (congrFun (congrFun this a) b).symm
theorem sortable_ints (r : List Int) : sortableB (r.map Datum.toD) = true := by
  unfold sortableB
  rw [Bool.or_eq_true]
  refine .inr ?_
  rw [List.all_eq_true]
  intro p hp
  obtain ⟨x, _, rfl⟩ := List.mem_map.mp hp
  rfl
theorem depthB_is {α : Type} [DecidableEq α] [Datum α] (hd : Datum.depth α ≤ 60) (xs : List α) : depthB (xs.map Datum.toD) = true := by
  unfold depthB
  rw [List.all_eq_true]
  intro p hp
  obtain ⟨x, _, rfl⟩ := List.mem_map.mp hp
  exact decide_eq_true (Nat.le_trans (Datum.depth_le x) hd)
theorem fSorted_ints (r : List Int) : fSorted [.lst (r.map .int)] = .ow (.li ((r.mergeSort leI).map .int)) := by
  have h : toPys (r.map D.int) = some (r.map Datum.toD) := iss_ints r
  simp only [fSorted, lstOf, h, alikeB_is, sortable_ints, depthB_is (α := Int) (by decide) r, Bool.and_self, if_true, sortD_ints]
theorem sort_perm {n : Nat} {r : List Int} (h : r.Perm (intsN n)) : r.mergeSort leI = intsN n := by
  refine List.Perm.eq_of_pairwise (le := fun a b => a ≤ b) (fun a b _ _ h1 h2 => by omega) ?_ ((ints_lt n).imp fun h => by omega) ((List.mergeSort_perm r leI).trans h)
  have := List.pairwise_mergeSort (le := leI) (fun a b c h1 h2 => by simp [leI] at *; omega) (fun a b => by simp [leI]; omega) r
  exact this.imp fun h => by simpa [leI] using h
/-! a dict that tells the places -/
theorem enumD_zip : ∀ (i : Nat) (r : List Int), enumD i (r.map .int) = (r.zipIdx i).map fun p => .tup [.int (p.2 : Nat), .int p.1]
  | _, [] => rfl
  | i, x :: r => by rw [List.map_cons, enumD, enumD_zip (i + 1) r]; rfl
theorem putA_new {κ α : Type} [DecidableEq κ] {kvs : List (κ × α)} {k : κ} {v : α} (h : k ∉ kvs.map (·.1)) : putA kvs k v = kvs ++ [(k, v)] := by
  unfold putA
  rw [if_neg]
  intro z
  rw [List.any_eq_true] at z
  obtain ⟨x, hx, e⟩ := z
  exact h (List.mem_map.mpr ⟨x, hx, of_decide_eq_true e⟩)
theorem mergeA_new {κ α : Type} [DecidableEq κ] : ∀ (more kvs : List (κ × α)), ((kvs ++ more).map (·.1)).Nodup → mergeA kvs more = kvs ++ more
  | [], kvs, _ => by rw [List.append_nil]; rfl
  | p :: r, kvs, h => by
    have hp : p.1 ∉ kvs.map (·.1) := by
      rw [List.map_append, List.map_cons, List.nodup_append] at h
      intro z
      exact h.2.2 _ z _ List.mem_cons_self rfl
    show mergeA (putA kvs p.1 p.2) r = _
    rw [putA_new hp, mergeA_new r]
    · rw [List.append_assoc]; rfl
    · rw [List.append_assoc]; exact h
theorem zip_unzip {κ α : Type} : ∀ l : List (κ × α), (l.map (·.1)).zip (l.map (·.2)) = l
  | [] => rfl
  | x :: l => by rw [List.map_cons, List.map_cons, List.zip_cons_cons, zip_unzip l]
def placeK (r : List Int) : List (Key × D) := (r.zipIdx).map fun p => (.inl p.1, .int (p.2 : Nat))
theorem pairsK_place : ∀ (l : List (Int × Nat)), pairsK (l.map fun p => .tup [.int p.1, .int (p.2 : Nat)]) = some (l.map fun p => ((.inl p.1 : Key), D.int (p.2 : Nat)))
  | [] => rfl
  | p :: l => by
    rw [List.map_cons, List.map_cons]
    simp only [pairsK, keyOf, pairsK_place l]
theorem placeK_keys (r : List Int) : (placeK r).map (·.1) = r.map fun x => (.inl x : Key) := by
  unfold placeK
  rw [List.map_map]
  have : ((fun p : Key × D => p.1) ∘ fun p : Int × Nat => ((.inl p.1 : Key), D.int (p.2 : Nat))) = (fun x => (.inl x : Key)) ∘ Prod.fst := rfl
  rw [this, ← List.map_map, List.zipIdx_map_fst]
theorem fDictK_place {r : List Int} (h : r.Nodup) : fDictK [.lst ((r.zipIdx).map fun p => .tup [.int p.1, .int (p.2 : Nat)])] = .ow (.di (placeK r)) := by
  simp only [fDictK, lstOf, pairsK_place]
  have : mergeA [] (placeK r) = placeK r := by
    rw [mergeA_new]
    · rfl
    · rw [List.nil_append, placeK_keys]
      refine List.Pairwise.map _ (fun a b hab z => hab ?_) h
      cases z; rfl
  exact congrArg (fun z => Rf.ow (.di z)) this
theorem lookA_place : ∀ (i : Nat) (r : List Int) (x : Int), x ∈ r → lookA ((r.zipIdx i).map fun p => ((.inl p.1 : Key), D.int (p.2 : Nat))) (.inl x) = some (.int ((i + r.idxOf x : Nat) : Int))
  | i, [], x, h => nomatch h
  | i, y :: r, x, h => by
    rw [List.zipIdx_cons, List.map_cons]
    unfold lookA
    rw [List.find?_cons]
    by_cases e : y = x
    · subst e
      simp
    · have hx : x ∈ r := by
        rcases List.mem_cons.mp h with h | h
        · exact absurd h.symm e
        · exact h
      have e' : (y == x) = false := by simpa using e
      have ih := lookA_place (i + 1) r x hx
      unfold lookA at ih
      have e2 : decide (((.inl y : Key), D.int (i : Nat)).1 = .inl x) = false := by simpa using e
      rw [e2]
      simp only [ih, List.idxOf_cons, e']
      simp only [cond_false]
      congr 3
      omega
theorem opDGet_place {r : List Int} {x : Int} (h : x ∈ r) : opDGet (.dk ((placeK r).map (·.1)) ((placeK r).map (·.2))) (.int x) = some (.int (r.idxOf x : Nat)) := by
  unfold opDGet dLook
  simp only [keyOf, zip_unzip]
  have := lookA_place 0 r x h
  rw [Nat.zero_add] at this
  unfold placeK
  rw [this]
/-! what a row turns -/
def turnedL (as : List Ar) (r : List Int) : List Ar := as.filter fun x => decide (r.idxOf x.b < r.idxOf x.a)
def weightI (as : List Ar) (r : List Int) : Int := ((turnedL as r).map (·.c)).sum
theorem opIndexT_row {r : List Int} {x : Int} (h : x ∈ r) : opIndexT (rowD r) [.int x] = some (.int (r.idxOf x : Nat)) := ixD_is (is_int x) (iss_ints r) h (by decide) (.inr rfl)
structure RowOk (n : Nat) (r : List Int) : Prop where
  p : r.Perm (intsN n)
theorem RowOk.mem {n : Nat} {r : List Int} (h : RowOk n r) {x : Int} : x ∈ r ↔ 0 ≤ x ∧ x < n := by rw [h.p.mem_iff, mem_intsN]
theorem RowOk.nodup {n : Nat} {r : List Int} (h : RowOk n r) : r.Nodup := h.p.nodup_iff.mpr (ints_nodup n)
theorem RowOk.len {n : Nat} {r : List Int} (h : RowOk n r) : r.length = n := by rw [h.p.length_eq, ints_len]
theorem eraseIdx_mapL {α β : Type} (f : α → β) : ∀ (l : List α) (j : Nat), (l.map f).eraseIdx j = (l.eraseIdx j).map f
  | [], _ => rfl
  | a :: l, 0 => rfl
  | a :: l, j + 1 => by rw [List.map_cons, List.eraseIdx_cons_succ, List.eraseIdx_cons_succ, List.map_cons, eraseIdx_mapL f l j]
theorem filterMap_ite {α β : Type} (f : α → β) (p : α → Prop) [DecidablePred p] : ∀ l : List α, l.filterMap (fun x => if p x then some (f x) else none) = (l.filter fun x => decide (p x)).map f
  | [] => rfl
  | a :: l => by
    by_cases h : p a
    · rw [List.filterMap_cons_some (by rw [if_pos h]), List.filter_cons_of_pos (by simpa using h), List.map_cons, filterMap_ite f p l]
    · rw [List.filterMap_cons_none (by rw [if_neg h]), List.filter_cons_of_neg (by simpa using h), filterMap_ite f p l]
end Pv

set_option Elab.async false
set_option linter.all false
set_option maxRecDepth 100000
namespace Pv
open PySem PySem.Spec PyProof.Rows L2
open PySem.W (Datum DatumOrd Tup T3 T4)
/-! one thing of a row moved -/
def putI (r : List Int) (x : Int) (p : Nat) : List Int := (r.filter fun y => decide (y ≠ x)).take p ++ [x] ++ (r.filter fun y => decide (y ≠ x)).drop p
theorem putI_perm {r : List Int} {x : Int} (hx : x ∈ r) (hn : r.Nodup) (p : Nat) : (putI r x p).Perm r := by
  unfold putI
  have h1 : ((r.filter fun y => decide (y ≠ x)).take p ++ [x] ++ (r.filter fun y => decide (y ≠ x)).drop p).Perm (x :: r.filter fun y => decide (y ≠ x)) := by
    rw [List.append_assoc, List.singleton_append]
    refine List.perm_middle.trans (List.Perm.cons _ ?_)
    rw [List.take_append_drop]
  refine h1.trans ?_
  clear h1
  induction r with
  | nil => exact nomatch hx
  | cons a r ih =>
    rw [List.nodup_cons] at hn
    by_cases e : a = x
    · subst e
      rw [List.filter_cons_of_neg (by simp)]
      have : (r.filter fun y => decide (y ≠ a)) = r := List.filter_eq_self.mpr fun y hy => by
        have : y ≠ a := fun z => hn.1 (z ▸ hy)
        simpa using this
      rw [this]
    · have hx' : x ∈ r := by
        rcases List.mem_cons.mp hx with h | h
        · exact absurd h.symm e
        · exact h
      rw [List.filter_cons_of_pos (by simpa using e)]
      exact (List.Perm.swap _ _ _).trans ((ih hx' hn.2).cons a)
theorem putI_ok {n : Nat} {r : List Int} {x : Int} (h : RowOk n r) (hx : 0 ≤ x ∧ x < n) (p : Nat) : RowOk n (putI r x p) := ⟨(putI_perm (h.mem.mpr hx) h.nodup p).trans h.p⟩
theorem putI_self {r : List Int} {a : Int} (hn : (a :: r).Nodup) : putI (a :: r) a 0 = a :: r := by
  unfold putI
  rw [List.nodup_cons] at hn
  rw [List.filter_cons_of_neg (by simp)]
  have : (r.filter fun y => decide (y ≠ a)) = r := List.filter_eq_self.mpr fun y hy => by
    have : y ≠ a := fun z => hn.1 (z ▸ hy)
    simpa using this
  rw [this]
  simp
/-! slices of a known tuple -/
theorem opSl_take {l : List D} {p : Nat} : opSl true (.ktup l) none (some (p : Int)) = some (.ktup (l.take p)) := by
  unfold opSl
  simp only [lstOf, tupOf]
  rw [HT.sIx_none, HT.sIx_nat]
  by_cases h : min p l.length = l.length
  · rw [if_pos ⟨rfl, h⟩, List.take_of_length_le (by omega)]
  · rw [if_neg (fun z => h z.2)]
    simp only [if_true, cutD, HT.sIx_none, HT.sIx_nat, List.drop_zero, Nat.sub_zero]
    rw [← List.take_take, List.take_of_length_le (Nat.le_refl l.length)]
theorem opSl_drop {l : List D} {p : Nat} : opSl true (.ktup l) (some (p : Int)) none = some (.ktup (l.drop p)) := by
  unfold opSl
  simp only [lstOf, tupOf]
  rw [HT.sIx_none, HT.sIx_nat]
  by_cases h : min p l.length = 0
  · rw [if_pos ⟨h, rfl⟩]
    by_cases hp : p = 0
    · subst hp; rfl
    · have : l = [] := List.eq_nil_of_length_eq_zero (by omega)
      subst this; simp
  · rw [if_neg (fun z => h z.1)]
    simp only [if_true, cutD, HT.sIx_none, HT.sIx_nat]
    congr 2
    have h1 : (l.drop (min p l.length)) = l.drop p := by
      by_cases hp : p ≤ l.length
      · rw [Nat.min_eq_left hp]
      · rw [Nat.min_eq_right (by omega), List.drop_of_length_le (Nat.le_refl _), List.drop_of_length_le (by omega)]
    rw [h1, List.take_of_length_le]
    rw [List.length_drop]; omega
theorem opAdd_k {a b : List D} (h : a.length + b.length ≤ big) : opAdd (.ktup a) (.ktup b) = some (.ktup (a ++ b)) := by
  show (if _ then _ else _) = _
  rw [if_pos h]
/-! the first of the least -/
abbrev Cand := T4 Int Int Int (Tup Int)
def candD (c : Cand) : D := .tup [.int c.a, .int c.b, .int c.c, rowD c.d.items]
theorem is_cand (c : Cand) : Is (candD c) c := is_t4 (is_int _) (is_int _) (is_int _) (is_row _)
def fstMin (o : Option Cand) (c : Cand) : Option Cand := match o with
  | none => some c
  | some a => if c.a < a.a then some c else some a
def candLt (x y : Cand) : Prop := x.b < y.b ∨ (x.b = y.b ∧ x.c < y.c)
theorem lt_cand {x y : Cand} (h : candLt x y) : DatumOrd.lt y x = decide (y.a < x.a) := by
  show (if y.a = x.a then (if y.b = x.b then (if y.c = x.c then DatumOrd.lt y.d x.d else DatumOrd.lt y.c x.c) else DatumOrd.lt y.b x.b) else DatumOrd.lt y.a x.a) = _
  by_cases e : y.a = x.a
  · rw [if_pos e]
    rcases h with h | ⟨h, h'⟩
    · rw [if_neg (by omega)]
      show decide (y.b < x.b) = decide (y.a < x.a)
      rw [decide_eq_false (by omega), decide_eq_false (by omega)]
    · rw [if_pos h.symm, if_neg (by omega)]
      show decide (y.c < x.c) = decide (y.a < x.a)
      rw [decide_eq_false (by omega), decide_eq_false (by omega)]
  · rw [if_neg e]; rfl
theorem argBest_succ (bt : Nat → Nat → Bool) (k : Nat) : argBest bt (k + 1) = if bt (k + 1) (argBest bt k) = true then k + 1 else argBest bt k := rfl
theorem fold_min (C : List Cand) (x : Cand) (hs : C.Pairwise candLt) : ∀ k, k < C.length → (C.take (k + 1)).foldl fstMin none = C[argBest (fun i j => DatumOrd.lt (C.getD i x) (C.getD j x)) k]?
  | 0, h => by
    cases C with
    | nil => exact absurd h (Nat.lt_irrefl _)
    | cons c C => rfl
  | k + 1, h => by
    have ih := fold_min C x hs k (by omega)
    have hb := argBest_le (fun i j => DatumOrd.lt (C.getD i x) (C.getD j x)) k
    rw [argBest_succ]
    generalize argBest (fun i j => DatumOrd.lt (C.getD i x) (C.getD j x)) k = m at ih hb
    have hbl : m < C.length := by omega
    rw [List.take_succ_eq_append_getElem h, List.foldl_append, ih, List.getElem?_eq_getElem hbl]
    have hlt : candLt C[m] C[k + 1] := List.pairwise_iff_getElem.mp hs _ _ hbl h (by omega)
    have e := lt_cand hlt
    have g1 : C.getD (k + 1) x = C[k + 1] := by rw [List.getD_eq_getElem?_getD, List.getElem?_eq_getElem h]; rfl
    have g2 : C.getD m x = C[m] := by rw [List.getD_eq_getElem?_getD, List.getElem?_eq_getElem hbl]; rfl
    rw [g1, g2, e]
    show (if C[k + 1].a < C[m].a then some C[k + 1] else some C[m]) = _
    by_cases hc : C[k + 1].a < C[m].a
    · rw [if_pos hc, if_pos (decide_eq_true hc), List.getElem?_eq_getElem h]
    · rw [if_neg hc, if_neg (by simpa using hc), List.getElem?_eq_getElem hbl]
theorem minAt_fold {C : List Cand} (hs : C.Pairwise candLt) (hn : C ≠ []) : C[minAt C]? = C.foldl fstMin none := by
  cases C with
  | nil => exact absurd rfl hn
  | cons c C =>
    have := fold_min (c :: C) c hs C.length (by simp)
    rw [List.take_of_length_le (by simp)] at this
    exact this.symm
theorem fold_least : ∀ (C : List Cand) (o : Option Cand), (∀ b, C.foldl fstMin o = some b → (∀ c ∈ C, b.a ≤ c.a) ∧ ∀ a, o = some a → b.a ≤ a.a) ∧ (∀ b, C.foldl fstMin o = some b → b ∈ C ∨ o = some b)
  | [], o => ⟨fun b h => ⟨fun c hc => (nomatch hc), fun a e => by rw [List.foldl_nil] at h; rw [h] at e; cases e; exact Int.le_refl _⟩, fun b h => .inr h⟩
  | c :: C, o => by
    obtain ⟨i1, i2⟩ := fold_least C (fstMin o c)
    rw [List.foldl_cons]
    have hm : ∃ m, fstMin o c = some m ∧ m.a ≤ c.a ∧ (∀ a, o = some a → m.a ≤ a.a) ∧ (m = c ∨ o = some m) := by
      cases o with
      | none => exact ⟨c, rfl, Int.le_refl _, (fun a e => by cases e), .inl rfl⟩
      | some a =>
        by_cases h : c.a < a.a
        · exact ⟨c, if_pos h, Int.le_refl _, fun b e => by cases e; omega, .inl rfl⟩
        · exact ⟨a, if_neg h, by omega, fun b e => by cases e; omega, .inr rfl⟩
    obtain ⟨m, hm, h1, h2, h3⟩ := hm
    refine ⟨fun b h => ?_, fun b h => ?_⟩
    · obtain ⟨j1, j2⟩ := i1 b h
      have j2 := j2 m hm
      refine ⟨fun d hd => ?_, fun a e => by have := h2 a e; omega⟩
      rcases List.mem_cons.mp hd with rfl | hd
      · omega
      · exact j1 d hd
    · rcases i2 b h with h | h
      · exact .inl (List.mem_cons_of_mem _ h)
      · rw [hm] at h
        cases h
        rcases h3 with h3 | h3
        · exact .inl (by rw [h3]; exact List.mem_cons_self)
        · exact .inr h3
theorem fold_some : ∀ (C : List Cand) (a : Cand), ∃ b, C.foldl fstMin (some a) = some b
  | [], a => ⟨a, rfl⟩
  | c :: C, a => by
    rw [List.foldl_cons]
    show ∃ b, C.foldl fstMin (if c.a < a.a then some c else some a) = some b
    split
    · exact fold_some C c
    · exact fold_some C a
/-! the moves -/
def candOf (as : List Ar) (r : List Int) (i p : Nat) : Cand := ⟨weightI as (putI r i p), i, p, ⟨putI r i p⟩⟩
def candRow (as : List Ar) (r : List Int) (i : Nat) (ps : List Nat) : List Cand := ps.map fun p => candOf as r i p
def cands (as : List Ar) (r : List Int) (n : Nat) (is : List Nat) : List Cand := is.flatMap fun i => candRow as r i (List.range n)
theorem cands_lt (as : List Ar) (r : List Int) (n : Nat) : ∀ is : List Nat, is.Pairwise (· < ·) → (cands as r n is).Pairwise candLt ∧ ∀ c ∈ cands as r n is, ∃ i ∈ is, c.b = (i : Int)
  | [], _ => ⟨.nil, fun c h => nomatch h⟩
  | i :: is, h => by
    obtain ⟨p1, p2⟩ := List.pairwise_cons.mp h
    obtain ⟨i1, i2⟩ := cands_lt as r n is p2
    have hr : ∀ c ∈ candRow as r i (List.range n), c.b = (i : Int) := fun c hc => by
      obtain ⟨p, _, rfl⟩ := List.mem_map.mp hc
      rfl
    refine ⟨List.pairwise_append.mpr ⟨?_, i1, fun x hx y hy => ?_⟩, fun c hc => ?_⟩
    · unfold candRow
      rw [List.pairwise_map]
      exact List.pairwise_lt_range.imp fun {a b} hab => .inr ⟨rfl, by show (a : Int) < (b : Int); omega⟩
    · obtain ⟨k, hk, e⟩ := i2 y hy
      have := hr x hx
      have := p1 k hk
      exact .inl (by omega)
    · rcases List.mem_append.mp hc with hc | hc
      · exact ⟨i, List.mem_cons_self, hr c hc⟩
      · obtain ⟨k, hk, e⟩ := i2 c hc
        exact ⟨k, List.mem_cons_of_mem _ hk, e⟩
def bestC (as : List Ar) (n : Nat) (r : List Int) : Option Cand := (cands as r n (List.range n)).foldl fstMin none
def bestR (as : List Ar) (n : Nat) (r : List Int) : List Int := match bestC as n r with
  | some c => c.d.items
  | none => []
theorem cands_mem {as : List Ar} {r : List Int} {n : Nat} {c : Cand} (h : c ∈ cands as r n (List.range n)) : ∃ i p, i < n ∧ p < n ∧ c = candOf as r i p := by
  obtain ⟨i, hi, h⟩ := List.mem_flatMap.mp h
  obtain ⟨p, hp, rfl⟩ := List.mem_map.mp h
  exact ⟨i, p, List.mem_range.mp hi, List.mem_range.mp hp, rfl⟩
theorem cands_mk {as : List Ar} {r : List Int} {n i p : Nat} (hi : i < n) (hp : p < n) : candOf as r i p ∈ cands as r n (List.range n) :=
  List.mem_flatMap.mpr ⟨i, List.mem_range.mpr hi, List.mem_map.mpr ⟨p, List.mem_range.mpr hp, rfl⟩⟩
theorem cands_len (as : List Ar) (r : List Int) (n : Nat) : ∀ is : List Nat, (cands as r n is).length = is.length * n
  | [] => by simp [cands]
  | i :: is => by
    show (candRow as r i (List.range n) ++ cands as r n is).length = (is.length + 1) * n
    rw [List.length_append, cands_len as r n is, Nat.succ_mul]
    unfold candRow
    rw [List.length_map, List.length_range]; omega
theorem bestC_some {as : List Ar} {n : Nat} {r : List Int} (hn : 1 ≤ n) : ∃ i p, i < n ∧ p < n ∧ bestC as n r = some (candOf as r i p) ∧ ∀ c ∈ cands as r n (List.range n), (candOf as r i p).a ≤ c.a := by
  have hne : ∃ b, bestC as n r = some b := by
    unfold bestC
    cases e : cands as r n (List.range n) with
    | nil =>
      have := cands_len as r n (List.range n)
      rw [e, List.length_range] at this
      have h2 : 1 ≤ n * n := Nat.mul_le_mul hn hn
      rw [← this] at h2
      exact absurd h2 (by simp)
    | cons c C => exact fold_some C c
  obtain ⟨b, hb⟩ := hne
  obtain ⟨h1, h2⟩ := fold_least (cands as r n (List.range n)) none
  rcases h2 b hb with h | h
  · obtain ⟨i, p, hi, hp, rfl⟩ := cands_mem h
    exact ⟨i, p, hi, hp, hb, (h1 _ hb).1⟩
  · cases h
theorem bestR_ok {as : List Ar} {n : Nat} {r : List Int} (hn : 1 ≤ n) (hr : RowOk n r) : RowOk n (bestR as n r) ∧ weightI as (bestR as n r) ≤ weightI as r := by
  obtain ⟨i, p, hi, hp, e, hl⟩ := bestC_some (as := as) (r := r) hn
  have eb : bestR as n r = putI r i p := by unfold bestR; rw [e]; rfl
  refine ⟨by rw [eb]; exact putI_ok hr ⟨by omega, by omega⟩ p, ?_⟩
  rw [eb]
  cases r with
  | nil => have := hr.len; simp at this; omega
  | cons a r =>
    have ha := hr.mem.mp List.mem_cons_self
    have := hl _ (cands_mk (as := as) (r := a :: r) (i := a.toNat) (p := 0) (by omega) (by omega))
    have e2 : putI (a :: r) (a.toNat : Nat) 0 = a :: r := by
      rw [Int.toNat_of_nonneg ha.1]
      exact putI_self hr.nodup
    have h3 : (candOf as (a :: r) a.toNat 0).a = weightI as (a :: r) := by unfold candOf; dsimp only; rw [e2]
    rw [h3] at this
    exact this
/-! as long as it gets better -/
def stepsR (as : List Ar) (n : Nat) : Nat → List Int → List (List Int)
  | 0, _ => []
  | k + 1, r => if weightI as (bestR as n r) < weightI as r then bestR as n r :: stepsR as n k (bestR as n r) else []
theorem sum_nonneg : ∀ l : List Int, (∀ x ∈ l, 0 ≤ x) → 0 ≤ l.sum
  | [], _ => Int.le_refl _
  | x :: l, h => by
    have := sum_nonneg l fun y hy => h y (List.mem_cons_of_mem _ hy)
    have := h x List.mem_cons_self
    rw [List.sum_cons]; omega
theorem sum_le (m : Int) : ∀ l : List Int, (∀ x ∈ l, x ≤ m) → l.sum ≤ m * l.length
  | [], _ => by simp
  | x :: l, h => by
    have := sum_le m l fun y hy => h y (List.mem_cons_of_mem _ hy)
    have := h x List.mem_cons_self
    rw [List.sum_cons, List.length_cons, show ((l.length + 1 : Nat) : Int) = (l.length : Int) + 1 by omega, Int.mul_add]; omega
theorem weight_nn {n : Nat} {as : List Ar} {r : List Int} (h : WebOk n as) : 0 ≤ weightI as r ∧ weightI as r ≤ 99000 := by
  have hc : ∀ x ∈ (turnedL as r).map (·.c), 1 ≤ x ∧ x ≤ 99 := fun x hx => by
    obtain ⟨y, hy, rfl⟩ := List.mem_map.mp hx
    obtain ⟨_, _, _, _, _, h1, h2⟩ := h.ar y (List.mem_filter.mp hy).1
    exact ⟨h1, h2⟩
  refine ⟨sum_nonneg _ fun x hx => by have := hc x hx; omega, ?_⟩
  have h1 := sum_le 99 ((turnedL as r).map (·.c)) fun x hx => (hc x hx).2
  have h2 : ((turnedL as r).map (·.c)).length ≤ 1000 := by
    rw [List.length_map]
    exact Nat.le_trans (List.length_filter_le _ _) h.len
  unfold weightI
  omega
@[simp] theorem y_whileN {N : Nat} {c : Envi → R Bool} {g : Sem} {ρ : Envi} : sWhileN N c g ρ = runW c g N ρ := id rfl
theorem runW_stop {N : Nat} {c : Envi → R Bool} {g : Sem} {ρ ρ1 : Envi} (h : c ρ = .ok false ρ1) : runW c g (N + 1) ρ = .nx ρ1 := by
  unfold runW; rw [h]; rfl
theorem runW_go {N : Nat} {c : Envi → R Bool} {g : Sem} {ρ ρ1 ρ2 : Envi} (h : c ρ = .ok true ρ1) (h2 : g ρ1 = .nx ρ2) : runW c g (N + 1) ρ = runW c g N ρ2 := by
  show (c ρ).toFl _ = _
  rw [h]
  simp [h2]
end Pv

set_option Elab.async false
set_option linter.all false
set_option maxRecDepth 100000
namespace Pv
open PySem PySem.Spec PyProof.Rows L2
/-! an object with fields: what a method gets and leaves -/
structure FldW (P : Pr) (B F H : Hp) (p : Addr) (fv : List (Option V)) (fs : List Slot) : Prop where
  ob : ObR P B F H p fv
  len : fs.length = fv.length
  sl : ∃ al : Nat → Addr, (∀ (i : Nat) (s : Slot), fs[i]? = some s → SlotR P.K F H (some (p, fv)) (al i) (fv[i]?).join s) ∧
    (∀ (i : Nat) (s : Slot), fs[i]? = some s → s.isOw = true → F (al i) = none ∧ B (al i) = none) ∧
    (∀ (i j : Nat) (s t : Slot), fs[i]? = some s → fs[j]? = some t → s.isOw = true → t.isOw = true → al i = al j → i = j)
def initM (n : Nat) (ds : List D) : Envi := .self :: (ds.map Slot.fz ++ List.replicate (n - (ds.length + 1)) .un)
theorem initM_len {n : Nat} {ds : List D} (h : ds.length + 1 ≤ n) : (initM n ds).length = n := by
  unfold initM
  rw [List.length_cons, List.length_append, List.length_map, List.length_replicate]; omega
theorem initM_ow {n : Nat} {ds : List D} {i : Nat} {s : Slot} (h : (initM n ds)[i]? = some s) : s.isOw = false := by
  unfold initM at h
  cases i with
  | zero => cases h; rfl
  | succ i =>
    rw [List.getElem?_cons_succ] at h
    by_cases hi : i < ds.length
    · rw [List.getElem?_append_left (by simpa using hi), List.getElem?_map, List.getElem?_eq_getElem hi] at h
      cases h; rfl
    · rw [List.getElem?_append_right (by simpa using Nat.le_of_not_lt hi), List.getElem?_replicate] at h
      split at h
      · cases h; rfl
      · cases h
section
variable {P : Pr} {B F0 F H : Hp} {σ : L2.St} {p : Addr} {fv : List (Option V)} {fs : List Slot}
/-- at a method's start -/
theorem Wf.initM {N : List Str} {vs : List V} {ds : List D} (hn : P.n = N.length) (hl : vs.length + 1 ≤ N.length) (s : Same F H) (sb : Same B H) (r : Reps P.K F vs ds) (w : FldW P B F H p fv fs) :
    Wf P B F F H (L2.start N (.ref p :: vs)) (some (p, fv)) (Pv.initM N.length ds ++ fs) := by
  have hd := r.length
  have l1 : (L2.start N (.ref p :: vs)).length = N.length := by
    unfold L2.start
    rw [List.length_append, List.length_map, List.length_replicate, List.length_cons]; omega
  have l2 : (Pv.initM N.length ds).length = N.length := initM_len (by omega)
  obtain ⟨al, s1, s2, s3⟩ := w.sl
  have hi1 : ∀ {i : Nat}, i < N.length → (tau (L2.start N (.ref p :: vs)) (some (p, fv)))[i]? = (L2.start N (.ref p :: vs))[i]? := fun {i} hi => tau_lt (by rw [l1]; exact hi)
  have hi2 : ∀ {i : Nat}, ¬ i < N.length → (tau (L2.start N (.ref p :: vs)) (some (p, fv)))[i]? = fv[i - N.length]? := fun {i} hi => by
    show (L2.start N (.ref p :: vs) ++ fv)[i]? = _
    rw [List.getElem?_append_right (by rw [l1]; omega), l1]
  refine ⟨s, sb, Same.refl _, fun b o e => .inl e, by rw [l1, hn], ?_, ⟨fun i => al (i - N.length), fun i t h => ?_, fun i t h ht => ?_, fun i j t u h h' ht hu e => ?_⟩, fun q gv e => by cases e; exact w.ob⟩
  · show (Pv.initM N.length ds ++ fs).length = (L2.start N (.ref p :: vs) ++ fv).length
    rw [List.length_append, List.length_append, l1, l2, w.len]
  · by_cases hi : i < N.length
    · rw [List.getElem?_append_left (by rw [l2]; exact hi)] at h
      rw [hi1 hi]
      unfold Pv.initM at h
      cases i with
      | zero =>
        cases h
        refine ⟨p, fv, rfl, ?_⟩
        unfold L2.start
        rfl
      | succ i =>
        rw [List.getElem?_cons_succ] at h
        by_cases hi' : i < ds.length
        · rw [List.getElem?_append_left (by simpa using hi'), List.getElem?_map] at h
          cases e : ds[i]? with
          | none => rw [e] at h; cases h
          | some d =>
            rw [e] at h
            cases h
            obtain ⟨v, h1, h2⟩ := r.get e
            refine ⟨v, ?_, h2⟩
            unfold L2.start
            rw [List.getElem?_append_left (by simp; omega), List.getElem?_map, List.getElem?_cons_succ, h1]
            rfl
        · rw [List.getElem?_append_right (by simpa using Nat.le_of_not_lt hi'), List.getElem?_replicate] at h
          split at h
          · cases h; exact True.intro
          · cases h
    · rw [List.getElem?_append_right (by rw [l2]; omega), l2] at h
      rw [hi2 hi]
      exact s1 _ t h
  · by_cases hi : i < N.length
    · rw [List.getElem?_append_left (by rw [l2]; exact hi)] at h
      rw [initM_ow h] at ht; cases ht
    · rw [List.getElem?_append_right (by rw [l2]; omega), l2] at h
      exact s2 _ t h ht
  · by_cases hi : i < N.length
    · rw [List.getElem?_append_left (by rw [l2]; exact hi)] at h
      rw [initM_ow h] at ht; cases ht
    · by_cases hj : j < N.length
      · rw [List.getElem?_append_left (by rw [l2]; exact hj)] at h'
        rw [initM_ow h'] at hu; cases hu
      · rw [List.getElem?_append_right (by rw [l2]; omega), l2] at h h'
        have := s3 _ _ t u h h' ht hu e
        omega
/-- the fields behind a method's end -/
theorem Wf.toFld {ob : Ob} {ρ : Envi} (w : Wf P B F0 F H σ ob ρ) (h0 : ρ[0]? = some .self) : ∃ fv', ob = some (P.me, fv') ∧ FldW P B F H P.me fv' (ρ.drop P.n) := by
  obtain ⟨al, s1, s2, s3⟩ := w.sl
  obtain ⟨q, fv', e, _⟩ := s1 0 _ h0
  subst e
  have o := w.ob q fv' rfl
  have hm := o.me
  subst hm
  refine ⟨fv', rfl, o, ?_, fun i => al (P.n + i), fun i t h => ?_, fun i t h ht => ?_, fun i j t u h h' ht hu e => ?_⟩
  · have := w.len
    have t : (tau σ (some (P.me, fv'))).length = σ.length + fv'.length := by show (σ ++ fv').length = _; rw [List.length_append]
    rw [List.length_drop, this, t, w.n]; omega
  · rw [List.getElem?_drop] at h
    have := s1 _ t h
    have e2 : (tau σ (some (P.me, fv')))[P.n + i]? = fv'[i]? := by
      show (σ ++ fv')[P.n + i]? = _
      rw [List.getElem?_append_right (by rw [w.n]; omega), w.n]
      congr 1; omega
    rw [e2] at this
    exact this
  · rw [List.getElem?_drop] at h
    exact s2 _ t h ht
  · rw [List.getElem?_drop] at h h'
    have := s3 _ _ t u h h' ht hu e
    omega
open Classical in
/-- the rest of a frame, apart from its object's fields -/
theorem Wf.split {loc : Envi} (w : Wf P B F0 F H σ (some (p, fv)) (loc ++ fs)) (hl : loc.length = P.n) : ∃ B1, Same B1 H ∧ FldW P B1 F H p fv fs ∧
    ∀ F' H' fv' fs', Same F F' → Same F' H' → Same B1 H' → (∀ b o, F' b = some o → F b = some o ∨ B1 b = none ∨ ∃ vs, o = .tup vs) → FldW P B1 F' H' p fv' fs' → Wf P B F0 F' H' σ (some (p, fv')) (loc ++ fs') := by
  obtain ⟨fh, bh, ff, nw, n, len, ⟨al, s1, s2, s3⟩, hob⟩ := w
  have o := hob p fv rfl
  have lf : fs.length = fv.length := by
    have t : (tau σ (some (p, fv))).length = σ.length + fv.length := by show (σ ++ fv).length = _; rw [List.length_append]
    rw [List.length_append, t, hl, n] at len; omega
  have gl : ∀ {i : Nat} {s : Slot}, loc[i]? = some s → (loc ++ fs)[i]? = some s ∧ i < P.n := fun {i s} h => by
    have := (List.getElem?_eq_some_iff.mp h).1
    exact ⟨by rw [List.getElem?_append_left this]; exact h, by omega⟩
  have gf : ∀ {i : Nat} {s : Slot}, fs[i]? = some s → (loc ++ fs)[P.n + i]? = some s := fun {i s} h => by
    rw [List.getElem?_append_right (by omega), hl]
    rw [show P.n + i - P.n = i by omega]; exact h
  have tl : ∀ {i : Nat} (fv : List (Option V)), i < P.n → (tau σ (some (p, fv)))[i]? = σ[i]? := fun {i} fv hi => tau_lt (by rw [n]; exact hi)
  have tf : ∀ (i : Nat) (fv : List (Option V)), (tau σ (some (p, fv)))[P.n + i]? = fv[i]? := fun i fv => by
    show (σ ++ fv)[P.n + i]? = _
    rw [List.getElem?_append_right (by rw [n]; omega), n]
    congr 1; omega
  let own : Addr → Prop := fun b => ∃ i s, loc[i]? = some s ∧ s.isOw = true ∧ al i = b
  let B1 : Hp := fun b => if B b ≠ none ∨ own b then H b else none
  have b1n : ∀ {b : Addr}, B1 b = none → B b = none := fun {b} h => by
    cases e : B b with
    | none => rfl
    | some x =>
      have h : (if B b ≠ none ∨ own b then H b else none) = none := h
      rw [if_pos (.inl (by rw [e]; exact fun z => nomatch z)), bh b x e] at h
      cases h
  have b1o : ∀ {i : Nat} {s : Slot}, loc[i]? = some s → s.isOw = true → ∃ ho, H (al i) = some ho ∧ B1 (al i) = some ho := fun {i s} h hs => by
    obtain ⟨h', hi⟩ := gl h
    have x := s1 i s h'
    obtain ⟨ho, e, _⟩ := x.there hs
    refine ⟨ho, e, ?_⟩
    show (if B (al i) ≠ none ∨ own (al i) then H (al i) else none) = _
    rw [if_pos (.inr ⟨i, s, h, hs, rfl⟩), e]
  have b1p : ∀ {b : Addr}, B b = none → ¬ own b → B1 b = none := fun {b} h h' => by
    show (if B b ≠ none ∨ own b then H b else none) = none
    rw [if_neg (fun z => z.elim (fun z => z h) h')]
  have sB : Same B1 H := fun b x e => by
    have e : (if B b ≠ none ∨ own b then H b else none) = some x := e
    split at e
    · exact e
    · cases e
  refine ⟨B1, sB, ⟨⟨o.me, o.len, o.fp, b1p o.bp fun ⟨i, s, h, hs, e⟩ => ?_, o.at_⟩, lf, fun i => al (P.n + i), fun i t h => ?_, fun i t h ht => ?_, fun i j t u h h' ht hu e => ?_⟩, ?_⟩
  · obtain ⟨h', hi⟩ := gl h
    obtain ⟨ho, e2, hne, _⟩ := (s1 i s h').there hs
    obtain ⟨dx, g, e3⟩ := o.ins
    rw [e, e3] at e2
    cases e2
    exact hne _ _ _ rfl
  · have := s1 _ t (gf h)
    rw [tf i fv] at this
    exact this
  · obtain ⟨g1, g2⟩ := s2 _ t (gf h) ht
    refine ⟨g1, b1p g2 fun ⟨k, s, hk, hs, e⟩ => ?_⟩
    obtain ⟨h', hi⟩ := gl hk
    have := s3 _ _ s t h' (gf h) hs ht e
    omega
  · have := s3 _ _ t u (gf h) (gf h') ht hu e
    omega
  · intro F' H' fv' fs' sF sH sB' nw' w'
    obtain ⟨al', t1, t2, t3⟩ := w'.sl
    have fo : ∀ {i : Nat} {s : Slot}, loc[i]? = some s → s.isOw = true → F' (al i) = none := fun {i s} h hs => by
      obtain ⟨ho, e1, e2⟩ := b1o h hs
      cases e : F' (al i) with
      | none => rfl
      | some x =>
        rcases nw' _ _ e with z | z | ⟨us, rfl⟩
        · have := (s2 i s (gl h).1 hs).1
          rw [z] at this; cases this
        · rw [e2] at z; cases z
        · obtain ⟨ho', e1', _, hz⟩ := (s1 i s (gl h).1).there hs
          have q := sH _ _ e
          rw [sB' _ _ e2] at q
          rw [e1] at e1'
          cases e1'
          exact absurd (Option.some.inj q) (hz us)
    have cs : ∀ {i : Nat} {s : Slot}, (loc ++ fs')[i]? = some s → (i < P.n ∧ loc[i]? = some s) ∨ (¬ i < P.n ∧ fs'[i - P.n]? = some s) := fun {i s} h => by
      by_cases hi : i < P.n
      · rw [List.getElem?_append_left (by omega)] at h; exact .inl ⟨hi, h⟩
      · rw [List.getElem?_append_right (by omega), hl] at h; exact .inr ⟨hi, h⟩
    refine ⟨sH, fun b x e => ?_, ff.trans sF, fun b x e => ?_, n, ?_, ⟨fun i => if i < P.n then al i else al' (i - P.n), fun i s h => ?_, fun i s h hs => ?_, fun i j s t h h' hs ht e => ?_⟩, fun q gv e => ?_⟩
    · refine sB' b x ?_
      show (if B b ≠ none ∨ own b then H b else none) = some x
      rw [if_pos (.inl (by rw [e]; exact fun z => nomatch z)), bh b x e]
    · rcases nw' b x e with z | z
      · exact nw b x z
      · exact .inr (z.imp_left b1n)
    · show (loc ++ fs').length = (σ ++ fv').length
      rw [List.length_append, List.length_append, hl, n, w'.len]
    · rcases cs h with ⟨hi, h⟩ | ⟨hi, h⟩
      · simp only [hi, if_true]
        rw [tl fv' hi]
        have x := s1 i s (gl h).1
        rw [tl fv hi] at x
        cases s with
        | un => exact True.intro
        | fz d =>
          obtain ⟨u, e1, e2⟩ := x
          exact ⟨u, e1, e2.mono sF⟩
        | ow d =>
          obtain ⟨e1, ho, e2, e3⟩ := x
          obtain ⟨ho', g1, g2⟩ := b1o h rfl
          rw [e2] at g1
          cases g1
          exact ⟨e1, ho, sB' _ _ g2, e3.mono sF⟩
        | self =>
          obtain ⟨q, gv, e1, e2⟩ := x
          cases e1
          exact ⟨p, fv', rfl, e2⟩
      · simp only [hi, if_false]
        have := t1 _ s h
        have e : (tau σ (some (p, fv')))[i]? = fv'[i - P.n]? := by
          have := tf (i - P.n) fv'
          rw [show P.n + (i - P.n) = i by omega] at this
          exact this
        rw [e]
        exact this
    · rcases cs h with ⟨hi, h⟩ | ⟨hi, h⟩
      · simp only [hi, if_true]
        exact ⟨fo h hs, (s2 i s (gl h).1 hs).2⟩
      · simp only [hi, if_false]
        obtain ⟨g1, g2⟩ := t2 _ s h hs
        exact ⟨g1, b1n g2⟩
    · rcases cs h with ⟨hi, h⟩ | ⟨hi, h⟩
      · rcases cs h' with ⟨hj, h'⟩ | ⟨hj, h'⟩
        · simp only [hi, hj, if_true] at e
          exact s3 i j s t (gl h).1 (gl h').1 hs ht e
        · simp only [hi, hj, if_true, if_false] at e
          obtain ⟨ho, _, g⟩ := b1o h hs
          have := (t2 _ t h' ht).2
          rw [← e, g] at this; cases this
      · rcases cs h' with ⟨hj, h'⟩ | ⟨hj, h'⟩
        · simp only [hi, hj, if_true, if_false] at e
          obtain ⟨ho, _, g⟩ := b1o h' ht
          have := (t2 _ s h hs).2
          rw [e, g] at this; cases this
        · simp only [hi, hj, if_false] at e
          have := t3 _ _ s t h h' hs ht e
          omega
    · cases e
      exact ⟨w'.ob.me, w'.ob.len, w'.ob.fp, o.bp, w'.ob.at_⟩
end
end Pv

set_option Elab.async false
set_option linter.all false
set_option maxRecDepth 100000
namespace Pv
open PySem PySem.Spec PyProof.Rows L2
/-! methods -/
abbrev pP (K : PySem.W.Frag) (C : Addr) (fns : List Str) (p : Addr) : Pr := ⟨K, fun _ => .none, 0, fns, C, p⟩
theorem FldW.cast {P P' : Pr} {B F H : Hp} {p : Addr} {fv : List (Option V)} {fs : List Slot} (w : FldW P B F H p fv fs) (h1 : P'.K = P.K) (h2 : P'.fns = P.fns) (h3 : P'.C = P.C) (h4 : P'.me = P.me) : FldW P' B F H p fv fs := by
  obtain ⟨⟨me, l, fp, bp, a⟩, len, sl⟩ := w
  refine ⟨⟨by rw [h4]; exact me, by rw [h2]; exact l, fp, bp, by rw [h2, h3]; exact a⟩, len, by rw [h1]; exact sl⟩
/-- a method's promise: its fields' slots ahead and behind -/
def spM (K : PySem.W.Frag) (C : Addr) (fns : List Str) (n : Nat) (fm : List Slot → List D → Option (D × List Slot)) : Sp := fun vs H Q E => vs.length = n + 1 ∧ ∃ p vs', vs = .ref p :: vs' ∧ ∃ B F ds fv fs, Same B H ∧ Same F H ∧ Reps K F vs' ds ∧ FldW (pP K C fns p) B F H p fv fs ∧
  ∃ d fs', fm fs ds = some (d, fs') ∧ ∀ F' H' v fv', Same F F' → Same F' H' → Same B H' → (∀ b o, F' b = some o → F b = some o ∨ B b = none ∨ ∃ vs, o = .tup vs) → FldW (pP K C fns p) B F' H' p fv' fs' → Rep K F' v d → Q v H'
def endM (n : Nat) (ρ : Envi) (d : D) : Option (D × List Slot) := match ρ[0]? with
  | some Pv.Slot.self => some (d, ρ.drop n)
  | _ => none
def endF (n : Nat) : Fl → Option (D × List Slot)
  | .nx ρ => endM n ρ .non
  | .ret (.fz d) ρ => endM n ρ d
  | .ret (.ow o) ρ => endM n ρ o.toD
  | _ => none
def fmOf (n : Nat) (g : Sem) (fs : List Slot) (ds : List D) : Option (D × List Slot) := endF n (g (initM n ds ++ fs))
theorem endM_some {n : Nat} {ρ : Envi} {d d' : D} {fs : List Slot} (h : endM n ρ d = some (d', fs)) : ρ[0]? = some .self ∧ d' = d ∧ fs = ρ.drop n := by
  unfold endM at h
  split at h
  · rename_i e
    cases h
    exact ⟨e, rfl, rfl⟩
  · cases h
theorem fin_genM {K : PySem.W.Frag} {ec : Exc → Value} {C : Addr} {fns : List Str} {N : List Str} {n : Nat} {ts : TS} {g : Sem} {vs : List V} {H : Hp} {Q : VK} {E : XK} (hs : ∀ p, SndS ⟨K, ec, N.length, fns, C, p⟩ (fun cls d _ H => E cls d H) ts g) (hn : n + 1 ≤ N.length)
    (h : spM K C fns n (fmOf N.length g) vs H Q E) : ts { nx := fun _ H' => Q .non H', rt := Q } (L2.start N vs) H := by
  obtain ⟨hl, p, vs', rfl, B, F, ds, fv, fs, sB, sF, r, w, d, fs', e, q⟩ := h
  rw [List.length_cons] at hl
  have wf := Wf.initM (P := ⟨K, ec, N.length, fns, C, p⟩) (N := N) rfl (by omega) sF sB r (w.cast rfl rfl rfl rfl)
  refine hs p B F F H _ _ _ _ wf ?_
  unfold fmOf at e
  have fin : ∀ {F' H' σ' ob' ρ' u d'}, Wf (⟨K, ec, N.length, fns, C, p⟩ : Pr) B F F' H' σ' ob' ρ' → Same F F' → Rep K F' u d' → endM N.length ρ' d' = some (d, fs') → Q u H' := fun {F' H' σ' ob' ρ' u d'} w' s r e => by
    obtain ⟨e0, rfl, rfl⟩ := endM_some e
    obtain ⟨fv', rfl, w2⟩ := w'.toFld e0
    exact q F' H' u fv' s w'.fh w'.bh w'.nw (w2.cast rfl rfl rfl rfl) r
  cases eg : g (initM N.length ds ++ fs) with
  | nx ρ' =>
    rw [eg] at e
    exact fun F' H' σ' ob' w' s => fin w' s .non e
  | ret v ρ' =>
    rw [eg] at e
    cases v with
    | fz d' =>
      rintro B' F' H' σ' ob' u w' s ⟨rfl, r⟩
      exact fin w' s r e
    | ow o =>
      rintro B' F' H' σ' ob' u w' s ⟨a, ho, rfl, rfl, e3, e4, e5⟩
      exact fin (w'.tmpFrz e4 e3) (s.trans (same_new e4)) ((e5.mono (same_new e4)).rep upd_same) e
  | exc c ρ' => rw [eg] at e; cases e
  | bk ρ' => rw [eg] at e; cases e
  | ct ρ' => rw [eg] at e; cases e
  | stuck => rw [eg] at e; cases e
section
variable {P : Pr} {m : Bool} {W : WX} {te ta tb to : TE} {f g : Envi → R Hd} {n : Nat} {fa : Envi → R (List Hd)} {tr : TA} {B F0 F H : Hp} {σ : L2.St} {ob : Ob} {ρ : Envi}
/-- the local i is the object -/
theorem Wf.self (w : Wf P B F0 F H σ ob ρ) {i : Nat} (hi : i < P.n) (e : ρ[i]? = some .self) : ∃ fv, ob = some (P.me, fv) ∧ σ[i]? = some (some (.ref P.me)) := by
  obtain ⟨al, s1, _⟩ := w.sl
  obtain ⟨q, fv, e1, e2⟩ := s1 i _ e
  subst e1
  have hm := (w.ob q fv rfl).me
  subst hm
  have hi' : i < σ.length := by rw [w.n]; exact hi
  rw [tau_lt hi'] at e2
  refine ⟨fv, rfl, ?_⟩
  rw [List.getElem?_eq_getElem hi'] at e2 ⊢
  rw [show σ[i] = some (.ref P.me) from e2]
/-- self.f -/
def eFld (i k : Nat) : Envi → R Hd := fun ρ => match ρ[i]?, ρ[k]? with
  | some .self, some (.fz d) => .ok (.dat d) ρ
  | some .self, some (.ow _) => .ok (.fl k) ρ
  | _, _ => .stuck
theorem fld_at (w : Wf P B F0 F H σ (some (P.me, fv)) ρ) {k j : Nat} {x : Str} {v : V} (hk : k = P.n + j) (hx : P.fns[j]? = some x) (e : (tau σ (some (P.me, fv)))[k]? = some (some v)) : ∃ dx fs, H P.me = some (.ins P.C dx fs) ∧ fs.lookup x = some v := by
  obtain ⟨_, _, _, _, dx, fs, h1, h2, _⟩ := w.ob P.me fv rfl
  refine ⟨dx, fs, h1, ?_⟩
  rw [h2 j x hx]
  have : (σ ++ fv)[k]? = some (some v) := e
  rw [hk, List.getElem?_append_right (by rw [w.n]; omega), w.n, show P.n + j - P.n = j by omega] at this
  rw [this]; rfl
theorem snd_fld {i k j : Nat} {x : Str} (hi : i < P.n) (hk : k = P.n + j) (hx : P.fns[j]? = some x) (hc : Cls P.K P.C) (hn : NoAttr P.K P.C x) : SndE P m W (tFld P.K (tVar i) x) (eFld i k) := fun B F0 F H σ ob ρ Q w q => by
  unfold eFld at q
  split at q
  · rename_i d e0 e1
    obtain ⟨fv, rfl, e2⟩ := w.self hi e0
    obtain ⟨al, s1, _⟩ := w.sl
    obtain ⟨u, h1, h2⟩ := s1 k _ e1
    have h1' : (tau σ (some (P.me, fv)))[k]? = some (some u) := by
      cases z : (tau σ (some (P.me, fv)))[k]? with
      | none => rw [z] at h1; cases h1
      | some o => rw [z] at h1; exact congrArg some h1
    obtain ⟨dx, fs, g1, g2⟩ := fld_at w hk hx h1'
    exact ⟨_, e2, P.me, P.C, dx, fs, u, rfl, g1, hc, hn, g2, q B F H _ u w (Same.refl _) (fun _ => rfl) ⟨rfl, h2⟩⟩
  · rename_i o e0 e1
    obtain ⟨fv, rfl, e2⟩ := w.self hi e0
    obtain ⟨a, ho, h1, h2, _⟩ := w.owned e1
    obtain ⟨dx, fs, g1, g2⟩ := fld_at w hk hx h1
    exact ⟨_, e2, P.me, P.C, dx, fs, _, rfl, g1, hc, hn, g2, q B F H _ _ w (Same.refl _) (fun _ => rfl) ⟨rfl, by omega, h1⟩⟩
  · exact q.elim
def isSelf (i : Nat) : Envi → Bool := fun ρ => match ρ[i]? with
  | some .self => true
  | _ => false
theorem sp_fld {i k j : Nat} {x : Str} (hi : i < P.n) (hk : k = P.n + j) (hx : P.fns[j]? = some x) (hc : Cls P.K P.C) (hn : NoAttr P.K P.C x) : SndP P (tFld P.K (tVar i) x) k (isSelf i) := fun B F0 F H σ ob ρ Q v w e0 e q => by
  unfold isSelf at e0
  split at e0
  · rename_i e1
    obtain ⟨fv, rfl, e2⟩ := w.self hi e1
    obtain ⟨dx, fs, g1, g2⟩ := fld_at w hk hx e
    exact ⟨_, e2, P.me, P.C, dx, fs, v, rfl, g1, hc, hn, g2, q⟩
  · cases e0
/-- self.m(..) -/
def selfM (N : Nat) (fm : List Slot → List D → Option (D × List Slot)) (ρ : Envi) (ds : List D) : R Hd := match fm (ρ.drop N) ds with
  | some (d, fs') => .ok (.dat d) (ρ.take N ++ fs')
  | none => .stuck
def eSelf (i N : Nat) (fm : List Slot → List D → Option (D × List Slot)) (g : Envi → R (List Hd)) : Envi → R Hd := fun ρ => if isSelf i ρ = true then (g ρ).bind fun hs ρ1 => match matAll ρ1 hs with
    | some (ds, ρ2) => if isSelf i ρ2 = true then selfM N fm ρ2 ds else .stuck
    | none => .stuck
  else .stuck
theorem isSelf_at {i : Nat} {ρ : Envi} (h : isSelf i ρ = true) : ρ[i]? = some .self := by
  unfold isSelf at h
  split at h
  · assumption
  · cases h
theorem snd_self {i N : Nat} {x : Str} {fm : List Slot → List D → Option (D × List Slot)} (hi : i < P.n) (hN : P.n = N) (hx : x ∉ P.fns) (ha : SndA P true W n tr fa) : SndE P true W (tMeth P.C x (spM P.K P.C P.fns n fm) [] (fun _ _ _ => False) (tVar i) tr) (eSelf i N fm fa) := fun B F0 F H σ ob ρ Q w q => by
  subst hN
  unfold eSelf at q
  split at q
  · rename_i h0
    obtain ⟨fv, rfl, e2⟩ := w.self hi (isSelf_at h0)
    obtain ⟨_, _, _, _, dx, fs, g1, _, g3, _⟩ := w.ob P.me fv rfl
    refine ⟨_, e2, P.me, dx, fs, rfl, g1, g3 x hx, ?_⟩
    refine ha B F0 F H σ _ ρ _ w (Post.of_bind (k := fun hs ρ1 => match matAll ρ1 hs with | some (ds, ρ2) => if isSelf i ρ2 = true then selfM P.n fm ρ2 ds else R.stuck | none => R.stuck) q ?_)
    rintro hs ρ1 B' F1 H1 ob1 ys w1 s1 i1 ⟨⟨rfl, r1⟩, hl⟩ q
    cases e : matAll ρ1 hs with
    | none => rw [e] at q; exact q.elim
    | some y =>
      obtain ⟨ds, ρ2⟩ := y
      rw [e] at q
      try dsimp only at q
      split at q
      · rename_i h2
        obtain ⟨F2, w2, s2, r2⟩ := w1.matAll r1 e
        obtain ⟨fv2, rfl, e3⟩ := w2.self hi (isSelf_at h2)
        unfold selfM at q
        cases ef : fm (ρ2.drop P.n) ds with
        | none => rw [ef] at q; exact q.elim
        | some z =>
          obtain ⟨d, fs'⟩ := z
          rw [ef] at q
          have hl2 : (ρ2.take P.n).length = P.n := by
            have t : (tau σ (some (P.me, fv2))).length = σ.length + fv2.length := by show (σ ++ fv2).length = _; rw [List.length_append]
            have := w2.len
            rw [t, w2.n] at this
            rw [List.length_take]; omega
          have w3 : Wf P B' F0 F2 H1 σ (some (P.me, fv2)) (ρ2.take P.n ++ ρ2.drop P.n) := by rw [List.take_append_drop]; exact w2
          obtain ⟨B1, sB, fw, back⟩ := w3.split hl2
          rw [List.append_nil]
          refine ⟨by rw [List.length_cons, hl], P.me, ys, rfl, B1, F2, ds, fv2, _, sB, w2.fh, r2, fw.cast rfl rfl rfl rfl, d, fs', ef, fun F' H' v fv' k1 k2 k3 k4 fw' rv => ?_⟩
          have w4 := back F' H' fv' fs' k1 k2 k3 k4 (fw'.cast rfl rfl rfl rfl)
          exact q B' F' H' _ v w4 ((s1.trans s2).trans k1) (fun z => nomatch z) ⟨rfl, rv⟩
      · exact q.elim
  · exact q.elim
/-! C(..).m(..): an object that nobody keeps -/
def unsN (n : Nat) : List Slot := List.replicate n .un
def mkM (nf : Nat) (fi fm : List Slot → List D → Option (D × List Slot)) (ds ds2 : List D) : Option D := match fi (unsN nf) ds with
  | some (.non, fs1) => (fm fs1 ds2).map (·.1)
  | _ => none
theorem FldW.new {K : PySem.W.Frag} {C : Addr} {fns : List Str} {x dx : Addr} {F H : Hp} (hx : H x = none) (hd : H dx = none) (hne : dx ≠ x) (s : Same F H) : FldW (pP K C fns x) H F (upd (upd H dx (.own x)) x (.ins C dx [])) x (List.replicate fns.length none) (unsN fns.length) := by
  refine ⟨⟨rfl, List.length_replicate, s.free hx, hx, dx, [], upd_same, fun j f h => ?_, fun g _ => rfl, List.nodup_nil⟩, by unfold unsN; rw [List.length_replicate, List.length_replicate], fun _ => 0, fun i t h => ?_, fun i t h ht => ?_, fun i j t u h h' ht => ?_⟩
  · rw [List.getElem?_replicate]
    split <;> rfl
  all_goals
    unfold unsN at h
    rw [List.getElem?_replicate] at h
    split at h
    · cases h
      first | exact True.intro | cases ht
    · cases h
end
end Pv

set_option Elab.async false
set_option linter.all false
set_option maxRecDepth 100000
namespace Pv
open PySem PySem.Spec PyProof.Rows L2
/-! self.f = e -/
theorem nodup_sub {α : Type} [BEq α] [LawfulBEq α] : ∀ {l m : List α}, l.Nodup → (∀ x ∈ l, x ∈ m) → l.length ≤ m.length
  | [], _, _, _ => Nat.zero_le _
  | a :: l, m, h, s => by
    rw [List.nodup_cons] at h
    have ha := s a List.mem_cons_self
    have ih := nodup_sub (l := l) (m := m.erase a) h.2 fun x hx => (List.mem_erase_of_ne (fun (e : x = a) => h.1 (by rw [← e]; exact hx))).mpr (s x (List.mem_cons_of_mem _ hx))
    have := List.length_erase_of_mem ha
    have := List.length_pos_of_mem ha
    rw [List.length_cons]; omega
theorem putF_keys (f : Str) (v : V) : ∀ fs : List (Str × V), (putF f v fs).map (·.1) = if f ∈ fs.map (·.1) then fs.map (·.1) else fs.map (·.1) ++ [f]
  | [] => rfl
  | (g, x) :: r => by
    show ((if g = f then (g, v) :: r else (g, x) :: putF f v r)).map (·.1) = _
    by_cases e : g = f
    · subst e
      rw [if_pos rfl, if_pos (by simp)]; rfl
    · rw [if_neg e, List.map_cons, putF_keys f v r]
      by_cases h : f ∈ r.map (·.1)
      · rw [if_pos h, if_pos (by simpa using .inr (by simpa using h))]; rfl
      · rw [if_neg h, if_neg (by
          rw [List.map_cons, List.mem_cons]
          exact fun z => z.elim (fun z => e z.symm) h)]; rfl
theorem lookup_none {f : Str} : ∀ {fs : List (Str × V)}, fs.lookup f = none → f ∉ fs.map (·.1)
  | [], _ => by simp
  | (g, x) :: r, h => by
    rw [List.lookup_cons] at h
    split at h
    · cases h
    · rename_i e
      rw [List.map_cons, List.mem_cons]
      exact fun z => z.elim (fun z => by subst z; simp at e) (lookup_none h)
section
variable {P : Pr} {m : Bool} {W : WX} {te : TE} {f : Envi → R Hd} {B B0 F0 F H : Hp} {σ : L2.St} {fv : List (Option V)} {ρ : Envi} {fs : List (Str × V)}
theorem Wf.setFld {x : Str} {v : V} {k j : Nat} {a0 : Addr} {s : Slot} {dx : Addr} (w : Wf P B0 F0 F H σ (some (P.me, fv)) ρ) (hk : k = P.n + j) (hx : P.fns[j]? = some x) (hnd : P.fns.Nodup) (hB : Same B B0)
    (hins : H P.me = some (.ins P.C dx fs)) (hl : (∀ (j : Nat) (f : Str), P.fns[j]? = some f → fs.lookup f = (fv[j]? : Option (Option V)).join) ∧ (∀ g, g ∉ P.fns → fs.lookup g = none) ∧ (fs.map (·.1)).Nodup)
    (hs : SlotR P.K F H (some (P.me, fv)) a0 (some v) s) (hself : s ≠ .self) (hsep : s.isOw = true → F a0 = none ∧ B a0 = none ∧ B0 a0 ≠ none) :
    Wf P B F0 F (upd H P.me (.ins P.C dx (putF x v fs))) σ (some (P.me, fv.set j (some v))) (ρ.set k s) := by
  obtain ⟨fh, bh, ff, nw, n, len, ⟨al, s1, s2, s3⟩, hob⟩ := w
  have o := hob P.me fv rfl
  have hj : j < fv.length := by rw [o.len]; exact (List.getElem?_eq_some_iff.mp hx).1
  have tl : (tau σ (some (P.me, fv))).length = σ.length + fv.length := by show (σ ++ fv).length = _; rw [List.length_append]
  have hkρ : k < ρ.length := by rw [len, tl, n]; omega
  have te : tau σ (some (P.me, fv.set j (some v))) = (tau σ (some (P.me, fv))).set k (some v) := by
    show σ ++ fv.set j (some v) = (σ ++ fv).set k (some v)
    rw [List.set_append, if_neg (by rw [n]; omega), n, show k - P.n = j by omega]
  have bme : B P.me = none := hB.free o.bp
  have neq : ∀ {i : Nat} {t : Slot}, ρ[i]? = some t → t.isOw = true → al i ≠ P.me := fun {i t} h ht e => by
    obtain ⟨ho, e2, hne, _⟩ := (s1 i t h).there ht
    rw [e, hins] at e2
    cases e2
    exact hne _ _ _ rfl
  have rs : ∀ {a : Addr} {u : Option V} {t : Slot}, (t.isOw = true → a ≠ P.me) → SlotR P.K F H (some (P.me, fv)) a u t → SlotR P.K F (upd H P.me (.ins P.C dx (putF x v fs))) (some (P.me, fv.set j (some v))) a u t := fun {a u t} hne h => by
    cases t with
    | un => exact True.intro
    | fz d => exact h
    | ow d =>
      obtain ⟨e1, ho, e2, e3⟩ := h
      exact ⟨e1, ho, by rw [upd_ne (hne rfl)]; exact e2, e3⟩
    | self =>
      obtain ⟨q, gv, e1, e2⟩ := h
      cases e1
      exact ⟨P.me, _, rfl, e2⟩
  refine ⟨fun b y e => ?_, fun b y e => ?_, ff, fun b y e => ?_, n, ?_, ⟨fun i => if i = k then a0 else al i, fun i t h => ?_, fun i t h ht => ?_, fun i i' t u h h' ht hu e => ?_⟩, fun q gv e => ?_⟩
  · rw [upd_ne (ne_of_none e o.fp)]; exact fh b y e
  · rw [upd_ne (ne_of_none e bme)]; exact bh b y (hB b y e)
  · rcases nw b y e with z | z
    · exact .inl z
    · exact .inr (z.imp_left hB.free)
  · rw [te, List.length_set, List.length_set]; exact len
  · rw [te]
    by_cases hi : i = k
    · subst hi
      rw [List.getElem?_set_self hkρ] at h
      cases h
      rw [List.getElem?_set_self (by rw [← len]; exact hkρ)]
      simp only [if_true]
      refine rs (fun ho e => ?_) hs
      have := (hsep ho).2.2
      rw [e, o.bp] at this
      exact this rfl
    · rw [List.getElem?_set_ne (fun z => hi z.symm)] at h ⊢
      simp only [hi, if_false]
      exact rs (neq h) (s1 i t h)
  · by_cases hi : i = k
    · subst hi
      rw [List.getElem?_set_self hkρ] at h
      cases h
      simp only [if_true]
      exact ⟨(hsep ht).1, (hsep ht).2.1⟩
    · rw [List.getElem?_set_ne (fun z => hi z.symm)] at h
      simp only [hi, if_false]
      exact ⟨(s2 i t h ht).1, hB.free (s2 i t h ht).2⟩
  · by_cases hi : i = k
    · by_cases hi' : i' = k
      · rw [hi, hi']
      · subst hi
        rw [List.getElem?_set_self hkρ] at h
        cases h
        rw [List.getElem?_set_ne (fun z => hi' z.symm)] at h'
        simp only [hi', if_true, if_false] at e
        have := (s2 i' u h' hu).2
        rw [← e] at this
        exact absurd this (hsep ht).2.2
    · by_cases hi' : i' = k
      · subst hi'
        rw [List.getElem?_set_self hkρ] at h'
        cases h'
        rw [List.getElem?_set_ne (fun z => hi z.symm)] at h
        simp only [hi, if_true, if_false] at e
        have := (s2 i t h ht).2
        rw [e] at this
        exact absurd this (hsep hu).2.2
      · rw [List.getElem?_set_ne (fun z => hi z.symm)] at h
        rw [List.getElem?_set_ne (fun z => hi' z.symm)] at h'
        simp only [hi, hi', if_false] at e
        exact s3 i i' t u h h' ht hu e
  · cases e
    refine ⟨rfl, by rw [List.length_set]; exact o.len, o.fp, bme, dx, putF x v fs, upd_same, fun j' g hg => ?_, fun g hg => ?_, ?_⟩
    · rw [lookup_putF]
      by_cases hgx : g = x
      · subst hgx
        have : j' = j := by
          have h1 := (List.getElem?_eq_some_iff.mp hg)
          have h2 := (List.getElem?_eq_some_iff.mp hx)
          exact (List.getElem_inj hnd).mp (h1.2.trans h2.2.symm)
        subst this
        rw [if_pos rfl, List.getElem?_set_self hj]; rfl
      · rw [if_neg hgx, List.getElem?_set_ne (fun z => by subst z; rw [hx] at hg; exact hgx (Option.some.inj hg).symm)]
        exact hl.1 j' g hg
    · rw [lookup_putF, if_neg (fun z => hg (by rw [z]; exact List.mem_of_getElem? hx))]
      exact hl.2.1 g hg
    · rw [putF_keys]
      split
      · exact hl.2.2
      · rename_i hn
        rw [List.nodup_append]
        exact ⟨hl.2.2, List.nodup_cons.mpr ⟨by simp, List.nodup_nil⟩, fun a ha b hb e => hn (by rw [← show b = x by simpa using hb, ← e]; exact ha)⟩
def setFH (i k : Nat) (ρ : Envi) (h : Hd) : Fl := if isSelf i ρ = true then (match h with
  | .tm o => .nx (ρ.set k (.ow o))
  | .dat d => .nx (ρ.set k (.fz d))
  | _ => .stuck) else .stuck
/-- self.f = e; e new, or data -/
def sSetF (i k : Nat) (f : Envi → R Hd) : Sem := fun ρ => (f ρ).toFl fun h ρ1 => setFH i k ρ1 h
theorem snd_setF {i k j : Nat} {x : Str} (hi : i < P.n) (hk : k = P.n + j) (hx : P.fns[j]? = some x) (hnd : P.fns.Nodup) (h9 : P.fns.length < 1000) (hc : Cls P.K P.C) (hn : NoAttr P.K P.C x) (he : SndE P true W te f) : SndS P W (sFld P.K (tVar i) te x) (sSetF i k f) := fun B F0 F H σ ob ρ D w q => by
  refine he B F0 F H σ ob ρ _ w (Post.of_toFl (H := H) (ρ := ρ) q ?_)
  intro a ρ' B' F' H' ob' v w' s i' r q
  unfold setFH at q
  split at q
  · rename_i h0
    obtain ⟨fv, rfl, e2⟩ := w'.self hi (isSelf_at h0)
    obtain ⟨me, ol, _, _, dx, fs, g1, g2, g3, g4⟩ := w'.ob P.me fv rfl
    have hlen : fs.length < 1000 := by
      have := nodup_sub (m := P.fns) g4 fun y hy => by
        by_cases z : y ∈ P.fns
        · exact z
        · exact absurd hy (lookup_none (g3 y z))
      rw [List.length_map] at this
      omega
    refine ⟨_, e2, P.me, P.C, dx, fs, rfl, g1, hc, hn, hlen, ?_⟩
    cases a with
    | tm o =>
      obtain ⟨a, ho, rfl, rfl, e3, e4, e5⟩ := r
      have w2 := w'.setFld (B := B) (v := .ref a) (a0 := a) (s := .ow o) hk hx hnd (same_new e3) g1 ⟨g2, g3, g4⟩ ⟨rfl, ho, w'.getH, e5⟩ (fun z => nomatch z) fun _ => ⟨e4, e3, by rw [upd_same]; exact fun z => nomatch z⟩
      exact q F' _ σ _ w2 s
    | dat d =>
      obtain ⟨rfl, r⟩ := r
      have w2 := w'.setFld (B := B') (v := v) (a0 := 0) (s := .fz d) hk hx hnd (Same.refl _) g1 ⟨g2, g3, g4⟩ ⟨v, rfl, r⟩ (fun z => nomatch z) fun z => nomatch z
      exact q F' _ σ _ w2 s
    | _ => exact q.elim
  · exact q.elim
end
end Pv

set_option Elab.async false
set_option linter.all false
set_option maxRecDepth 100000
namespace Pv
open PySem PySem.Spec PyProof.Rows L2
/-! {} and {k: x} -/
section
variable {P : Pr} {m : Bool} {W : WX} {te ta tb : TE} {f g : Envi → R Hd} {n : Nat} {fa : Envi → R (List Hd)} {tr : TA} {B F0 F H : Hp} {σ : L2.St} {ob : Ob} {ρ : Envi}
def eNew (o : Own) : Envi → R Hd := fun ρ => .ok (.tm o) ρ
theorem snd_dnewK : SndE P m W tDNewK (eNew (.di [])) := fun B F0 F H σ ob ρ Q w q p hp =>
  q _ F _ ob _ (w.tmp hp) (Same.refl _) (fun _ => rfl) ⟨p, _, rfl, rfl, w.bh.free hp, w.fh.free hp, [], rfl, Nat.zero_le _, .nil⟩
theorem snd_dnewT : SndE P m W tDNewT (eNew (.ti [])) := fun B F0 F H σ ob ρ Q w q p hp =>
  q _ F _ ob _ (w.tmp hp) (Same.refl _) (fun _ => rfl) ⟨p, _, rfl, rfl, w.bh.free hp, w.fh.free hp, [], rfl, Nat.zero_le _, .nil⟩
def dsp2 (h k : Hd) (ρ2 : Envi) : R Hd := match h, k with
  | .dat a, .dat d => match keyOf a with
    | some k => .ok (.tm (.di [(k, d)])) ρ2
    | none => .stuck
  | _, _ => .stuck
def dsp1 (g : Envi → R Hd) (h : Hd) (ρ1 : Envi) : R Hd := (eMat g ρ1).bind (dsp2 h)
def eDisp1 (f g : Envi → R Hd) : Envi → R Hd := fun ρ => (eMat f ρ).bind (dsp1 g)
theorem eMat_ok {f : Envi → R Hd} {ρ ρ' : Envi} {h : Hd} (e : eMat f ρ = .ok h ρ') : ∃ d, h = .dat d := by
  unfold eMat at e
  cases e1 : (f ρ).frz with
  | stuck => rw [e1] at e; cases e
  | exc c ρ1 => rw [e1] at e; cases e
  | ok k ρ1 =>
    rw [e1] at e
    have e : (match mat ρ1 k with | some (d, ρ2) => R.ok (Hd.dat d) ρ2 | none => R.stuck) = .ok h ρ' := e
    split at e
    · cases e; exact ⟨_, rfl⟩
    · cases e
theorem HR_dat {B B' F : Hp} {v : V} {h : Hd} {d : D} (e : h = .dat d) (r : HR P B B' F σ ob v h) : B' = B ∧ Rep P.K F v d := by subst e; exact r
theorem snd_disp1 (ha : SndE P m W ta f) (hb : SndE P m W tb g) : SndE P m W (tDisp [(ta, tb)]) (eDisp1 f g) := fun B F0 F H σ ob ρ Q w q p hp => by
  have fp := w.fh.free hp
  have bp := w.bh.free hp
  refine snd_mat ha _ F0 F _ σ ob ρ _ (w.tmp hp) ?_
  -- what follows is asked under the larger B
  have key : ∀ {α β : Type} {Rel : Hp → Hp → Ob → β → α → Prop} {Q' : β → Hp → Prop} {r : R α} {m' : Bool}, (∀ a ρ', r = .ok a ρ' → ∀ B' F' H' ob' v, Wf P B' F0 F' H' σ ob' ρ' → Same F F' → (m' = false → ob' = ob) → Rel B' F' ob' v a → Q' v H') →
      (∀ c ρ', r = .exc c ρ' → ∀ F' H' ob', Wf P (upd B p (.dK [])) F0 F' H' σ ob' ρ' → Same F F' → W (P.ec c) none σ H') → r ≠ .stuck → Post P (upd B p (.dK [])) F0 F σ ob m' W Rel Q' r := fun {α β Rel Q' r m'} h1 h2 h3 => by
    cases r with
    | ok a ρ' => exact fun B' F' H' ob' v w s i r => h1 a ρ' rfl B' F' H' ob' v w s i r
    | exc c ρ' => exact fun F' H' ob' w s => h2 c ρ' rfl F' H' ob' w s
    | stuck => exact h3 rfl
  cases e1 : eMat f ρ with
  | stuck => unfold eDisp1 at q; rw [e1] at q; exact q.elim
  | exc c ρ1 =>
    intro F' H' ob' w' s
    unfold eDisp1 at q
    rw [e1] at q
    exact q F' H' ob' (w'.lessB (same_new bp)) s
  | ok h ρ1 =>
    intro B1 F1 H1 ob1 x w1 s1 i1 r1
    unfold eDisp1 at q
    rw [e1] at q
    have q : Post P B F0 F σ ob m W (RelE P B σ) Q ((eMat g ρ1).bind (dsp2 h)) := q
    obtain ⟨a, rfl⟩ : ∃ a, h = .dat a := eMat_ok e1
    obtain ⟨rfl, r1⟩ := r1
    refine snd_mat hb _ F0 F1 H1 σ ob1 ρ1 _ w1 ?_
    cases e2 : eMat g ρ1 with
    | stuck => rw [e2] at q; exact q.elim
    | exc c ρ2 =>
      intro F' H' ob' w' s
      rw [e2] at q
      exact q F' H' ob' (w'.lessB (same_new bp)) (s1.trans s)
    | ok k ρ2 =>
      intro B2 F2 H2 ob2 y w2 s2 i2 r2
      rw [e2] at q
      obtain ⟨d, rfl⟩ : ∃ d, k = .dat d := eMat_ok e2
      obtain ⟨rfl, r2⟩ := r2
      have q : Post P B F0 F σ ob m W (RelE P B σ) Q (match keyOf a with | some k => R.ok (Hd.tm (.di [(k, d)])) ρ2 | none => R.stuck) := q
      cases e3 : keyOf a with
      | none => rw [e3] at q; exact q.elim
      | some k =>
        rw [e3] at q
        have f2 : F2 p = none := by
          cases z : F2 p with
          | none => rfl
          | some o =>
            rcases w2.nw p o z with z' | z' | ⟨us, rfl⟩
            · have := w.ff p o z'
              rw [fp] at this; cases this
            · rw [upd_same] at z'; cases z'
            · have z' := w2.fh _ _ z
              rw [w2.getH] at z'; cases z'
        refine ⟨w2.getH, [(k, y)], ?_, by show 1 ≤ 15; decide, ?_⟩
        · have := keyOf_rep r1 e3
          rw [this]; rfl
        · exact q _ F2 _ ob2 _ (w2.tmpUpd f2) (s1.trans s2) (fun z => (i2 z).trans (i1 z)) ⟨p, _, rfl, rfl, bp, f2, [(k, y)], rfl, by show 1 ≤ sizeLine; decide, .cons ⟨rfl, r2⟩ .nil⟩
/-! C(..).m(k) -/
theorem FldW.H0 {P : Pr} {B F H : Hp} {p : Addr} {fv : List (Option V)} {fs : List Slot} (w : FldW P B F H p fv fs) {B' : Hp} (h : Same B' B) : FldW P B' F H p fv fs := by
  obtain ⟨⟨me, l, fp, bp, a⟩, len, al, s1, s2, s3⟩ := w
  exact ⟨⟨me, l, fp, h.free bp, a⟩, len, al, s1, fun i s e hs => ⟨(s2 i s e hs).1, h.free (s2 i s e hs).2⟩, s3⟩
/-- an object made for one call of a method; the method's arguments a number, or none -/
def eMk (nf : Nat) (fi fm : List Slot → List D → Option (D × List Slot)) (g : Envi → R (List Hd)) (ds2 : List D) : Envi → R Hd := fun ρ => (g ρ).bind fun hs ρ1 => match matAll ρ1 hs with
  | some (ds, ρ2) => match mkM nf fi fm ds ds2 with
    | some d => .ok (.dat d) ρ2
    | none => .stuck
  | none => .stuck
theorem mk_call {K : PySem.W.Frag} {C : Addr} {fns : List Str} {n n2 : Nat} {fi fm : List Slot → List D → Option (D × List Slot)} {F H : Hp} {vs vs2 : List V} {ds ds2 : List D} {d : D} {Q : VK} {mt : Str} (hm : mt ∉ fns) (hv : vs.length = n) (hv2 : vs2.length = n2) (s : Same F H) (r : Reps K F vs ds) (r2 : ∀ F, Reps K F vs2 ds2) (e : mkM fns.length fi fm ds ds2 = some d)
    (q : ∀ F' H' v, Same F F' → Same F' H' → Same H H' → (∀ b o, F' b = some o → F b = some o ∨ H b = none ∨ ∃ vs, o = .tup vs) → Rep K F' v d → Q v H') (x dx : Addr) (hx : H x = none) (hd : H dx = none) (hne : dx ≠ x) :
    spM K C fns n fi (.ref x :: vs) (upd (upd H dx (.own x)) x (.ins C dx [])) (fun v H2 => v = .non ∧ ∃ a dx fs, V.ref x = .ref a ∧ H2 a = some (.ins C dx fs) ∧ fs.lookup mt = none ∧ spM K C fns n2 fm (.ref x :: vs2) H2 Q fun _ _ _ => False) fun _ _ _ => False := by
  unfold mkM at e
  split at e
  · rename_i fs1 e1
    obtain ⟨⟨d', fs2⟩, e2, rfl⟩ := Option.map_eq_some_iff.mp e
    have hh : Same H (upd (upd H dx (.own x)) x (.ins C dx [])) := (same_new hd).trans (same_new (by rw [upd_ne (Ne.symm hne)]; exact hx))
    refine ⟨by rw [List.length_cons, hv], x, vs, rfl, H, F, ds, _, _, hh, s.trans hh, r, FldW.new hx hd hne s, .non, fs1, e1, fun F1 H1 v fv1 k1 k2 k3 k4 w1 rv => ?_⟩
    cases rv
    obtain ⟨_, _, _, _, dx1, g1, h1, _, h3, _⟩ := w1.ob
    refine ⟨rfl, x, dx1, g1, rfl, h1, h3 mt hm, by rw [List.length_cons, hv2], x, vs2, rfl, H, F1, ds2, fv1, fs1, k3, k2, r2 F1, w1, d', fs2, e2, fun F2 H2 v fv2 j1 j2 j3 j4 w2 rv => ?_⟩
    refine q F2 H2 v (k1.trans j1) j2 j3 (fun b o z => ?_) rv
    rcases j4 b o z with z | z
    · exact k4 b o z
    · exact .inr z
  · cases e
theorem snd_mk {fns : List Str} {C : Addr} {n2 : Nat} {fi fm : List Slot → List D → Option (D × List Slot)} {mt : Str} {t2 : TA} {vs2 : List V} {ds2 : List D} (hm : mt ∉ fns) (h2 : ∀ σ H Q, Q vs2 H → t2 σ H Q) (hv2 : vs2.length = n2) (r2 : ∀ F, Reps P.K F vs2 ds2) (ha : SndA P m W n tr fa) :
    SndE P m W (tMeth C mt (spM P.K C fns n2 fm) [] (fun _ _ _ => False) (tMake C (spM P.K C fns n fi) [] (fun _ _ _ => False) tr) t2) (eMk fns.length fi fm fa ds2) := fun B F0 F H σ ob ρ Q w q => by
  refine ha B F0 F H σ ob ρ _ w (Post.of_bind (k := fun hs ρ1 => match matAll ρ1 hs with | some (ds, ρ2) => (match mkM fns.length fi fm ds ds2 with | some d => R.ok (Hd.dat d) ρ2 | none => R.stuck) | none => R.stuck) q ?_)
  rintro hs ρ1 B' F1 H1 ob1 ys w1 s1 i1 ⟨⟨rfl, r1⟩, hl⟩ q
  cases e : matAll ρ1 hs with
  | none => rw [e] at q; exact q.elim
  | some y =>
    obtain ⟨ds, ρ2⟩ := y
    rw [e] at q
    have q : Post P B' F0 F σ ob m W (RelE P B' σ) Q (match mkM fns.length fi fm ds ds2 with | some d => R.ok (Hd.dat d) ρ2 | none => R.stuck) := q
    cases e2 : mkM fns.length fi fm ds ds2 with
    | none => rw [e2] at q; exact q.elim
    | some d =>
      rw [e2] at q
      obtain ⟨F2, w2, s2, rr⟩ := w1.matAll r1 e
      intro x dx hx hd hne
      rw [List.append_nil]
      have := mk_call (C := C) (n := n) (n2 := n2) (Q := Q) hm hl hv2 w2.fh rr r2 e2 (fun F' H' v k1 k2 k3 k4 rv => q B' F' H' ob1 v (w2.call k1 k2 k3 k4) ((s1.trans s2).trans k1) i1 ⟨rfl, rv⟩) x dx hx hd hne
      obtain ⟨z0, p, vs', z1, B1, F', ds', fv, fs, z2, z3, z4, z5, d', fs', z6, z7⟩ := this
      refine ⟨z0, p, vs', z1, B1, F', ds', fv, fs, z2, z3, z4, z5, d', fs', z6, fun F'' H'' v fv' k1 k2 k3 k4 k5 k6 => ?_⟩
      obtain ⟨y1, a, dx', g, y2, y3, y4, y5⟩ := z7 F'' H'' v fv' k1 k2 k3 k4 k5 k6
      refine ⟨y1, a, dx', g, y2, y3, y4, h2 _ _ _ ?_⟩
      rw [List.append_nil]
      exact y5
end
end Pv

set_option Elab.async false
set_option linter.all false
set_option maxRecDepth 100000
namespace Pv
open PySem PySem.Spec PyProof.Rows L2
/-! x = C(..), and what follows to the def's end -/
def noSelf (ρ : Envi) : Bool := ρ.all fun s => match s with
  | .self => false
  | _ => true
def letEnd (n : Nat) : Fl → Fl
  | .ret v _ => .ret v (unsN n)
  | .exc c _ => .exc c (unsN n)
  | _ => .stuck
def sLet (i n nf : Nat) (fi : List Slot → List D → Option (D × List Slot)) (g : Envi → R (List Hd)) (rest : Sem) : Sem := fun ρ => (g ρ).toFl fun hs ρ1 => match matAll ρ1 hs with
  | some (ds, ρ2) => if (decide (ρ2.length = n) && noSelf ρ2) = true then (match fi (unsN nf) ds with
    | some (.non, fs1) => letEnd n (rest (ρ2.set i .self ++ fs1))
    | _ => .stuck) else .stuck
  | none => .stuck
section
variable {P : Pr} {m : Bool} {W : WX} {n : Nat} {fa : Envi → R (List Hd)} {tr : TA} {B F0 F H : Hp} {σ : L2.St} {ob : Ob} {ρ : Envi} {D : Ends}
theorem Wf.bare {P' : Pr} {B' : Hp} (w : Wf P' B' F0 F H σ ob ρ) (hn : P'.n = P.n) : Wf P B' F0 F H σ none (unsN P.n) := by
  obtain ⟨fh, bh, ff, nw, n, len, _, _⟩ := w
  have get : ∀ {i : Nat} {s : Slot}, (unsN P.n)[i]? = some s → s = .un := fun {i s} h => by
    unfold unsN at h
    rw [List.getElem?_replicate] at h
    split at h
    · cases h; rfl
    · cases h
  refine ⟨fh, bh, ff, nw, n.trans hn, ?_, ⟨fun _ => 0, fun i s h => (by rw [get h]; exact True.intro), (fun i s h hs => by rw [get h] at hs; cases hs), (fun i j s t h h' hs => by rw [get h] at hs; cases hs)⟩, fun q gv e => nomatch e⟩
  show (unsN P.n).length = σ.length
  unfold unsN
  rw [List.length_replicate, n, hn]
theorem letEnd_post {P' : Pr} (hn : P'.n = P.n) (hK : P'.K = P.K) (he : P'.ec = P.ec) : ∀ {r : Fl}, PostS P B F0 F W D (letEnd P.n r) → PostS P' B F0 F W D r
  | .ret v ρ', h => fun B' F' H' σ' ob' u w s r => h B' F' H' σ' none u (w.bare hn) s (by
      cases v with
      | fz d => exact ⟨r.1, by rw [← hK]; exact r.2⟩
      | ow o =>
        obtain ⟨a, ho, e1, e2, e3, e4, e5⟩ := r
        exact ⟨a, ho, e1, e2, e3, e4, by rw [← hK]; exact e5⟩)
  | .exc c ρ', h => fun F' H' σ' ob' w s => by rw [he]; exact h F' H' σ' none (w.bare hn) s
  | .nx _, h => h.elim
  | .bk _, h => h.elim
  | .ct _, h => h.elim
  | .stuck, h => h
/-- a frame that has come by an object -/
theorem Wf.gain {fns : List Str} {C x : Addr} {F1 H1 : Hp} {fv : List (Option V)} {fs : List Slot} {i : Nat} (w : Wf P B F0 F H σ ob ρ) (hl : ρ.length = P.n) (hns : noSelf ρ = true) (hi : i < P.n) (k1 : Same F F1) (k2 : Same F1 H1) (k3 : Same H H1) (k4 : ∀ b o, F1 b = some o → F b = some o ∨ H b = none ∨ ∃ vs, o = .tup vs)
    (hx : H x = none) (fw : FldW (pP P.K C fns x) H F1 H1 x fv fs) : Wf ⟨P.K, P.ec, P.n, fns, C, x⟩ B F0 F1 H1 (σ.set i (some (.ref x))) (some (x, fv)) (ρ.set i .self ++ fs) := by
  obtain ⟨fh, bh, ff, nw, n, len, ⟨al, s1, s2, s3⟩, hob⟩ := w
  obtain ⟨al', t1, t2, t3⟩ := fw.sl
  have ls : (σ.set i (some (V.ref x))).length = P.n := by rw [List.length_set]; exact n
  have lr : (ρ.set i Pv.Slot.self).length = P.n := by rw [List.length_set]; exact hl
  have tl : ∀ {j : Nat}, j < P.n → (tau (σ.set i (some (.ref x))) (some (x, fv)))[j]? = (σ.set i (some (.ref x)))[j]? := fun {j} hj => tau_lt (by rw [ls]; exact hj)
  have tf : ∀ {j : Nat}, ¬ j < P.n → (tau (σ.set i (some (.ref x))) (some (x, fv)))[j]? = fv[j - P.n]? := fun {j} hj => by
    show (σ.set i (some (.ref x)) ++ fv)[j]? = _
    rw [List.getElem?_append_right (by rw [ls]; omega), ls]
  have cs : ∀ {j : Nat} {s : Slot}, (ρ.set i Pv.Slot.self ++ fs)[j]? = some s → (j < P.n ∧ j = i ∧ s = .self) ∨ (j < P.n ∧ j ≠ i ∧ ρ[j]? = some s) ∨ (¬ j < P.n ∧ fs[j - P.n]? = some s) := fun {j s} h => by
    by_cases hj : j < P.n
    · rw [List.getElem?_append_left (by rw [lr]; exact hj)] at h
      by_cases e : j = i
      · subst e
        rw [List.getElem?_set_self (by rw [hl]; exact hi)] at h
        cases h
        exact .inl ⟨hj, rfl, rfl⟩
      · rw [List.getElem?_set_ne (fun z => e z.symm)] at h
        exact .inr (.inl ⟨hj, e, h⟩)
    · rw [List.getElem?_append_right (by rw [lr]; omega), lr] at h
      exact .inr (.inr ⟨hj, h⟩)
  have told : ∀ {j : Nat}, j < P.n → (tau σ ob)[j]? = σ[j]? := fun {j} hj => tau_lt (by rw [n]; exact hj)
  have alive : ∀ {j : Nat} {s : Slot}, ρ[j]? = some s → s.isOw = true → ∃ ho, H (al j) = some ho := fun {j s} h hs => by
    obtain ⟨ho, e, _⟩ := (s1 j s h).there hs
    exact ⟨ho, e⟩
  refine ⟨k2, bh.trans k3, ff.trans k1, fun b o e => ?_, ls, ?_, ⟨fun j => if j < P.n then al j else al' (j - P.n), fun j s h => ?_, fun j s h hs => ?_, fun j j' s t h h' hs ht e => ?_⟩, fun q gv e => ?_⟩
  · rcases k4 b o e with z | z
    · exact nw b o z
    · exact .inr (z.imp_left bh.free)
  · show (ρ.set i Pv.Slot.self ++ fs).length = (σ.set i (some (.ref x)) ++ fv).length
    rw [List.length_append, List.length_append, lr, ls, fw.len]
  · rcases cs h with ⟨hj, rfl, rfl⟩ | ⟨hj, hji, h⟩ | ⟨hj, h⟩
    · rw [tl hj, List.getElem?_set_self (by rw [n]; exact hj)]
      exact ⟨x, fv, rfl, rfl⟩
    · simp only [hj, if_true]
      rw [tl hj, List.getElem?_set_ne (fun z => hji z.symm)]
      have y := s1 j s h
      rw [told hj] at y
      cases s with
      | un => exact True.intro
      | fz d => obtain ⟨u, e1, e2⟩ := y; exact ⟨u, e1, e2.mono k1⟩
      | ow o => obtain ⟨e1, ho, e2, e3⟩ := y; exact ⟨e1, ho, k3 _ _ e2, e3.mono k1⟩
      | self =>
        unfold noSelf at hns
        rw [List.all_eq_true] at hns
        have := hns _ (List.mem_of_getElem? h)
        cases this
    · simp only [hj, if_false]
      rw [tf hj]
      exact t1 _ s h
  · rcases cs h with ⟨hj, rfl, rfl⟩ | ⟨hj, hji, h⟩ | ⟨hj, h⟩
    · cases hs
    · simp only [hj, if_true]
      obtain ⟨ho, e, _, hz⟩ := (s1 j s h).there hs
      refine ⟨?_, (s2 j s h hs).2⟩
      cases z : F1 (al j) with
      | none => rfl
      | some o =>
        rcases k4 _ _ z with y | y | ⟨us, rfl⟩
        · have := (s2 j s h hs).1
          rw [y] at this; cases this
        · rw [e] at y; cases y
        · have q := k2 _ _ z
          rw [k3 _ _ e] at q
          exact absurd (Option.some.inj q) (hz us)
    · simp only [hj, if_false]
      exact ⟨(t2 _ s h hs).1, bh.free (t2 _ s h hs).2⟩
  · rcases cs h with ⟨hj, rfl, rfl⟩ | ⟨hj, hji, h⟩ | ⟨hj, h⟩
    · cases hs
    · rcases cs h' with ⟨hj', rfl, rfl⟩ | ⟨hj', hji', h'⟩ | ⟨hj', h'⟩
      · cases ht
      · simp only [hj, hj', if_true] at e
        exact s3 j j' s t h h' hs ht e
      · simp only [hj, hj', if_true, if_false] at e
        obtain ⟨ho, z⟩ := alive h hs
        have := (t2 _ t h' ht).2
        rw [← e, z] at this; cases this
    · rcases cs h' with ⟨hj', rfl, rfl⟩ | ⟨hj', hji', h'⟩ | ⟨hj', h'⟩
      · cases ht
      · simp only [hj, hj', if_true, if_false] at e
        obtain ⟨ho, z⟩ := alive h' ht
        have := (t2 _ s h hs).2
        rw [e, z] at this; cases this
      · simp only [hj, hj', if_false] at e
        have := t3 _ _ s t h h' hs ht e
        omega
  · cases e
    exact ⟨rfl, fw.ob.len, fw.ob.fp, bh.free hx, fw.ob.at_⟩
theorem snd_let {fns : List Str} {C : Addr} {i : Nat} {fi : List Slot → List Pv.D → Option (Pv.D × List Slot)} {ts : TS} {rest : Sem} {N : Nat} (hi : i < P.n) (hN : P.n = N) (ha : SndA P m W n tr fa) (hr : ∀ x, SndS ⟨P.K, P.ec, P.n, fns, C, x⟩ W ts rest) :
    SndS P W (tSeq (tAsg (tMake C (spM P.K C fns n fi) [] (fun _ _ _ => False) tr) (gName i)) ts) (sLet i N fns.length fi fa rest) := fun B F0 F H σ ob ρ D w q => by
  subst hN
  refine ha B F0 F H σ ob ρ _ w (Post.of_toFl (H := H) (ρ := ρ) q ?_)
  rintro hs ρ1 B' F1 H1 ob1 ys w1 s1 i1 ⟨⟨rfl, r1⟩, hl⟩ q
  cases e : matAll ρ1 hs with
  | none => rw [e] at q; exact q.elim
  | some y =>
    obtain ⟨ds, ρ2⟩ := y
    rw [e] at q
    try dsimp only at q
    split at q
    · rename_i hc
      rw [Bool.and_eq_true] at hc
      obtain ⟨F2, w2, s2, rr⟩ := w1.matAll r1 e
      intro x dx hx hd hne
      rw [List.append_nil]
      have hh : Same H1 (upd (upd H1 dx (.own x)) x (.ins C dx [])) := (same_new hd).trans (same_new (by rw [upd_ne (Ne.symm hne)]; exact hx))
      split at q
      · rename_i fs1 e1
        refine ⟨by rw [List.length_cons, hl], x, ys, rfl, H1, F2, ds, _, _, hh, w2.fh.trans hh, rr, FldW.new hx hd hne w2.fh, .non, fs1, e1, fun F3 H3 v fv k1 k2 k3 k4 fw rv => ?_⟩
        cases rv
        refine ⟨rfl, ?_⟩
        have w3 := w2.gain (i := i) (of_decide_eq_true hc.1) hc.2 hi k1 k2 k3 k4 hx fw
        refine hr x B' F0 F3 H3 _ _ _ D w3 (letEnd_post (P := P) (P' := ⟨P.K, P.ec, P.n, fns, C, x⟩) rfl rfl rfl ?_)
        exact q.shift ((s1.trans s2).trans k1)
      · exact q.elim
    · exact q.elim
end
end Pv

set_option Elab.async false
set_option linter.all false
set_option maxRecDepth 100000
namespace Pv
open PySem PySem.Spec PyProof.Rows L2
/-! what the top has written of a class -/
structure Mth (K : PySem.W.Frag) (C : Addr) (x qual : Str) (st : Stmt) (ps : List Str) where
  f : Addr
  fd : FuncData
  F : Fun K x qual st f fd
  b : Binds K fd ps []
  m : Meth K C x f
structure Ini (K : PySem.W.Frag) (C : Addr) (qual : Str) (st : Stmt) (ps : List Str) where
  f : Addr
  fd : FuncData
  F : Fun K "__init__" qual st f fd
  b : Binds K fd ps []
  mo : Mk K C f
theorem nmem {l : List Str} {x : Str} (h : l.contains x = false) : x ∉ l := fun z => by
  rw [List.contains_iff_mem.mpr z] at h
  cases h
theorem pass0E {X : Cx} : Passes (L2.CX X.prog X.w) X (fun _ _ _ => False) := fun pins σ H s e s' I c => passAt takes0 σ pins H s e s' I c
theorem ktup_K {K : PySem.W.Frag} {a : Addr} {its : List Value} {n : Nat} {sl : Array (Option Value)} {vs : List V} (h : K.lookup a = some ⟨.type "tuple", none, .seq its.toArray n, sl⟩) (hs : its.length ≤ sizeLine) (r : Vals vs its) : KTup K (fun _ => none) a vs :=
  .inr ⟨_, its.toArray, n, h, rfl, rfl, rfl, by simpa using hs, by simpa using r⟩
theorem op_eqK {X : Cx} {K : PySem.W.Frag} (hu : X.A.units + 64 < cLine) (hK : X.K = K := by rfl) : OpR X (compareOp .Eq) (rEqD K) := by subst hK; exact op_eqD hu
theorem op_neK {X : Cx} {K : PySem.W.Frag} (hu : X.A.units + 64 < cLine) (hK : X.K = K := by rfl) : OpR X (compareOp .NotEq) (rNeD K) := by subst hK; exact op_neD hu
theorem pg_tupK {X : Cx} {K : PySem.W.Frag} {es : List Expr} {k : Nat} {t : TGs} {n : Nat} {pos : Pos} (hc : X.calm = true) (h : PGs X es t)
    (hn : (assignEach es X.env).length = n := by rfl) (hst : (assignEach es X.env).findIdx? (·.1) = none := by rfl) (hK : X.K = K := by rfl) : PG X (.Tuple es k pos) (gTup K n t) := by subst hK; exact pg_tup hc h hn hst
theorem ix_seqK {X : Cx} {K : PySem.W.Frag} (hK : X.K = K := by rfl) : IxR X (rIx K) := by subst hK; exact ix_seq
end Pv

set_option Elab.async false
set_option linter.all false
set_option maxRecDepth 100000
namespace Pv
open PySem PySem.Spec PyProof.Rows L2
/-! equations to compute with: objects, dicts -/
section
variable {ρ : Envi} {i k n : Nat} {d a b : D} {o : Own} {c : Exc}
def fldM (k : Nat) (ρ : Envi) : Option Slot → Option Slot → R Hd
  | some .self, some (.fz d) => .ok (.dat d) ρ
  | some .self, some (.ow _) => .ok (.fl k) ρ
  | _, _ => .stuck
@[simp] theorem y_fld : eFld i k ρ = fldM k ρ ρ[i]? ρ[k]? := by unfold eFld fldM; rfl
@[simp] theorem y_fldM_fz : fldM k ρ (some .self) (some (.fz d)) = .ok (.dat d) ρ := id rfl
@[simp] theorem y_fldM_ow : fldM k ρ (some .self) (some (.ow o)) = .ok (.fl k) ρ := id rfl
def selM : Option Slot → Bool
  | some .self => true
  | _ => false
@[simp] theorem y_isSelf : isSelf i ρ = selM ρ[i]? := by unfold isSelf selM; rfl
@[simp] theorem y_selM : selM (some .self) = true := id rfl
def sfM (N : Nat) (fm : List Slot → List D → Option (D × List Slot)) (i : Nat) : Option (List D × Envi) → R Hd
  | some (ds, ρ2) => if isSelf i ρ2 = true then selfM N fm ρ2 ds else .stuck
  | none => .stuck
def sfk (i N : Nat) (fm : List Slot → List D → Option (D × List Slot)) (hs : List Hd) (ρ1 : Envi) : R Hd := sfM N fm i (matAll ρ1 hs)
@[simp] theorem y_sfM {N : Nat} {fm : List Slot → List D → Option (D × List Slot)} {ds : List D} : sfM N fm i (some (ds, ρ)) = if isSelf i ρ = true then selfM N fm ρ ds else .stuck := id rfl
@[simp] theorem y_sfk {N : Nat} {fm : List Slot → List D → Option (D × List Slot)} {hs : List Hd} : sfk i N fm hs ρ = sfM N fm i (matAll ρ hs) := id rfl
@[simp] theorem y_self {N : Nat} {fm : List Slot → List D → Option (D × List Slot)} {g : Envi → R (List Hd)} : eSelf i N fm g ρ = if isSelf i ρ = true then (g ρ).bind (sfk i N fm) else .stuck := by unfold eSelf sfk sfM; rfl
def smM (N : Nat) (ρ : Envi) : Option (D × List Slot) → R Hd
  | some (d, fs') => .ok (.dat d) (ρ.take N ++ fs')
  | none => .stuck
@[simp] theorem y_selfM {N : Nat} {fm : List Slot → List D → Option (D × List Slot)} {ds : List D} : selfM N fm ρ ds = smM N ρ (fm (ρ.drop N) ds) := by unfold selfM smM; rfl
@[simp] theorem y_smM {N : Nat} {fs : List Slot} : smM N ρ (some (d, fs)) = .ok (.dat d) (ρ.take N ++ fs) := id rfl
def stfk (i k : Nat) (h : Hd) (ρ1 : Envi) : Fl := setFH i k ρ1 h
@[simp] theorem y_stfk {h : Hd} : stfk i k h ρ = setFH i k ρ h := id rfl
@[simp] theorem y_setF {f : Envi → R Hd} : sSetF i k f ρ = (f ρ).toFl (stfk i k) := id rfl
@[simp] theorem y_setFH_tm : setFH i k ρ (.tm o) = if isSelf i ρ = true then .nx (ρ.set k (.ow o)) else .stuck := id rfl
@[simp] theorem y_setFH_dat : setFH i k ρ (.dat d) = if isSelf i ρ = true then .nx (ρ.set k (.fz d)) else .stuck := id rfl
@[simp] theorem y_new : eNew o ρ = .ok (.tm o) ρ := id rfl
@[simp] theorem y_dsp2 : dsp2 (.dat (.int i)) (.dat d) ρ = .ok (.tm (.di [(.inl (i : Int), d)])) ρ := id rfl
@[simp] theorem y_dsp1 {g : Envi → R Hd} {h : Hd} : dsp1 g h ρ = (eMat g ρ).bind (dsp2 h) := id rfl
@[simp] theorem y_disp1 {f g : Envi → R Hd} : eDisp1 f g ρ = (eMat f ρ).bind (dsp1 g) := id rfl
def mkkM (nf : Nat) (fi fm : List Slot → List D → Option (D × List Slot)) (ds2 : List D) : Option (List D × Envi) → R Hd
  | some (ds, ρ2) => match mkM nf fi fm ds ds2 with
    | some d => .ok (.dat d) ρ2
    | none => .stuck
  | none => .stuck
def mkk (nf : Nat) (fi fm : List Slot → List D → Option (D × List Slot)) (ds2 : List D) (hs : List Hd) (ρ1 : Envi) : R Hd := mkkM nf fi fm ds2 (matAll ρ1 hs)
theorem mkkM_some {nf : Nat} {fi fm : List Slot → List D → Option (D × List Slot)} {ds ds2 : List D} (e : mkM nf fi fm ds ds2 = some d) : mkkM nf fi fm ds2 (some (ds, ρ)) = .ok (.dat d) ρ := by
  show (match mkM nf fi fm ds ds2 with | some d => R.ok (Hd.dat d) ρ | none => R.stuck) = _
  rw [e]
@[simp] theorem y_mkk {nf : Nat} {fi fm : List Slot → List D → Option (D × List Slot)} {ds2 : List D} {hs : List Hd} : mkk nf fi fm ds2 hs ρ = mkkM nf fi fm ds2 (matAll ρ hs) := id rfl
@[simp] theorem y_mk {nf : Nat} {fi fm : List Slot → List D → Option (D × List Slot)} {g : Envi → R (List Hd)} {ds2 : List D} : eMk nf fi fm g ds2 ρ = (g ρ).bind (mkk nf fi fm ds2) := by unfold eMk mkk mkkM; rfl
/-! d.get(k, x), d[k] = x -/
def dg5 (a b z : D) (ρ : Envi) : Option (Option D) → R Hd
  | some (some d) => .ok (.dat d) ρ
  | some none => .ok (.dat z) ρ
  | none => .stuck
@[simp] theorem y_dg5_some {z : D} : dg5 a b z ρ (some (some d)) = .ok (.dat d) ρ := id rfl
@[simp] theorem y_dg5_none {z : D} : dg5 a b z ρ (some none) = .ok (.dat z) ρ := id rfl
theorem dget2_eq {f g e : Envi → R Hd} {ρ1 ρ2 ρ3 : Envi} {k : Hd} {z : D} (h1 : eMat f ρ = .ok (.dat a) ρ1) (ha : isDictD a = true) (h2 : (g ρ1).frz = .ok k ρ2) (h3 : eMat e ρ2 = .ok (.dat z) ρ3) (h4 : deref ρ3 k = some b) : eDGet2 f g e ρ = dg5 a b z ρ3 (dLook a b) := by
  unfold eDGet2
  rw [h1]
  simp only [R.bind, ha, if_true, h2, h3, h4]
  unfold dg5
  rfl
theorem dput_eq {ok : Envi → Bool} {g e : Envi → R Hd} {ρ1 ρ2 : Envi} {o' : Own} (h1 : eMat e ρ = .ok (.dat d) ρ1) (h2 : ok ρ1 = true) (h3 : ∃ o0, ρ1[k]? = some (.ow o0)) (h4 : eMat g ρ1 = .ok (.dat b) ρ2) (h5 : ρ2[k]? = some (.ow o)) (h6 : dPut o b d = some o') : sDPutP k ok g e ρ = .nx (ρ2.set k (.ow o')) := by
  obtain ⟨o0, h3⟩ := h3
  unfold sDPutP
  rw [h1]
  simp only [R.toFl, h2, if_true, h3, h4, h5, h6]
end
end Pv

set_option Elab.async false
set_option linter.all false
set_option maxRecDepth 100000
namespace Pv
open PySem PySem.Spec PyProof.Rows L2
/-! more equations to compute with -/
section
variable {ρ : Envi} {i k n : Nat} {d a b z : D} {o : Own} {c : Exc} {f g e : Envi → R Hd}
/-! d.get(k, x) -/
def dgD (a : D) (ρ3 : Envi) : Option D → Hd → R Hd
  | some b, .dat z => dg5 a b z ρ3 (dLook a b)
  | _, _ => .stuck
def dgC (a : D) (k : Hd) (x : Hd) (ρ3 : Envi) : R Hd := dgD a ρ3 (deref ρ3 k) x
def dgB (a : D) (e : Envi → R Hd) (k : Hd) (ρ2 : Envi) : R Hd := (eMat e ρ2).bind (dgC a k)
def dgA (g e : Envi → R Hd) (h : Hd) (ρ1 : Envi) : R Hd := match h with
  | .dat a => if isDictD a = true then (g ρ1).frz.bind (dgB a e) else .stuck
  | _ => .stuck
@[simp] theorem y_dgD : dgD a ρ (some b) (.dat z) = dg5 a b z ρ (dLook a b) := id rfl
@[simp] theorem y_dgC {h k : Hd} : dgC a k h ρ = dgD a ρ (deref ρ k) h := id rfl
@[simp] theorem y_dgB {k : Hd} : dgB a e k ρ = (eMat e ρ).bind (dgC a k) := id rfl
@[simp] theorem y_dgA : dgA g e (.dat a) ρ = if isDictD a = true then (g ρ).frz.bind (dgB a e) else .stuck := id rfl
theorem bind_congr {α β : Type} {r : R α} {h h' : α → Envi → R β} (e : ∀ x ρ, h x ρ = h' x ρ) : r.bind h = r.bind h' := by
  cases r <;> first | rfl | exact e _ _
@[simp] theorem y_dget2 : eDGet2 f g e ρ = (eMat f ρ).bind (dgA g e) := by
  unfold eDGet2
  refine bind_congr fun h ρ1 => ?_
  cases h with
  | dat a =>
    show (if _ then _ else _) = (if _ then _ else _)
    split
    · refine bind_congr fun k ρ2 => ?_
      refine bind_congr fun x ρ3 => ?_
      show _ = dgD a ρ3 (deref ρ3 k) x
      cases deref ρ3 k with
      | none => rfl
      | some b => cases x <;> rfl
    · rfl
  | _ => rfl
@[simp] theorem y_isD_k {ks : List Key} {l : List D} : isDictD (.dk ks l) = true := id rfl
@[simp] theorem y_isD_t {ks : List (List Key)} {l : List D} : isDictD (.dt ks l) = true := id rfl
/-! d[k] = x -/
def dpC (k : Nat) (ρ2 : Envi) : Option Own → Fl
  | some o' => .nx (ρ2.set k (.ow o'))
  | none => .stuck
def dpM (k : Nat) (d : D) (ρ2 : Envi) : Hd → Option Slot → Fl
  | .dat b, some (.ow o) => dpC k ρ2 (dPut o b d)
  | _, _ => .stuck
def dpB (k : Nat) (d : D) (y : Hd) (ρ2 : Envi) : Fl := dpM k d ρ2 y ρ2[k]?
def owS : Option Slot → Bool
  | some (.ow _) => true
  | _ => false
def dpA (k : Nat) (ok : Envi → Bool) (g : Envi → R Hd) (x : Hd) (ρ1 : Envi) : Fl := match x with
  | .dat d => if ok ρ1 = true then (if owS ρ1[k]? = true then (eMat g ρ1).toFl (dpB k d) else .stuck) else .stuck
  | _ => .stuck
@[simp] theorem y_dpC {o' : Own} : dpC k ρ (some o') = .nx (ρ.set k (.ow o')) := id rfl
@[simp] theorem y_dpM : dpM k d ρ (.dat b) (some (.ow o)) = dpC k ρ (dPut o b d) := id rfl
@[simp] theorem y_dpB {y : Hd} : dpB k d y ρ = dpM k d ρ y ρ[k]? := id rfl
@[simp] theorem y_owS : owS (some (.ow o)) = true := id rfl
@[simp] theorem y_dpA {ok : Envi → Bool} : dpA k ok g (.dat d) ρ = if ok ρ = true then (if owS ρ[k]? = true then (eMat g ρ).toFl (dpB k d) else .stuck) else .stuck := id rfl
theorem toFl_congr {α : Type} {r : R α} {h h' : α → Envi → Fl} (e : ∀ x ρ, h x ρ = h' x ρ) : r.toFl h = r.toFl h' := by
  cases r <;> first | rfl | exact e _ _
@[simp] theorem y_dput {ok : Envi → Bool} : sDPutP k ok g e ρ = (eMat e ρ).toFl (dpA k ok g) := by
  unfold sDPutP
  refine toFl_congr fun h ρ1 => ?_
  cases h with
  | dat d =>
    show (if _ then _ else _) = (if _ then _ else _)
    split
    · cases ρ1[k]? with
      | none => rfl
      | some s =>
        cases s with
        | ow o0 =>
          show _ = (if true = true then _ else _)
          rw [if_pos rfl]
          refine toFl_congr fun y ρ2 => ?_
          show _ = dpM k d ρ2 y ρ2[k]?
          cases y with
          | dat b =>
            cases ρ2[k]? with
            | none => rfl
            | some s =>
              cases s with
              | ow o =>
                show _ = dpC k ρ2 (dPut o b d)
                cases h : dPut o b d with
                | none => simp only [h]; rfl
                | some o' => simp only [h]; rfl
              | _ => rfl
          | _ => rfl
        | _ => rfl
    · rfl
  | _ => rfl
@[simp] theorem y_dPut_i {kvs : List (Key × D)} {x : Int} : dPut (.di kvs) (.int x) d = if kvs.length < big then some (.di (putA kvs (.inl x) d)) else none := id rfl
@[simp] theorem y_dPut_p {kvs : List (List Key × D)} {x y : Int} : dPut (.ti kvs) (.tup [.int x, .int y]) d = if kvs.length < big then some (.ti (putA kvs [.inl x, .inl y] d)) else none := id rfl
@[simp] theorem y_dLook_i {ks : List Key} {l : List D} {x : Int} : dLook (.dk ks l) (.int x) = some (lookA (ks.zip l) (.inl x)) := id rfl
@[simp] theorem y_dLook_p {ks : List (List Key)} {l : List D} {x y : Int} : dLook (.dt ks l) (.tup [.int x, .int y]) = some (lookA (ks.zip l) [.inl x, .inl y]) := id rfl
/-! methods -/
@[simp] theorem y_fmOf {g : Sem} {fs : List Slot} {ds : List D} : fmOf n g fs ds = endF n (g (initM n ds ++ fs)) := id rfl
def enM1 (n : Nat) (ρ : Envi) (d : D) : Option Slot → Option (D × List Slot)
  | some .self => some (d, ρ.drop n)
  | _ => none
@[simp] theorem y_enM1 : enM1 n ρ d (some .self) = some (d, ρ.drop n) := id rfl
@[simp] theorem y_endM : endM n ρ d = enM1 n ρ d ρ[0]? := by unfold endM enM1; rfl
@[simp] theorem y_endF_nx : endF n (.nx ρ) = endM n ρ .non := id rfl
@[simp] theorem y_endF_fz : endF n (.ret (.fz d) ρ) = endM n ρ d := id rfl
@[simp] theorem y_endF_ow : endF n (.ret (.ow o) ρ) = endM n ρ o.toD := id rfl
@[simp] theorem y_endF_ite {p : Prop} [Decidable p] {x y : Fl} : endF n (if p then x else y) = if p then endF n x else endF n y := by split <;> rfl
/-! a local object -/
def sloB (i n nf : Nat) (rest : Sem) (ρ2 : Envi) : Option (D × List Slot) → Fl
  | some (.non, fs1) => letEnd n (rest (ρ2.set i .self ++ fs1))
  | _ => .stuck
def sloM (i n nf : Nat) (fi : List Slot → List D → Option (D × List Slot)) (rest : Sem) : Option (List D × Envi) → Fl
  | some (ds, ρ2) => if (decide (ρ2.length = n) && noSelf ρ2) = true then sloB i n nf rest ρ2 (fi (unsN nf) ds) else .stuck
  | none => .stuck
def slok (i n nf : Nat) (fi : List Slot → List D → Option (D × List Slot)) (rest : Sem) (hs : List Hd) (ρ1 : Envi) : Fl := sloM i n nf fi rest (matAll ρ1 hs)
@[simp] theorem y_sloB {rest : Sem} {nf : Nat} {fs1 : List Slot} : sloB i n nf rest ρ (some (.non, fs1)) = letEnd n (rest (ρ.set i .self ++ fs1)) := id rfl
@[simp] theorem y_sloM {rest : Sem} {nf : Nat} {fi : List Slot → List D → Option (D × List Slot)} {ds : List D} : sloM i n nf fi rest (some (ds, ρ)) = if (decide (ρ.length = n) && noSelf ρ) = true then sloB i n nf rest ρ (fi (unsN nf) ds) else .stuck := id rfl
@[simp] theorem y_slok {rest : Sem} {nf : Nat} {fi : List Slot → List D → Option (D × List Slot)} {hs : List Hd} : slok i n nf fi rest hs ρ = sloM i n nf fi rest (matAll ρ hs) := id rfl
@[simp] theorem y_let {rest : Sem} {nf : Nat} {fi : List Slot → List D → Option (D × List Slot)} {g : Envi → R (List Hd)} : sLet i n nf fi g rest ρ = (g ρ).toFl (slok i n nf fi rest) := by
  unfold sLet
  refine toFl_congr fun hs ρ1 => ?_
  show _ = sloM i n nf fi rest (matAll ρ1 hs)
  cases matAll ρ1 hs with
  | none => rfl
  | some p =>
    obtain ⟨ds, ρ2⟩ := p
    show (if _ then _ else _) = (if _ then _ else _)
    split
    · cases fi (unsN nf) ds with
      | none => rfl
      | some q =>
        obtain ⟨x, fs1⟩ := q
        cases x <;> rfl
    · rfl
@[simp] theorem y_letEnd {v : Rv} : letEnd n (.ret v ρ) = .ret v (unsN n) := id rfl
@[simp] theorem y_noSelf_nil : noSelf [] = true := id rfl
@[simp] theorem y_noSelf_un : noSelf (.un :: ρ) = noSelf ρ := id rfl
@[simp] theorem y_noSelf_fz : noSelf (.fz d :: ρ) = noSelf ρ := id rfl
@[simp] theorem y_noSelf_ow : noSelf (.ow o :: ρ) = noSelf ρ := id rfl
theorem mkM_some {nf : Nat} {fi fm : List Slot → List D → Option (D × List Slot)} {ds ds2 : List D} {fs1 fs2 : List Slot} (h1 : fi (unsN nf) ds = some (.non, fs1)) (h2 : fm fs1 ds2 = some (d, fs2)) : mkM nf fi fm ds ds2 = some d := by
  unfold mkM
  rw [h1]
  show (fm fs1 ds2).map (·.1) = some d
  rw [h2]; rfl
/-! a for that is left -/
theorem runFor_nx {b : Bnd} {g : Sem} {d : D} {l : List D} {ρ1 ρ2 : Envi} (h1 : b d ρ = some ρ1) (h2 : g ρ1 = .nx ρ2) : runFor b g (d :: l) ρ = runFor b g l ρ2 := by
  show (match b d ρ with | none => Fl.stuck | some ρ1 => match g ρ1 with | .nx ρ2 => runFor b g l ρ2 | .ct ρ2 => runFor b g l ρ2 | .bk ρ2 => .nx ρ2 | r => r) = _
  rw [h1]
  simp only [h2]
theorem runFor_bk {b : Bnd} {g : Sem} {d : D} {l : List D} {ρ1 ρ2 : Envi} (h1 : b d ρ = some ρ1) (h2 : g ρ1 = .bk ρ2) : runFor b g (d :: l) ρ = .nx ρ2 := by
  show (match b d ρ with | none => Fl.stuck | some ρ1 => match g ρ1 with | .nx ρ2 => runFor b g l ρ2 | .ct ρ2 => runFor b g l ρ2 | .bk ρ2 => .nx ρ2 | r => r) = _
  rw [h1]
  simp only [h2]
theorem runFor_ret {b : Bnd} {g : Sem} {d : D} {l : List D} {ρ1 ρ2 : Envi} {v : Rv} (h1 : b d ρ = some ρ1) (h2 : g ρ1 = .ret v ρ2) : runFor b g (d :: l) ρ = .ret v ρ2 := by
  show (match b d ρ with | none => Fl.stuck | some ρ1 => match g ρ1 with | .nx ρ2 => runFor b g l ρ2 | .ct ρ2 => runFor b g l ρ2 | .bk ρ2 => .nx ρ2 | r => r) = _
  rw [h1]
  simp only [h2]
theorem fAll_bls (bs : List Bool) : fAll [.lst (bs.map .bl)] = .fz (.bl (bs.all id)) := by
  unfold fAll lstBols
  simp only [lstOf, bolsOf_map]
theorem fAny_bls (bs : List Bool) : fAny [.lst (bs.map .bl)] = .fz (.bl (bs.any id)) := by
  unfold fAny lstBols
  simp only [lstOf, bolsOf_map]
end
end Pv

set_option Elab.async false
set_option linter.all false
set_option maxRecDepth 100000
namespace Pv
open PySem PySem.Spec PyProof.Rows L2
section
variable {P : Pr} {m : Bool} {W : WX} {te ta tb tc to : TE} {f g e : Envi → R Hd} {n : Nat} {fa : Envi → R (List Hd)} {tr : TA} {B F0 F H : Hp} {σ : L2.St} {ob : Ob} {ρ : Envi} {K : PySem.W.Frag}
/-! d.get(k, x), d staying ours -/
def eDGet3 (f g e : Envi → R Hd) : Envi → R Hd := fun ρ => (f ρ).frz.bind fun h ρ1 => match deref ρ1 h with
  | some a0 => if isDictD a0 = true then (g ρ1).frz.bind fun k ρ2 => (eMat e ρ2).bind fun x ρ3 => match deref ρ3 h, deref ρ3 k, x with
    | some a, some b, .dat z => match dLook a b with
      | some (some d) => .ok (.dat d) ρ3
      | some none => .ok (.dat z) ρ3
      | none => .stuck
    | _, _, _ => .stuck
    else .stuck
  | none => .stuck
theorem isB_of {v : V} {d : D} (s : Same F H) (r : BRep K F H v d) (e : isDictD d = true) : ∃ a, v = .ref a ∧ IsD H a := by
  rcases r with r | ⟨a, ho, o, rfl, ha, hr, rfl⟩
  · exact isD_of s r e
  · refine ⟨a, rfl, ?_⟩
    cases o with
    | li l => cases e
    | di l =>
      obtain ⟨kvs, rfl, _⟩ := hr
      exact .inl ⟨_, .inl ha⟩
    | ti l =>
      obtain ⟨kvs, rfl, _⟩ := hr
      exact .inr ⟨_, .inl ha⟩
theorem snd_dget3 (ha : SndE P false W ta f) (hb : SndE P false W tb g) (hc : SndE P false W tc e) : SndE P false W (tDGet2 ta tb tc) (eDGet3 f g e) := by
  intro B F0 F H σ ob ρ Q w q
  refine ha.frz B F0 F H σ ob ρ _ w (Post.of_bind q ?_)
  rintro h ρ1 B1 F1 H1 ob1 x w1 s1 i1 ⟨rfl, r1⟩ q
  cases d1 : deref ρ1 h with
  | none => rw [d1] at q; exact q.elim
  | some a0 =>
    rw [d1] at q
    dsimp only at q
    split at q
    · rename_i hd
      obtain ⟨p, rfl, hp⟩ := isB_of w1.fh (w1.deref r1 d1) hd
      refine ⟨p, rfl, hp, ?_⟩
      refine hb.frz _ F0 F1 H1 σ ob1 ρ1 _ w1 (Post.of_bind (Post.shift s1 i1 q) ?_)
      rintro k ρ2 B2 F2 H2 ob2 y w2 s2 i2 ⟨rfl, r2⟩ q
      refine snd_mat hc _ F0 F2 H2 σ ob2 ρ2 _ w2 (Post.of_bind (Post.shift s2 i2 q) ?_)
      rintro z ρ3 B3 F3 H3 ob3 u w3 s3 i3 r3 q
      have r1' := (r1.mono s2 (i2 rfl)).mono s3 (i3 rfl)
      cases e0 : deref ρ3 h with
      | none => rw [e0] at q; exact q.elim
      | some a =>
        cases e1 : deref ρ3 k with
        | none => rw [e0, e1] at q; exact q.elim
        | some b =>
          rw [e0, e1] at q
          cases z with
          | dat z =>
            obtain ⟨rfl, r3⟩ := r3
            try dsimp only at q
            have ra := w3.deref r1' e0
            have rk := w3.deref (r2.mono s3 (i3 rfl)) e1
            cases e2 : dLook a b with
            | none => rw [e2] at q; exact q.elim
            | some rr =>
              rw [e2] at q
              obtain ⟨p', o, e3, h1, h2⟩ := dLook_ok w3.fh ra rk e2
              cases e3
              refine ⟨o, h1, ?_⟩
              cases rr with
              | none =>
                cases o with
                | some _ => exact h2.elim
                | none => exact q _ F3 H3 ob3 u w3 s3 i3 ⟨rfl, r3⟩
              | some d =>
                cases o with
                | none => exact h2.elim
                | some v => exact q _ F3 H3 ob3 v w3 s3 i3 ⟨rfl, h2⟩
          | _ => exact q.elim
    · exact q.elim
/-! a comprehension over the keys of a dict of ours: locked as long as it runs, frozen behind -/
def dOfK : Key → D
  | .inl i => .int i
  | .inr x => .str x
def keysD : Own → Option (List D)
  | .di l => some (l.map fun x => dOfK x.1)
  | .ti l => some (l.map fun x => .tup (x.1.map dOfK))
  | .li _ => none
theorem rep_key (k : Key) : Rep K F (kV k) (dOfK k) := by
  cases k with
  | inl i => exact .int i
  | inr x => exact .str x
theorem reps_keys : ∀ ks : List Key, Reps K F (ks.map kV) (ks.map dOfK)
  | [] => .nil
  | k :: ks => .cons (rep_key k) (reps_keys ks)
/-- what was locked is open again -/
def Unl (F F' : Hp) : Prop := ∀ b x, F b = some x → F' b = some x ∨ ∃ od u, x = .frz od u ∧ F' b = some u ∧ (∀ vs, u ≠ .tup vs) ∧ ∀ vs, u ≠ .lst vs
theorem Unl.rd {F' : Hp} (h : Unl F F') {a : Addr} {u : HO} (hu : ∀ od v, u ≠ .frz od v) (r : Rd F a u) : Rd F' a u := by
  rcases r with r | ⟨o, r⟩
  · rcases h _ _ r with z | ⟨od, v, z, _⟩
    · exact .inl z
    · exact absurd z (hu od v)
  · rcases h _ _ r with z | ⟨od, v, z, z2, _⟩
    · exact .inr ⟨o, z⟩
    · cases z; exact .inl z2
theorem Unl.sq {F' : Hp} (h : Unl F F') {a : Addr} {xs : List V} (r : SqL K F a xs) : SqL K F' a xs := by
  rcases r with r | r
  · exact .inl (h.rd (fun _ _ z => nomatch z) r)
  · exact .inr r
theorem Unl.kt {F' : Hp} (h : Unl F F') {a : Addr} {xs : List V} (r : KTup K F a xs) : KTup K F' a xs := by
  rcases r with ⟨o, r, d⟩ | r
  · rcases h _ _ r with z | ⟨od, v, z, _, z3, _⟩
    · exact .inl ⟨o, z, d⟩
    · cases z; exact absurd rfl (z3 _)
  · exact .inr r
mutual
theorem Rep.unl {F' : Hp} (e : Unl F F') : ∀ {v : V} {d : D}, Rep K F v d → Rep K F' v d
  | _, _, .non => .non
  | _, _, .bl _ => .bl _
  | _, _, .int _ => .int _
  | _, _, .str _ => .str _
  | _, _, .tup a b c => .tup ((e _ _ a).elim id fun ⟨_, _, z, _⟩ => nomatch z) b (Reps.unl e c)
  | _, _, .ktup a b c => .ktup (e.kt a) b (Reps.unl e c)
  | _, _, .lst a b c => .lst ((e _ _ a).elim id fun ⟨_, _, z, _⟩ => nomatch z) b (Reps.unl e c)
  | _, _, .klst a b c => .klst (e.sq a) b (Reps.unl e c)
  | _, _, .dk a b c => .dk (e.rd (fun _ _ z => nomatch z) a) b (Reps.unl e c)
  | _, _, .dt a b c => .dt (e.rd (fun _ _ z => nomatch z) a) b (Reps.unl e c)
  | _, _, .adr _ => .adr _
  | _, _, .ty _ => .ty _
theorem Reps.unl {F' : Hp} (e : Unl F F') : ∀ {vs : List V} {ds : List D}, Reps K F vs ds → Reps K F' vs ds
  | _, _, .nil => .nil
  | _, _, .cons a b => .cons (Rep.unl e a) (Reps.unl e b)
end
end
end Pv

set_option Elab.async false
set_option linter.all false
set_option maxRecDepth 100000
namespace Pv
open PySem PySem.Spec PyProof.Rows L2
section
variable {P : Pr} {m : Bool} {W : WX} {te ta tb : TE} {f : Envi → R Hd} {B F0 F H : Hp} {σ : L2.St} {ob : Ob} {ρ : Envi} {K : PySem.W.Frag}
theorem comp_at {us vs : List Nat} {ti : TI} {ds : List Pv.D} {tg : TG} {b : Bnd} {tt : TT} {c : Envi → R Bool} {e : Envi → R Hd} {Q : VK} (w : Wf P B F0 F H σ ob ρ) (hsz : ds.length ≤ sizeLine) (hi : ∀ R, (∀ J, ItOk P.K J F ds → R J H) → ti σ H R) (hg : SndG P us tg b) (hc : SndT P m W0 tt c) (he : SndE P m W0 te e) (q : Post P B F0 F σ ob m W (RelE P B σ) Q (opt3 (runComp b c e vs ds (Pv.wipeE ρ vs)))) (hu : ∀ u ∈ us, u ∈ vs := by decide) :
    tLc ti tg tt te vs σ H Q := by
  refine hi _ fun J hJ => ?_
  intro D hD
  obtain ⟨B', hB'⟩ : ∃ B', B' = B := ⟨_, rfl⟩
  obtain ⟨F', hF'⟩ : ∃ F', F' = F := ⟨_, rfl⟩
  obtain ⟨ob', hob'⟩ : ∃ ob', ob' = ob := ⟨_, rfl⟩
  obtain ⟨ρ', hρ'⟩ : ∃ ρ', ρ' = ρ := ⟨_, rfl⟩
  have w' : Wf P B' F0 F' H σ ob' ρ' := by rw [hB', hF', hob', hρ']; exact w
  have s : Same F F' := by rw [hF']; exact Same.refl _
  have i' : m = false → ob' = ob := fun _ => hob'
  rw [← hF'] at hJ
  rw [← hB'] at q
  rw [← hρ'] at q
  have fD : F' D = none := w'.fh.free hD
  have bD : B' D = none := w'.bh.free hD
  have f0D : F0 D = none := w'.ff.free fD
  refine ⟨fun i mm H2 => ∃ F2 ob2 ρ2 av acc, mm = ds.length - i ∧ i ≤ ds.length ∧ Wf P (upd B' D (.lst av)) F0 F2 H2 σ ob2 (Pv.wipeE ρ2 vs) ∧ Same F' F2 ∧ F2 D = none ∧ (m = false → ob2 = ob') ∧ Reps P.K F2 av acc ∧ acc.length ≤ i ∧
      Post P B' F0 F σ ob m W (RelE P B' σ) Q (opt3 ((runComp b c e vs (ds.drop i) (Pv.wipeE ρ2 vs)).map fun x => (acc ++ x.1, x.2))),
    ⟨ds.length, F', ob', ρ', [], [], rfl, Nat.zero_le _, (w'.wipeE vs).tmp hD, Same.refl _, fD, fun _ => rfl, .nil, Nat.le_refl _, ?_⟩, ?_⟩
  · have q : Post P B' F0 F σ ob m W (RelE P B' σ) Q (opt3 (runComp b c e vs ds (Pv.wipeE ρ' vs))) := q
    rw [List.drop_zero]
    cases e1 : runComp b c e vs ds (Pv.wipeE ρ' vs) with
    | none => rw [e1] at q; exact q
    | some x => rw [e1] at q; exact q
  rintro i mm H2 ⟨F2, ob2, ρ2, av, acc, rfl, hle, w2, s2, f2D, i2, r2, hacc, q2⟩
  obtain ⟨j1, j2⟩ := hJ F2 H2 s2 w2.fh
  by_cases hlt : i < ds.length
  · refine .inr ⟨(j1 i ds[i] (List.getElem?_eq_getElem hlt)).1, fun H3 => ∃ F3 ob3 ρ3 av acc, Wf P (upd B' D (.lst av)) F0 F3 H3 σ ob3 (Pv.wipeE ρ3 vs) ∧ Same F' F3 ∧ F3 D = none ∧ (m = false → ob3 = ob') ∧ Reps P.K F3 av acc ∧ acc.length ≤ i + 1 ∧
      Post P B' F0 F σ ob m W (RelE P B' σ) Q (opt3 ((runComp b c e vs (ds.drop (i + 1)) (Pv.wipeE ρ3 vs)).map fun x => (acc ++ x.1, x.2))),
      fun H3 ⟨F3, ob3, ρ3, av, acc, w3, s3, f3, i3, r3, h3, q3⟩ => ⟨ds.length - (i + 1), by omega, F3, ob3, ρ3, av, acc, rfl, hlt, w3, s3, f3, i3, r3, h3, q3⟩, fun x H3 y => ?_⟩
    obtain ⟨F3, gr, r3⟩ := (j1 i ds[i] (List.getElem?_eq_getElem hlt)).2 x H3 y
    obtain ⟨w3, s3⟩ := w2.growN gr
    rw [List.drop_eq_getElem_cons hlt] at q2
    unfold runComp at q2
    have w3' : Wf P (upd B' D (.lst av)) F0 F3 H3 (wipe σ vs) ob2 (Pv.wipeE ρ2 vs) := w3.reslot (wipe_length σ vs) fun i s h hs => wipe_outS (wipeE_un h hs)
    cases e1 : b ds[i] (Pv.wipeE ρ2 vs) with
    | none => rw [e1] at q2; exact q2.elim
    | some ρ3 =>
      rw [e1] at q2
      dsimp only at q2
      refine hg _ F0 F3 H3 (wipe σ vs) ob2 _ x _ ρ3 _ w3' r3 e1 fun σ3 w4 hw4 => ⟨(hw4 vs hu).trans ?_, ?_⟩
      · exact wipe_idem σ vs
      -- behind a turn: back at σ
      have back : ∀ {Bx Fx Hx : Hp} {obx : Ob} {ρx : Envi}, Wf P Bx F0 Fx Hx σ3 obx ρx → Wf P Bx F0 Fx Hx σ obx (Pv.wipeE ρx vs) := fun {Bx Fx Hx obx ρx} wx => by
        refine (wx.wipeE vs).reslot ?_ fun i s h hs => ?_
        · have := w4.n
          rw [this, w.n]
        · have hn := wipeE_un h hs
          have := congrArg (fun l => l[i]?) (hw4 vs hu)
          rw [wipe_outS hn] at this
          rw [this]
          have h2 : (wipe (wipe σ vs) vs)[i]? = (wipe σ vs)[i]? := wipe_outS hn
          rw [h2, wipe_outS hn]
      refine hc _ F0 F3 H3 σ3 ob2 ρ3 _ w4 ?_
      cases e2 : c ρ3 with
      | stuck => rw [e2] at q2; exact q2.elim
      | exc x ρ4 => rw [e2] at q2; exact q2.elim
      | ok bb ρ4 =>
        rw [e2] at q2
        rintro _ F4 H4 ob4 v w5 s4 i4 ⟨rfl, rfl⟩
        have f4D : F4 D = none := by
          cases z : F4 D with
          | none => rfl
          | some o =>
            rcases w5.nw D o z with h | h | ⟨us, rfl⟩
            · rw [f0D] at h; cases h
            · rw [upd_same] at h; cases h
            · have h := w5.fh _ _ z
              rw [w5.getH] at h; cases h
        cases v with
        | false =>
          dsimp only at q2
          rw [if_neg Bool.false_ne_true]
          exact ⟨F4, ob4, ρ4, av, acc, back w5, (s2.trans s3).trans s4, f4D, fun z => (i4 z).trans (i2 z), r2.mono (s3.trans s4), by omega, q2⟩
        | true =>
          dsimp only at q2
          rw [if_pos rfl]
          refine snd_mat he _ F0 F4 H4 σ3 ob4 ρ4 _ w5 ?_
          cases e3 : eMat e ρ4 with
          | stuck => rw [e3] at q2; exact q2.elim
          | exc x ρ5 => rw [e3] at q2; exact q2.elim
          | ok hd ρ5 =>
            rw [e3] at q2
            cases hd with
            | dat d' =>
              rintro _ F5 H5 ob5 y w6 s5 i5 ⟨rfl, r5⟩
              have f5D : F5 D = none := by
                cases z : F5 D with
                | none => rfl
                | some o =>
                  rcases w6.nw D o z with h | h | ⟨us, rfl⟩
                  · rw [f0D] at h; cases h
                  · rw [upd_same] at h; cases h
                  · have h := w6.fh _ _ z
                    rw [w6.getH] at h; cases h
              have hl : av.length = acc.length := r2.length
              refine ⟨av, w6.getH, by omega, F5, ob5, ρ5, av ++ [y], acc ++ [d'], back (w6.tmpUpd f5D), ((s2.trans s3).trans s4).trans s5, f5D, fun z => ((i5 z).trans (i4 z)).trans (i2 z), (r2.mono ((s3.trans s4).trans s5)).append (.cons r5 .nil), by rw [List.length_append]; show acc.length + 1 ≤ i + 1; omega, ?_⟩
              dsimp only at q2
              cases e4 : runComp b c e vs (ds.drop (i + 1)) (Pv.wipeE ρ5 vs) with
              | none => rw [e4] at q2; exact q2
              | some x =>
                rw [e4] at q2
                have q2 : Post P B' F0 F σ ob m W (RelE P B' σ) Q (opt3 (some (acc ++ (d' :: x.1), x.2))) := q2
                rw [show acc ++ (d' :: x.1) = (acc ++ [d']) ++ x.1 by simp] at q2
                exact q2
            | _ => exact q2.elim
  · refine .inl ⟨j2 i (by omega), ?_⟩
    rw [List.drop_eq_nil_of_le (by omega)] at q2
    have q2 : Post P B' F0 F σ ob m W (RelE P B' σ) Q (.ok (.tm (.li (acc ++ []))) (Pv.wipeE ρ2 vs)) := q2
    rw [List.append_nil] at q2
    exact q2 (upd B' D (.lst av)) F2 H2 ob2 _ w2 (s.trans s2) (fun z => (i2 z).trans (i' z)) ⟨D, _, rfl, rfl, bD, f2D, av, rfl, by rw [r2.length]; omega, r2⟩

/-! lock and open -/
theorem OwnR.repF {a : Addr} {ho : HO} {o : Own} {ds : List D} (hd : keysD o = some ds) (h : Rd F a ho) (r : OwnR K F ho o) : Rep K F (.ref a) o.toD := by
  cases o with
  | li l => cases hd
  | di l =>
    obtain ⟨kvs, rfl, h2, h3⟩ := r
    show Rep K F (.ref a) (.dk (l.map (·.1)) (l.map (·.2)))
    rw [← h3.keys]
    exact .dk h h2 h3.vals
  | ti l =>
    obtain ⟨kvs, rfl, h2, h3⟩ := r
    show Rep K F (.ref a) (.dt (l.map (·.1)) (l.map (·.2)))
    rw [← h3.keys]
    exact .dt h h2 h3.vals
theorem Wf.lockSlot (w : Wf P B F0 F H σ ob ρ) {i : Nat} {o : Own} {ds : List D} (h : ρ[i]? = some (.ow o)) (hd : keysD o = some ds) : ∃ a ho, (tau σ ob)[i]? = some (some (.ref a)) ∧ H a = some ho ∧ OwnR P.K F ho o ∧ F a = none ∧ B a = none ∧
    ∀ od, Wf P B F0 (upd F a (.frz od ho)) (upd H a (.frz od ho)) σ ob (ρ.set i (.fz o.toD)) := by
  obtain ⟨fh, bh, ff, nw, n, len, ⟨al, s1, s2, s3⟩, hob⟩ := w
  obtain ⟨e1, ho, e2, e3⟩ := s1 i _ h
  obtain ⟨fa, ba⟩ := s2 i _ h rfl
  have hiρ : i < ρ.length := (List.getElem?_eq_some_iff.mp h).1
  have hiτ : i < (tau σ ob).length := by rw [← len]; exact hiρ
  have e0 : (tau σ ob)[i]? = some (some (.ref (al i))) := by
    rw [List.getElem?_eq_getElem hiτ] at e1 ⊢
    rw [show (tau σ ob)[i] = some (.ref (al i)) from e1]
  refine ⟨al i, ho, e0, e2, e3, fa, ba, fun od => ?_⟩
  have sF : Same F (upd F (al i) (.frz od ho)) := same_new fa
  have ne : ∀ (j : Nat) (s : Slot), ρ[j]? = some s → s.isOw = true → i ≠ j → al j ≠ al i := fun j s hj hs hij z => hij (s3 j i s _ hj h hs rfl z).symm
  refine ⟨fun b x e => ?_, fun b x e => ?_, ff.trans sF, fun b x e => ?_, n, by rw [List.length_set]; exact len, ⟨al, fun j t hj => ?_, fun j t hj ht => ?_, fun j k t u hj hk ht hu => ?_⟩, fun q fv e => ?_⟩
  · by_cases hb : b = al i
    · subst hb; rw [upd_same] at e ⊢; exact e
    · rw [upd_ne hb] at e ⊢; exact fh _ _ e
  · rw [upd_ne (ne_of_none e ba)]; exact bh _ _ e
  · by_cases hb : b = al i
    · subst hb; exact .inr (.inl ba)
    · rw [upd_ne hb] at e; exact nw _ _ e
  · by_cases hij : i = j
    · subst hij
      rw [List.getElem?_set_self hiρ] at hj
      cases hj
      exact ⟨_, e1, (e3.mono sF).repF hd (.inr ⟨od, upd_same⟩)⟩
    · rw [List.getElem?_set_ne hij] at hj
      exact (s1 j t hj).imp sF fun u hu e => by rw [upd_ne (ne j t hj hu hij)]; exact e
  · by_cases hij : i = j
    · subst hij
      rw [List.getElem?_set_self hiρ] at hj
      cases hj; cases ht
    · rw [List.getElem?_set_ne hij] at hj
      rw [upd_ne (ne j t hj ht hij)]
      exact s2 j t hj ht
  · have back : ∀ {j : Nat} {t : Slot}, (ρ.set i (.fz o.toD))[j]? = some t → t.isOw = true → ρ[j]? = some t := fun {j t} hj ht => by
      by_cases hij : i = j
      · subst hij
        rw [List.getElem?_set_self hiρ] at hj
        cases hj; cases ht
      · rw [List.getElem?_set_ne hij] at hj; exact hj
    exact s3 j k t u (back hj ht) (back hk hu) ht hu
  · have x := hob q fv e
    obtain ⟨dx, fs, ei⟩ := x.ins
    have hq : q ≠ al i := ne_of ei e2 fun z => e3.notIns z.symm
    exact x.keep (fun h => by rw [upd_ne hq]; exact h) (fun h => h) fun u hu => by rw [upd_ne hq]; exact hu
theorem ne_of_some_none {F : Hp} {a b : Addr} {x : HO} (h : F a = some x) (g : F b = none) : b ≠ a := fun z => by rw [z, h] at g; cases g
theorem unl_upd {a : Addr} {od : Obj} {ho : HO} (h : F a = some (.frz od ho)) (h1 : ∀ vs, ho ≠ .tup vs) (h2 : ∀ vs, ho ≠ .lst vs) : Unl F (upd F a ho) := fun b x e => by
  by_cases hb : b = a
  · subst hb
    rw [h] at e
    cases e
    exact .inr ⟨od, ho, rfl, upd_same, h1, h2⟩
  · exact .inl (by rw [upd_ne hb]; exact e)
theorem OwnR.unl {F' : Hp} (e : Unl F F') {ho : HO} : ∀ {o : Own}, OwnR K F ho o → OwnR K F' ho o
  | .li _, ⟨vs, h1, h2, h3⟩ => ⟨vs, h1, h2, h3.unl e⟩
  | .di _, ⟨vs, h1, h2, h3⟩ => ⟨vs, h1, h2, Paired.mapP h3 fun _ _ z => ⟨z.1, z.2.unl e⟩⟩
  | .ti _, ⟨vs, h1, h2, h3⟩ => ⟨vs, h1, h2, Paired.mapP h3 fun _ _ z => ⟨z.1, z.2.unl e⟩⟩
theorem Wf.unlock {a : Addr} {od : Obj} {ho : HO} (w : Wf P B F0 F H σ ob ρ) (h : F a = some (.frz od ho)) (h1 : ∀ vs, ho ≠ .tup vs) (h2 : ∀ vs, ho ≠ .lst vs) (f0 : F0 a = none) (ba : B a = none) : Wf P B F0 (upd F a ho) (upd H a ho) σ ob ρ := by
  obtain ⟨fh, bh, ff, nw, n, len, ⟨al, s1, s2, s3⟩, hob⟩ := w
  have un := unl_upd h h1 h2
  refine ⟨fun b x e => ?_, fun b x e => ?_, fun b x e => ?_, fun b x e => ?_, n, len, ⟨al, fun j t hj => ?_, fun j t hj ht => ?_, s3⟩, fun q fv e => ?_⟩
  · by_cases hb : b = a
    · subst hb; rw [upd_same] at e ⊢; exact e
    · rw [upd_ne hb] at e ⊢; exact fh _ _ e
  · rw [upd_ne (ne_of_none e ba)]; exact bh _ _ e
  · rw [upd_ne (ne_of_none e f0)]; exact ff _ _ e
  · by_cases hb : b = a
    · subst hb; exact .inr (.inl ba)
    · rw [upd_ne hb] at e; exact nw _ _ e
  · have x := s1 j t hj
    cases t with
    | un => exact True.intro
    | fz d => obtain ⟨u, e1, e2⟩ := x; exact ⟨u, e1, e2.unl un⟩
    | ow o =>
      obtain ⟨e1, u, e2, e3⟩ := x
      have hne : al j ≠ a := ne_of_some_none h (s2 j _ hj rfl).1
      exact ⟨e1, u, by rw [upd_ne hne]; exact e2, e3.unl un⟩
    | self => exact x
  · have hne : al j ≠ a := ne_of_some_none h (s2 j _ hj ht).1
    rw [upd_ne hne]
    exact s2 j t hj ht
  · have x := hob q fv e
    have hq : q ≠ a := ne_of_some_none h x.fp
    exact x.keep (fun h => by rw [upd_ne hq]; exact h) (fun h => h) fun u hu => by rw [upd_ne hq]; exact hu
theorem itOk_keys {a : Addr} {od : Obj} {kvs : List (Key × V)} (h : F a = some (.frz od (.dK kvs))) : ItOk K (Itk a od kvs) F (kvs.map fun x => dOfK x.1) := fun F2 H2 s1 s2 => by
  have h2 : H2 a = some (.frz od (.dK kvs)) := s2 _ _ (s1 _ _ h)
  refine ⟨fun i d e => ?_, fun i hi => ⟨h2, by rw [List.length_map] at hi; exact hi⟩⟩
  rw [List.getElem?_map] at e
  obtain ⟨⟨k, v⟩, e1, rfl⟩ := Option.map_eq_some_iff.mp e
  refine ⟨⟨h2, (List.getElem?_eq_some_iff.mp e1).1⟩, fun x H3 y => ?_⟩
  obtain ⟨rfl, k', v', e2, rfl⟩ := y
  rw [e1] at e2
  cases e2
  exact ⟨F2, .refl _ _, rep_key k⟩
theorem kV_len (ks : List Key) : (ks.map kV).length = ks.length := List.length_map ..
theorem itOk_keysT {a : Addr} {od : Obj} {kvs : List (List Key × V)} (h : F a = some (.frz od (.dT kvs))) (hk : ∀ x ∈ kvs, x.1.length ≤ sizeLine) : ItOk K (Itkt a od kvs) F (kvs.map fun x => .tup (x.1.map dOfK)) := fun F2 H2 s1 s2 => by
  have h2 : H2 a = some (.frz od (.dT kvs)) := s2 _ _ (s1 _ _ h)
  refine ⟨fun i d e => ?_, fun i hi => ⟨h2, by rw [List.length_map] at hi; exact hi⟩⟩
  rw [List.getElem?_map] at e
  obtain ⟨⟨k, v⟩, e1, rfl⟩ := Option.map_eq_some_iff.mp e
  refine ⟨⟨h2, (List.getElem?_eq_some_iff.mp e1).1⟩, fun x H3 y => ?_⟩
  obtain ⟨rfl, k', v', q, e2, rfl, hq⟩ := y
  rw [e1] at e2
  cases e2
  exact ⟨upd F2 q (.tup (k.map kV)), .known (.refl _ _) hq, .tup upd_same (by rw [kV_len]; exact hk _ (List.mem_of_getElem? e1)) (reps_keys k)⟩
/-! the comprehension -/
def shortK : Own → Bool
  | .ti l => l.all fun x => decide (x.1.length ≤ 100)
  | _ => true
def eKComp (i : Nat) (b : Bnd) (c : Envi → R Bool) (e : Envi → R Hd) (vs : List Nat) : Envi → R Hd := fun ρ => match ρ[i]? with
  | some (.ow o) => match keysD o with
    | some ds => if shortK o = true then opt3 (runComp b c e vs ds (wipeE (ρ.set i (.fz o.toD)) vs)) else .stuck
    | none => .stuck
  | _ => .stuck
theorem snd_kcomp {us vs : List Nat} {i : Nat} {tg : TG} {b : Bnd} {tt : TT} {c : Envi → R Bool} {e : Envi → R Hd} (hi : i < P.n) (hg : SndG P us tg b) (hc : SndT P m W0 tt c) (he : SndE P m W0 te e) (hu : ∀ u ∈ us, u ∈ vs := by decide) :
    SndE P m W (tLockE (tLc (iKeys (tVar i)) tg tt te vs)) (eKComp i b c e vs) := fun B F0 F H σ ob ρ Q w q => by
  unfold eKComp at q
  cases e1 : ρ[i]? with
  | none => rw [e1] at q; exact q.elim
  | some s =>
    rw [e1] at q
    cases s with
    | ow o =>
      dsimp only at q
      cases e2 : keysD o with
      | none => rw [e2] at q; exact q.elim
      | some ds =>
        rw [e2] at q
        dsimp only at q
        split at q
        · rename_i hsh
          obtain ⟨a, ho, t1, t2, t3, fa, ba, wl⟩ := w.lockSlot e1 e2
          have hσ : σ[i]? = some (some (.ref a)) := by rw [← tau_lt (by rw [w.n]; exact hi)]; exact t1
          have nt : ∀ us, ho ≠ .tup us := fun us => t3.notTup
          have key : Mut (some ho) ∧ (∀ us, ho ≠ .lst us) ∧ ds.length ≤ sizeLine ∧ ∀ (od : Obj) (R : It → Hp → Prop), (∀ J, ItOk P.K J (upd F a (.frz od ho)) ds → R J (upd H a (.frz od ho))) → iKeys (tVar i) σ (upd H a (.frz od ho)) R := by
            cases o with
            | li l => cases e2
            | di l =>
              obtain ⟨kvs, rfl, g2, g3⟩ := t3
              cases e2
              have hk : (l.map fun x => dOfK x.1) = kvs.map fun x => dOfK x.1 := by
                have := g3.keys
                have h2 := congrArg (List.map dOfK) this
                rw [List.map_map, List.map_map] at h2
                exact h2.symm
              refine ⟨True.intro, (fun us z => nomatch z), ?_, fun od R h => ⟨_, hσ, a, od, rfl, .inl ⟨kvs, upd_same, h _ ?_⟩⟩⟩
              · rw [hk, List.length_map]; exact g2
              · rw [hk]; exact itOk_keys upd_same
            | ti l =>
              obtain ⟨kvs, rfl, g2, g3⟩ := t3
              cases e2
              have hk : (l.map fun x => D.tup (x.1.map dOfK)) = kvs.map fun x => D.tup (x.1.map dOfK) := by
                have := g3.keys
                have h2 := congrArg (List.map fun k : List Key => D.tup (k.map dOfK)) this
                rw [List.map_map, List.map_map] at h2
                exact h2.symm
              refine ⟨True.intro, (fun us z => nomatch z), ?_, fun od R h => ⟨_, hσ, a, od, rfl, .inr ⟨kvs, upd_same, h _ ?_⟩⟩⟩
              · rw [hk, List.length_map]; exact g2
              · rw [hk]
                refine itOk_keysT upd_same fun x hx => ?_
                have hm : x.1 ∈ l.map (·.1) := by rw [← g3.keys]; exact List.mem_map.mpr ⟨x, hx, rfl⟩
                obtain ⟨y, hy, e3⟩ := List.mem_map.mp hm
                have hsh : (l.all fun x => decide (x.1.length ≤ 100)) = true := hsh
                have := of_decide_eq_true (List.all_eq_true.mp hsh y hy)
                rw [← e3]
                exact Nat.le_trans this (by decide)
          obtain ⟨mu, nl, hsz, hkeys⟩ := key
          refine ⟨a, ho, t2, mu, fun od => ?_⟩
          have f0 : F0 a = none := w.ff.free fa
          refine comp_at (m := m) (W := W) (wl od) hsz (hkeys od) hg hc he ?_ hu
          cases e3 : opt3 (runComp b c e vs ds (wipeE (ρ.set i (.fz o.toD)) vs)) with
          | stuck => rw [e3] at q; exact q.elim
          | exc x ρ2 =>
            cases e4 : runComp b c e vs ds (wipeE (ρ.set i (.fz o.toD)) vs) with
            | none => rw [e4] at e3; cases e3
            | some y => rw [e4] at e3; cases e3
          | ok hd ρ2 =>
            rw [e3] at q
            cases e4 : runComp b c e vs ds (wipeE (ρ.set i (.fz o.toD)) vs) with
            | none => rw [e4] at e3; cases e3
            | some y =>
              obtain ⟨l, ρ3⟩ := y
              rw [e4] at e3
              cases e3
              rintro B' F' H' ob' v w' s i' ⟨D, hD, rfl, rfl, bD, fD, hr⟩
              have hF : F' a = some (.frz od ho) := s _ _ upd_same
              have hH : H' a = some (.frz od ho) := w'.fh _ _ hF
              have hDa : D ≠ a := ne_of_some_none hF fD
              have ba' : (upd B D hD) a = none := by rw [upd_ne hDa.symm]; exact ba
              have un := unl_upd hF nt nl
              refine ⟨hH, ?_⟩
              refine q (upd B D hD) (upd F' a ho) (upd H' a ho) ob' _ (w'.unlock hF nt nl f0 ba') (fun b x e => ?_) i' ⟨D, hD, rfl, rfl, bD, by rw [upd_ne hDa]; exact fD, hr.unl un⟩
              have hb : b ≠ a := ne_of_none e fa
              rw [upd_ne hb]
              exact s _ _ (by rw [upd_ne hb]; exact e)
        · exact q.elim
    | _ => exact q.elim
end
end Pv

set_option Elab.async false
set_option linter.all false
set_option maxRecDepth 100000
namespace Pv
open PySem PySem.Spec PyProof.Rows L2
/-! equations to compute with -/
section
variable {ρ : Envi} {i k n : Nat} {d a b z : D} {o : Own} {c : Exc} {f g e : Envi → R Hd}
def dhD (ρ3 : Envi) : Option D → Option D → Hd → R Hd
  | some a, some b, .dat z => dg5 a b z ρ3 (dLook a b)
  | _, _, _ => .stuck
def dhC (h k x : Hd) (ρ3 : Envi) : R Hd := dhD ρ3 (deref ρ3 h) (deref ρ3 k) x
def dhB (h : Hd) (e : Envi → R Hd) (k : Hd) (ρ2 : Envi) : R Hd := (eMat e ρ2).bind (dhC h k)
def dhE (g e : Envi → R Hd) (h : Hd) (ρ1 : Envi) : Option D → R Hd
  | some a0 => if isDictD a0 = true then (g ρ1).frz.bind (dhB h e) else .stuck
  | none => .stuck
def dhA (g e : Envi → R Hd) (h : Hd) (ρ1 : Envi) : R Hd := dhE g e h ρ1 (deref ρ1 h)
@[simp] theorem y_dhD : dhD ρ (some a) (some b) (.dat z) = dg5 a b z ρ (dLook a b) := id rfl
@[simp] theorem y_dhC {h k x : Hd} : dhC h k x ρ = dhD ρ (deref ρ h) (deref ρ k) x := id rfl
@[simp] theorem y_dhB {h k : Hd} : dhB h e k ρ = (eMat e ρ).bind (dhC h k) := id rfl
@[simp] theorem y_dhE {h : Hd} : dhE g e h ρ (some a) = if isDictD a = true then (g ρ).frz.bind (dhB h e) else .stuck := id rfl
@[simp] theorem y_dhA {h : Hd} : dhA g e h ρ = dhE g e h ρ (deref ρ h) := id rfl
@[simp] theorem y_dget3 : eDGet3 f g e ρ = (f ρ).frz.bind (dhA g e) := by
  unfold eDGet3
  refine bind_congr fun h ρ1 => ?_
  show _ = dhE g e h ρ1 (deref ρ1 h)
  cases deref ρ1 h with
  | none => rfl
  | some a0 =>
    show (if _ then _ else _) = (if _ then _ else _)
    split
    · refine bind_congr fun k ρ2 => ?_
      refine bind_congr fun x ρ3 => ?_
      show _ = dhD ρ3 (deref ρ3 h) (deref ρ3 k) x
      cases deref ρ3 h with
      | none => rfl
      | some a =>
        cases deref ρ3 k with
        | none => rfl
        | some b => cases x <;> rfl
    · rfl
def kcC (i : Nat) (b : Bnd) (c : Envi → R Bool) (e : Envi → R Hd) (vs : List Nat) (ρ : Envi) (o : Own) : Option (List D) → R Hd
  | some ds => if shortK o = true then opt3 (runComp b c e vs ds (wipeE (ρ.set i (.fz o.toD)) vs)) else .stuck
  | none => .stuck
def kcA (i : Nat) (b : Bnd) (c : Envi → R Bool) (e : Envi → R Hd) (vs : List Nat) (ρ : Envi) : Option Slot → R Hd
  | some (.ow o) => kcC i b c e vs ρ o (keysD o)
  | _ => .stuck
@[simp] theorem y_kcomp {b : Bnd} {c : Envi → R Bool} {vs : List Nat} : eKComp i b c e vs ρ = kcA i b c e vs ρ ρ[i]? := by
  unfold eKComp
  cases ρ[i]? with
  | none => rfl
  | some s =>
    cases s with
    | ow o =>
      show _ = kcC i b c e vs ρ o (keysD o)
      dsimp only
      cases keysD o <;> rfl
    | _ => rfl
@[simp] theorem y_kcA {b : Bnd} {c : Envi → R Bool} {vs : List Nat} : kcA i b c e vs ρ (some (.ow o)) = kcC i b c e vs ρ o (keysD o) := id rfl
@[simp] theorem y_kcC {b : Bnd} {c : Envi → R Bool} {vs : List Nat} {ds : List D} : kcC i b c e vs ρ o (some ds) = if shortK o = true then opt3 (runComp b c e vs ds (wipeE (ρ.set i (.fz o.toD)) vs)) else .stuck := id rfl
@[simp] theorem y_keys_t {l : List (List Key × D)} : keysD (.ti l) = some (l.map fun x => .tup (x.1.map dOfK)) := id rfl
@[simp] theorem y_keys_i {l : List (Key × D)} : keysD (.di l) = some (l.map fun x => dOfK x.1) := id rfl
end
end Pv


set_option Elab.async false
set_option linter.all false
set_option maxRecDepth 100000
set_option maxHeartbeats 4000000
namespace Fw
open PySem PySem.Spec PyProof.Rows L2 Pv
-- %
def sem_is_whole : Sem :=
  (sRet (eIf (tsE (eCB fIsi (aCons (eVar 0) (aCons (eC (.ty "int")) aNil)))) (eOfT (tsNot (tsE (eCB fIsi (aCons (eVar 0) (aCons (eC (.ty "bool")) aNil)))))) (eC (.bl false))))
-- %
def fs_is_whole : List D → Rf := fsOf 1 sem_is_whole
-- %
def sem_between : Sem :=
  (sRet (eIf (tsE (eCall fs_is_whole (aCons (eVar 0) aNil))) (eChain opLe opLe (eVar 1) (eVar 0) (eVar 2)) (eC (.bl false))))
-- %
def fs_between : List D → Rf := fsOf 3 sem_between
-- %
def sem_is_arrow : Sem :=
  (sSeq (sIf (tsOr (tsNot (tsE (eCB fIsi (aCons (eVar 0) (aCons (eC (.ty "tuple")) aNil))))) (tsE (eBin opNe (eCB fLen (aCons (eVar 0) aNil)) (eC (.int 3))))) (sRet (eC (.bl false))) sNext)
    (sSeq (sIf (tsOr (tsNot (tsE (eCall fs_between (aCons (eBin opIx (eVar 0) (eC (.int 0))) (aCons (eC (.int 0)) (aCons (eBin opSub (eVar 1) (eC (.int 1))) aNil)))))) (tsNot (tsE (eCall fs_between (aCons (eBin opIx (eVar 0) (eC (.int 1))) (aCons (eC (.int 0)) (aCons (eBin opSub (eVar 1) (eC (.int 1))) aNil))))))) (sRet (eC (.bl false))) sNext)
    (sRet (eIf (tsE (eBin opNe (eBin opIx (eVar 0) (eC (.int 0))) (eBin opIx (eVar 0) (eC (.int 1))))) (eCall fs_between (aCons (eBin opIx (eVar 0) (eC (.int 2))) (aCons (eC (.int 1)) (aCons (eC (.int 99)) aNil)))) (eC (.bl false))))))
-- %
def fs_is_arrow : List D → Rf := fsOf 2 sem_is_arrow
-- %
def ce_is_web_1 : Envi → R Hd :=
  (eCall fs_is_arrow (aCons (eVar 2) (aCons (eBin opIx (eVar 0) (eC (.int 0))) aNil)))
-- %
def ce_is_web_2 : Envi → R Hd :=
  (eBin opLtA (eSl (opSl false) (eBin opIx (eVar 1) (eVar 3)) pNo (pSome (eC (.int 2)))) (eSl (opSl false) (eBin opIx (eVar 1) (eBin opAdd (eVar 3) (eC (.int 1)))) pNo (pSome (eC (.int 2)))))
-- %
def sem_is_web : Sem :=
  (sSeq (sIf (tsOr (tsNot (tsE (eCB fIsi (aCons (eVar 0) (aCons (eC (.ty "tuple")) aNil))))) (tsOr (tsE (eBin opNe (eCB fLen (aCons (eVar 0) aNil)) (eC (.int 2)))) (tsNot (tsE (eCall fs_between (aCons (eBin opIx (eVar 0) (eC (.int 0))) (aCons (eC (.int 1)) (aCons (eC (.int 7)) aNil)))))))) (sRet (eC (.bl false))) sNext)
    (sSeq (sSet 1 (eBin opIx (eVar 0) (eC (.int 1))))
    (sSeq (sIf (tsOr (tsNot (tsE (eCB fIsi (aCons (eVar 1) (aCons (eC (.ty "tuple")) aNil))))) (tsNot (tsE (eCB fAll (aCons (eComp (itBy tupOf (eVar 1)) (bN 2) tTrue ce_is_web_1 [2]) aNil))))) (sRet (eC (.bl false))) sNext)
    (sRet (eCB fAll (aCons (eComp (itRng1 (aCons (eBin opSub (eCB fLen (aCons (eVar 1) aNil)) (eC (.int 1))) aNil)) (bN 3) tTrue ce_is_web_2 [3]) aNil))))))
-- %
def fs_is_web : List D → Rf := fsOf 4 sem_is_web
-- %
def sem_checked : Sem :=
  (sSeq (sIf (tsNot (tsE (eCall fs_is_web (aCons (eVar 0) aNil)))) (sRaise .noWeb) sNext)
    (sRet (eVar 0)))
-- %
def fs_checked : List D → Rf := fsOf 1 sem_checked
-- %
def ce_need_row_1 : Envi → R Hd :=
  (eCall fs_is_whole (aCons (eVar 2) aNil))
-- %
def sem_need_row : Sem :=
  (sSeq (sDrop (eCall fs_checked (aCons (eVar 0) aNil)))
    (sSeq (sIf (tsOr (tsNot (tsE (eCB fIsi (aCons (eVar 1) (aCons (eC (.ty "tuple")) aNil))))) (tsNot (tsE (eCB fAll (aCons (eComp (itBy tupOf (eVar 1)) (bN 2) tTrue ce_need_row_1 [2]) aNil))))) (sRaise .noRow) sNext)
    (sIf (tsE (eBin opNe (eCB fSorted (aCons (eCB fList (aCons (eVar 1) aNil)) aNil)) (eLRg1 (eBin opIx (eVar 0) (eC (.int 0)))))) (sRaise .noRow) sNext)))
-- %
def fs_need_row : List D → Rf := fsOf 3 sem_need_row
-- %
def ce_turned_by_1 : Envi → R Hd :=
  (eTup (aCons (eVar 4) (aCons (eVar 3) aNil)))
-- %
def ct_turned_by_2 : Envi → R Bool :=
  (tsE (eBin opGt (eBin opDGet (eVar 2) (eBin opIx (eVar 5) (eC (.int 0)))) (eBin opDGet (eVar 2) (eBin opIx (eVar 5) (eC (.int 1))))))
-- %
def sem_turned_by : Sem :=
  (sSeq (sSet 2 (eCB fDictK (aCons (eComp (itEnumT (aCons (eMat (eVar 1)) aNil)) (bT 2 (bsCons (bN 3) (bsCons (bN 4) bsNil))) tTrue ce_turned_by_1 [3, 4]) aNil)))
    (sRet (eComp (itBy tupOf (eBin opIx (eVar 0) (eC (.int 1)))) (bN 5) ct_turned_by_2 (eVar 5) [5])))
-- %
def fs_turned_by : List D → Rf := fsOf 6 sem_turned_by
-- %
def sem_turned : Sem :=
  (sSeq (sDrop (eCall fs_need_row (aCons (eVar 0) (aCons (eVar 1) aNil))))
    (sRet (eCall fs_turned_by (aCons (eVar 0) (aCons (eVar 1) aNil)))))
-- %
def fs_turned : List D → Rf := fsOf 2 sem_turned
-- %
def ce_weight_of_1 : Envi → R Hd :=
  (eBin opIx (eVar 2) (eC (.int 2)))
-- %
def sem_weight_of : Sem :=
  (sRet (eCB fSum (aCons (eComp (itBy lstOf (eCall fs_turned_by (aCons (eVar 0) (aCons (eVar 1) aNil)))) (bN 2) tTrue ce_weight_of_1 [2]) aNil)))
-- %
def fs_weight_of : List D → Rf := fsOf 3 sem_weight_of
-- %
def sem_weight : Sem :=
  (sSeq (sDrop (eCall fs_need_row (aCons (eVar 0) (aCons (eVar 1) aNil))))
    (sRet (eCall fs_weight_of (aCons (eVar 0) (aCons (eVar 1) aNil)))))
-- %
def fs_weight : List D → Rf := fsOf 2 sem_weight
-- %
def sem_L_cell_at : Sem :=
  (sSeq (sIf (tsE (eBin opLtA (eVar 1) (eCB fLen (aCons (eVar 0) aNil)))) (sRet (eBin opIx (eVar 0) (eVar 1))) sNext)
    (sSeq (sIf (tsE (eBin opEq (eVar 0) (eLst aNil))) (sRet (eC (.int 0))) sNext)
    (sRet (eBin opAdd (eBin opMul (eBin opIx (eVar 0) (eBin opMod (eVar 1) (eCB fLen (aCons (eVar 0) aNil)))) (eC (.int 31))) (eVar 1)))))
-- %
def fs_L_cell_at : List D → Rf := fsOf 2 sem_L_cell_at
-- %
def sem_L_mixed : Sem :=
  (sSeq (sSet 3 (eBin opMod (eBin opMul (eBin opAdd (eBin opAdd (eCall fs_L_cell_at (aCons (eVar 0) (aCons (eVar 1) aNil))) (eBin opMul (eC (.int 7919)) (eVar 1))) (eC (.int 1))) (eC (.int 48271))) (eC (.int 2147483647))))
    (sRet (eBin opMod (eBin opMod (eBin opAdd (eBin opAdd (eBin opMul (eVar 3) (eVar 3)) (eBin opMul (eC (.int 7)) (eVar 3))) (eVar 1)) (eC (.int 2147483629))) (eVar 2))))
-- %
def fs_L_mixed : List D → Rf := fsOf 4 sem_L_mixed
-- %
def bd_L_web_1 : Sem :=
  (sSeq (sSet 9 (eCall fs_L_mixed (aCons (eVar 0) (aCons (eBin opAdd (eBin opAdd (eBin opAdd (eVar 1) (eC (.int 3))) (eBin opMul (eC (.int 5)) (eVar 7))) (eVar 8)) (aCons (eBin opMul (eC (.int 10)) (eVar 5)) aNil)))))
    (sIf (tsAnd (tsE (eBin opNe (eVar 7) (eVar 8))) (tsE (eBin opLtA (eBin opMod (eVar 9) (eC (.int 10))) (eVar 4)))) (sDrop (eMut 6 okT "list" muAppend (aCons (eTup (aCons (eVar 7) (aCons (eVar 8) (aCons (eBin opAdd (eC (.int 1)) (eBin opDiv (eVar 9) (eC (.int 10)))) aNil)))) aNil))) sNext))
-- %
def bd_L_web_2 : Sem :=
  (sFor (itRng1 (aCons (eVar 3) aNil)) (bN 8) bd_L_web_1)
-- %
def sem_L_web : Sem :=
  (sSeq (sSet 3 (eBin opAdd (eC (.int 1)) (eCall fs_L_mixed (aCons (eVar 0) (aCons (eVar 1) (aCons (eVar 2) aNil))))))
    (sSeq (sSet 4 (eBin opAdd (eC (.int 3)) (eCall fs_L_mixed (aCons (eVar 0) (aCons (eBin opAdd (eVar 1) (eC (.int 1))) (aCons (eC (.int 6)) aNil))))))
    (sSeq (sSet 5 (eBin opIx (eLst (aCons (eC (.int 1)) (aCons (eC (.int 3)) (aCons (eC (.int 9)) (aCons (eC (.int 99)) aNil))))) (eCall fs_L_mixed (aCons (eVar 0) (aCons (eBin opAdd (eVar 1) (eC (.int 2))) (aCons (eC (.int 4)) aNil))))))
    (sSeq (sSet 6 (eLst aNil))
    (sSeq (sFor (itRng1 (aCons (eVar 3) aNil)) (bN 7) bd_L_web_2)
    (sRet (eTup (aCons (eVar 3) (aCons (eCB fTup (aCons (eVar 6) aNil)) aNil)))))))))
-- %
def fs_L_web : List D → Rf := fsOf 10 sem_L_web
-- %
def bd_L_row_1 : Sem :=
  (sDrop (eMut 4 okT "list" muAppend (aCons (eMut 3 okT "list" muPopAt (aCons (eCall fs_L_mixed (aCons (eVar 0) (aCons (eBin opAdd (eVar 1) (eVar 5)) (aCons (eCB fLen (aCons (eVar 3) aNil)) aNil)))) aNil)) aNil)))
-- %
def sem_L_row : Sem :=
  (sSeq (sSet 3 (eLRg1 (eVar 2)))
    (sSeq (sSet 4 (eLst aNil))
    (sSeq (sFor (itRng1 (aCons (eVar 2) aNil)) (bN 5) bd_L_row_1)
    (sRet (eCB fTup (aCons (eVar 4) aNil))))))
-- %
def fs_L_row : List D → Rf := fsOf 6 sem_L_row
-- %
def bd_L_weight_1 : Sem :=
  (sIf (tsE (eBin opGt (eMeth isKT opIndexT (eVar 1) (aCons (eVar 3) aNil)) (eMeth isKT opIndexT (eVar 1) (aCons (eVar 4) aNil)))) (sSet 2 (eBin opAdd (eVar 2) (eVar 5))) sNext)
-- %
def sem_L_weight : Sem :=
  (sSeq (sSet 2 (eC (.int 0)))
    (sSeq (sFor (itBy tupOf (eBin opIx (eVar 0) (eC (.int 1)))) (bT 3 (bsCons (bN 3) (bsCons (bN 4) (bsCons (bN 5) bsNil)))) bd_L_weight_1)
    (sRet (eVar 2))))
-- %
def fs_L_weight : List D → Rf := fsOf 6 sem_L_weight
-- %
def ce_weights_of_1 : Envi → R Hd :=
  (eTup (aCons (eTup (aCons (eVar 1) (aCons (eVar 2) aNil))) (aCons (eVar 3) aNil)))
-- %
def sem_weights_of : Sem :=
  (sRet (eCB fDictT (aCons (eComp (itBy tupOf (eBin opIx (eVar 0) (eC (.int 1)))) (bT 3 (bsCons (bN 1) (bsCons (bN 2) (bsCons (bN 3) bsNil)))) tTrue ce_weights_of_1 [1, 2, 3]) aNil)))
-- %
def fs_weights_of : List D → Rf := fsOf 4 sem_weights_of
-- %
def ce_turned_about_1 : Envi → R Hd :=
  (eTup (aCons (eVar 2) (aCons (eVar 1) (aCons (eVar 3) aNil))))
-- %
def sem_turned_about : Sem :=
  (sSeq (sDrop (eCall fs_checked (aCons (eVar 0) aNil)))
    (sRet (eTup (aCons (eBin opIx (eVar 0) (eC (.int 0))) (aCons (eCB fTup (aCons (eCB fSorted (aCons (eComp (itBy tupOf (eBin opIx (eVar 0) (eC (.int 1)))) (bT 3 (bsCons (bN 1) (bsCons (bN 2) (bsCons (bN 3) bsNil)))) tTrue ce_turned_about_1 [1, 2, 3]) aNil)) aNil)) aNil)))))
-- %
def fs_turned_about : List D → Rf := fsOf 4 sem_turned_about
-- %
def ce_joined_1 : Envi → R Hd :=
  (eTup (aCons (eBin opAdd (eVar 3) (eBin opIx (eVar 0) (eC (.int 0)))) (aCons (eBin opAdd (eVar 4) (eBin opIx (eVar 0) (eC (.int 0)))) (aCons (eVar 5) aNil))))
-- %
def sem_joined : Sem :=
  (sSeq (sDrop (eCall fs_checked (aCons (eVar 0) aNil)))
    (sSeq (sDrop (eCall fs_checked (aCons (eVar 1) aNil)))
    (sSeq (sIf (tsE (eBin opGt (eBin opAdd (eBin opIx (eVar 0) (eC (.int 0))) (eBin opIx (eVar 1) (eC (.int 0)))) (eC (.int 7)))) (sRaise .tooBig) sNext)
    (sSeq (sSet 2 (eComp (itBy tupOf (eBin opIx (eVar 1) (eC (.int 1)))) (bT 3 (bsCons (bN 3) (bsCons (bN 4) (bsCons (bN 5) bsNil)))) tTrue ce_joined_1 [3, 4, 5]))
    (sRet (eTup (aCons (eBin opAdd (eBin opIx (eVar 0) (eC (.int 0))) (eBin opIx (eVar 1) (eC (.int 0)))) (aCons (eBin opAdd (eBin opIx (eVar 0) (eC (.int 1))) (eCB fTup (aCons (eVar 2) aNil))) aNil))))))))
-- %
def fs_joined : List D → Rf := fsOf 6 sem_joined
-- %
def ct_L_rows_1 (rec : List D → Rf) : Envi → R Bool :=
  (tsE (eBin opNe (eVar 4) (eVar 2)))
-- %
def ce_L_rows_2 (rec : List D → Rf) : Envi → R Hd :=
  (eBin opAdd (eTupF (aCons (eVar 2) aNil)) (eVar 3))
-- %
def bd_L_rows_3 (rec : List D → Rf) : Sem :=
  (sDrop (eMut 1 okT "list" muExtend (aCons (eComp (itBy lstOf (eCall rec (aCons (eComp (itBy lstOf (eVar 0)) (bN 4) (ct_L_rows_1 rec) (eVar 4) [4]) aNil))) (bN 3) tTrue (ce_L_rows_2 rec) [3]) aNil)))
-- %
def sem_L_rows (rec : List D → Rf) : Sem :=
  (sSeq (sIf (tsE (eBin opEq (eVar 0) (eLst aNil))) (sRet (eLst (aCons (eTupF aNil) aNil))) sNext)
    (sSeq (sSet 1 (eLst aNil))
    (sSeq (sFor (itBy lstOf (eVar 0)) (bN 2) (bd_L_rows_3 rec))
    (sRet (eVar 1)))))
-- %
def fs_L_rows : Nat → List D → Rf
  | 0 => fun _ => .stuck
  | n + 1 => fsOf 5 (sem_L_rows (fs_L_rows n))
-- %
end Fw

set_option Elab.async false
set_option linter.all false
set_option maxRecDepth 100000
namespace Fw
open PySem PySem.Spec PyProof.Rows L2 Pv
open PySem.W (Datum DatumOrd Tup T3 T4)
/-! all rows of some things, in order -/
def rowsL : Nat → List Int → List (List Int)
  | 0, _ => [[]]
  | k + 1, l => l.flatMap fun x => (rowsL k (l.filter fun y => decide (y ≠ x))).map (x :: ·)
theorem cons_filter_perm {x : Int} : ∀ {l : List Int}, x ∈ l → l.Nodup → (x :: l.filter fun y => decide (y ≠ x)).Perm l
  | [], h, _ => nomatch h
  | a :: l, h, hn => by
    obtain ⟨h1, h2⟩ := List.nodup_cons.mp hn
    by_cases e : a = x
    · subst e
      rw [List.filter_cons_of_neg (by simp), List.filter_eq_self.mpr (fun y hy => by
        have : y ≠ a := fun z => h1 (z ▸ hy)
        simpa using this)]
    · rw [List.filter_cons_of_pos (by simpa using e)]
      have hx : x ∈ l := by
        rcases List.mem_cons.mp h with z | z
        · exact absurd z.symm e
        · exact z
      exact (List.Perm.swap a x _).trans ((cons_filter_perm hx h2).cons a)
theorem filter_ne_len {x : Int} {l : List Int} {k : Nat} (h : x ∈ l) (hn : l.Nodup) (hk : l.length = k + 1) : (l.filter fun y => decide (y ≠ x)).length = k := by
  have := (cons_filter_perm h hn).length_eq
  rw [List.length_cons] at this
  omega
theorem mem_rowsL : ∀ {k : Nat} {l q : List Int}, l.Nodup → l.length = k → (q ∈ rowsL k l ↔ q.Perm l)
  | 0, l, q, hn, hk => by
    have : l = [] := List.eq_nil_of_length_eq_zero hk
    subst this
    rw [List.perm_nil]
    simp [rowsL]
  | k + 1, l, q, hn, hk => by
    unfold rowsL
    rw [List.mem_flatMap]
    constructor
    · rintro ⟨x, hx, hq⟩
      obtain ⟨t, ht, rfl⟩ := List.mem_map.mp hq
      have := (mem_rowsL (hn.filter _) (filter_ne_len hx hn hk)).mp ht
      exact (this.cons x).trans (cons_filter_perm hx hn)
    · intro hp
      cases q with
      | nil => rw [List.nil_perm] at hp; subst hp; cases hk
      | cons x t =>
        have hx : x ∈ l := hp.subset List.mem_cons_self
        refine ⟨x, hx, List.mem_map.mpr ⟨t, ?_, rfl⟩⟩
        rw [mem_rowsL (hn.filter _) (filter_ne_len hx hn hk)]
        exact (List.perm_cons x).mp (hp.trans (cons_filter_perm hx hn).symm)
theorem nodup_rowsL : ∀ {k : Nat} {l : List Int}, l.Nodup → l.length = k → (rowsL k l).Nodup
  | 0, l, hn, hk => by simp [rowsL]
  | k + 1, l, hn, hk => by
    have key : ∀ is : List Int, is.Nodup → (∀ x ∈ is, x ∈ l) → (is.flatMap fun x => (rowsL k (l.filter fun y => decide (y ≠ x))).map (x :: ·)).Nodup := by
      intro is
      induction is with
      | nil => intro _ _; exact List.nodup_nil
      | cons x is ih =>
        intro h1 h2
        obtain ⟨h3, h4⟩ := List.nodup_cons.mp h1
        rw [List.flatMap_cons]
        refine List.nodup_append.mpr ⟨?_, ih h4 fun y hy => h2 y (List.mem_cons_of_mem _ hy), fun a ha b hb e => ?_⟩
        · have := nodup_rowsL (hn.filter fun y => decide (y ≠ x)) (filter_ne_len (h2 x List.mem_cons_self) hn hk)
          exact List.pairwise_map.mpr (this.imp fun e z => e (List.cons.inj z).2)
        · subst e
          obtain ⟨t, _, rfl⟩ := List.mem_map.mp ha
          obtain ⟨y, hy, hb⟩ := List.mem_flatMap.mp hb
          obtain ⟨u, _, hu⟩ := List.mem_map.mp hb
          rw [(List.cons.inj hu).1] at hy
          exact h3 hy
    exact key l hn fun x hx => hx
def rowsN (n : Nat) : List (List Int) := rowsL n (intsN n)
theorem mem_rowsN {n : Nat} {r : List Int} : r ∈ rowsN n ↔ RowOk n r := by
  unfold rowsN
  rw [mem_rowsL (ints_nodup n) (ints_len n)]
  exact ⟨fun h => ⟨h⟩, fun h => h.p⟩
theorem nodup_rowsN (n : Nat) : (rowsN n).Nodup := nodup_rowsL (ints_nodup n) (ints_len n)
theorem rowOk_ints (n : Nat) : RowOk n (intsN n) := ⟨.refl _⟩
theorem rowsN_ne (n : Nat) : rowsN n ≠ [] := fun h => by
  have := mem_rowsN.mpr (rowOk_ints n)
  rw [h] at this
  cases this
/-! the least of some numbers, and how often it is there -/
def summ (l : List Int) : Option (Int × Nat) := match l.min? with
  | none => none
  | some m => some (m, l.count m)
theorem min?_is {l : List Int} {m : Int} : l.min? = some m ↔ m ∈ l ∧ ∀ x ∈ l, m ≤ x := List.min?_eq_some_iff
theorem min?_ex {l : List Int} (h : l ≠ []) : ∃ m, l.min? = some m := by
  cases e : l.min? with
  | none => exact absurd (List.min?_eq_none_iff.mp e) h
  | some m => exact ⟨m, rfl⟩
theorem summ_none {l : List Int} : summ l = none ↔ l = [] := by
  unfold summ
  cases e : l.min? with
  | none => simp [List.min?_eq_none_iff.mp e]
  | some m =>
    have := (min?_is.mp e).1
    constructor
    · intro z; cases z
    · rintro rfl; cases this
theorem summ_some {l : List Int} {m : Int} {c : Nat} : summ l = some (m, c) ↔ (m ∈ l ∧ ∀ x ∈ l, m ≤ x) ∧ c = l.count m := by
  unfold summ
  cases e : l.min? with
  | none =>
    have := List.min?_eq_none_iff.mp e
    subst this
    constructor
    · intro z; cases z
    · rintro ⟨⟨h, _⟩, _⟩; cases h
  | some k =>
    have hk := min?_is.mp e
    constructor
    · intro z; cases z; exact ⟨hk, rfl⟩
    · rintro ⟨h, rfl⟩
      have : k = m := by have := hk.2 m h.1; have := h.2 k hk.1; omega
      subst this; rfl
def joinS (R : List (Int × Nat)) : Option (Int × Nat) := match (R.map (·.1)).min? with
  | none => none
  | some m => some (m, ((R.filter fun p => decide (p.1 = m)).map (·.2)).sum)
theorem count_join {m : Int} : ∀ {L : List (List Int)}, (∀ l ∈ L, ∀ x ∈ l, m ≤ x) → L.flatten.count m = (((L.filterMap summ).filter fun p => decide (p.1 = m)).map (·.2)).sum
  | [], _ => rfl
  | l :: L, h => by
    have ih := count_join (m := m) (L := L) fun k hk => h k (List.mem_cons_of_mem _ hk)
    rw [List.flatten_cons, List.count_append, ih]
    cases e : summ l with
    | none =>
      rw [List.filterMap_cons_none e]
      have := summ_none.mp e
      subst this
      simp
    | some p =>
      obtain ⟨k, c⟩ := p
      obtain ⟨⟨h1, h2⟩, h3⟩ := summ_some.mp e
      rw [List.filterMap_cons_some e]
      by_cases hk : k = m
      · subst hk
        rw [List.filter_cons_of_pos (by simp), List.map_cons, List.sum_cons, h3]
      · rw [List.filter_cons_of_neg (by simpa using hk)]
        have : l.count m = 0 := List.count_eq_zero.mpr fun z => by
          have := h2 m z
          have := h l List.mem_cons_self k h1
          omega
        omega
theorem summ_flatten (L : List (List Int)) : summ L.flatten = joinS (L.filterMap summ) := by
  by_cases h : L.flatten = []
  · rw [summ_none.mpr h]
    have : L.filterMap summ = [] := List.filterMap_eq_nil_iff.mpr fun l hl => summ_none.mpr (List.flatten_eq_nil_iff.mp h l hl)
    rw [this]; rfl
  · obtain ⟨m, hm⟩ := min?_ex h
    obtain ⟨h1, h2⟩ := min?_is.mp hm
    have hb : ∀ l ∈ L, ∀ x ∈ l, m ≤ x := fun l hl x hx => h2 x (List.mem_flatten.mpr ⟨l, hl, hx⟩)
    have hm2 : ((L.filterMap summ).map (·.1)).min? = some m := min?_is.mpr ⟨by
        obtain ⟨l, hl, hx⟩ := List.mem_flatten.mp h1
        refine List.mem_map.mpr ⟨(m, l.count m), List.mem_filterMap.mpr ⟨l, hl, summ_some.mpr ⟨⟨hx, hb l hl⟩, rfl⟩⟩, rfl⟩, fun x hx => by
        obtain ⟨⟨k, c⟩, hp, rfl⟩ := List.mem_map.mp hx
        obtain ⟨l, hl, e⟩ := List.mem_filterMap.mp hp
        exact hb l hl k (summ_some.mp e).1.1⟩
    unfold joinS
    rw [hm2, summ_some.mpr ⟨⟨h1, h2⟩, rfl⟩, count_join hb]
theorem summ_map (c : Int) (l : List Int) : summ (l.map (c + ·)) = (summ l).map fun p => (p.1 + c, p.2) := by
  cases e : summ l with
  | none =>
    have := summ_none.mp e
    subst this; rfl
  | some p =>
    obtain ⟨k, d⟩ := p
    obtain ⟨⟨h1, h2⟩, h3⟩ := summ_some.mp e
    rw [Option.map_some]
    refine summ_some.mpr ⟨⟨List.mem_map.mpr ⟨k, h1, by omega⟩, fun x hx => ?_⟩, ?_⟩
    · obtain ⟨y, hy, rfl⟩ := List.mem_map.mp hx
      have := h2 y hy
      dsimp only; omega
    · dsimp only
      rw [h3, Int.add_comm k c, List.count_eq_countP, List.count_eq_countP, List.countP_map]
      congr 1
      funext y
      simp only [Function.comp]
      by_cases hy : y = k
      · subst hy; rw [beq_self_eq_true, beq_self_eq_true]
      · have h : ¬ (c + y = c + k) := by omega
        rw [beq_eq_false_iff_ne.mpr h, beq_eq_false_iff_ne.mpr hy]
end Fw

set_option Elab.async false
set_option linter.all false
set_option maxRecDepth 100000
namespace Fw
open PySem PySem.Spec PyProof.Rows L2 Pv
open PySem.W (Datum DatumOrd Tup T3 T4)
/-! what an order costs -/
def wOf (as : List Ar) (x y : Int) : Int := ((as.filter fun z => decide (z.a = x ∧ z.b = y)).map (·.c)).sum
def backW (w : Int → Int → Int) (p : List Int) (x : Int) : Int := (p.map (w x)).sum
def costs (w : Int → Int → Int) : List Int → List Int → Int
  | _, [] => 0
  | p, x :: q => backW w p x + costs w (p ++ [x]) q
theorem sum_map_add {α : Type} (f g : α → Int) : ∀ l : List α, (l.map fun x => f x + g x).sum = (l.map f).sum + (l.map g).sum
  | [] => rfl
  | x :: l => by
    rw [List.map_cons, List.map_cons, List.map_cons, List.sum_cons, List.sum_cons, List.sum_cons, sum_map_add f g l]; omega
theorem sum_map_zero {α : Type} : ∀ l : List α, (l.map fun _ => (0 : Int)).sum = 0
  | [] => rfl
  | x :: l => by rw [List.map_cons, List.sum_cons, sum_map_zero l]; rfl
theorem backW_add (v w : Int → Int → Int) (p : List Int) (x : Int) : backW (fun x y => v x y + w x y) p x = backW v p x + backW w p x := sum_map_add _ _ _
theorem costs_add (v w : Int → Int → Int) : ∀ q p, costs (fun x y => v x y + w x y) p q = costs v p q + costs w p q
  | [], _ => rfl
  | x :: q, p => by
    unfold costs
    rw [backW_add, costs_add v w q]; omega
theorem costs_zero : ∀ q p, costs (fun _ _ => 0) p q = 0
  | [], _ => rfl
  | x :: q, p => by
    unfold costs
    rw [costs_zero q]
    unfold backW
    rw [sum_map_zero]; rfl
theorem sum_perm {l m : List Int} (h : l.Perm m) : l.sum = m.sum := by
  induction h with
  | nil => rfl
  | cons a _ ih => rw [List.sum_cons, List.sum_cons, ih]
  | swap a b l => rw [List.sum_cons, List.sum_cons, List.sum_cons, List.sum_cons]; omega
  | trans _ _ h1 h2 => rw [h1, h2]
theorem backW_perm {w : Int → Int → Int} {p p' : List Int} (h : p.Perm p') (x : Int) : backW w p x = backW w p' x := sum_perm (h.map _)
theorem idx_self (a : Int) (l : List Int) : (a :: l).idxOf a = 0 := by rw [List.idxOf_cons, beq_self_eq_true]; rfl
theorem idx_ne {x a : Int} (h : ¬ x = a) (l : List Int) : (x :: l).idxOf a = l.idxOf a + 1 := by rw [List.idxOf_cons, beq_eq_false_iff_ne.mpr h]; rfl
theorem costs_perm {w : Int → Int → Int} : ∀ {q p p' : List Int}, p.Perm p' → costs w p q = costs w p' q
  | [], _, _, _ => rfl
  | x :: q, p, p', h => by
    unfold costs
    rw [backW_perm h, costs_perm (q := q) (h.append_right [x])]
theorem backW_one {a b c x : Int} : ∀ {p : List Int}, p.Nodup → backW (fun x y => if a = x ∧ b = y then c else 0) p x = if a = x ∧ b ∈ p then c else 0
  | [], _ => by simp [backW]
  | y :: p, h => by
    obtain ⟨h1, h2⟩ := List.nodup_cons.mp h
    have ih := backW_one (a := a) (b := b) (c := c) (x := x) h2
    unfold backW at ih ⊢
    rw [List.map_cons, List.sum_cons, ih]
    by_cases hx : a = x
    · by_cases hy : b = y
      · subst hy
        simp [hx, h1]
      · simp [hx, hy]
    · simp [hx]
theorem costs_one {a b c : Int} (hab : a ≠ b) : ∀ {q p : List Int}, (p ++ q).Nodup → costs (fun x y => if a = x ∧ b = y then c else 0) p q = if a ∈ q ∧ (b ∈ p ∨ (b ∈ q ∧ q.idxOf b < q.idxOf a)) then c else 0
  | [], p, _ => by simp [costs]
  | x :: q, p, h => by
    have hp : p.Nodup := (List.nodup_append.mp h).1
    have hq := (List.nodup_append.mp h).2.1
    have ih := costs_one (a := a) (b := b) (c := c) hab (q := q) (p := p ++ [x]) (by rw [List.append_assoc]; exact h)
    unfold costs
    rw [backW_one hp, ih]
    have hxq := (List.nodup_cons.mp hq).1
    by_cases hx : a = x
    · subst hx
      simp [hxq, idx_self]
    · by_cases hb : b = x
      · subst hb
        have hx' : ¬ b = a := fun z => hx z.symm
        rw [idx_self, idx_ne hx']
        simp [hx]
      · have hx' : ¬ x = a := fun z => hx z.symm
        have hb' : ¬ x = b := fun z => hb z.symm
        rw [idx_ne hx', idx_ne hb']
        simp [hx, hb]
theorem weightI_cons (z : Ar) (as : List Ar) (r : List Int) : weightI (z :: as) r = (if r.idxOf z.b < r.idxOf z.a then z.c else 0) + weightI as r := by
  unfold weightI turnedL
  by_cases h : r.idxOf z.b < r.idxOf z.a
  · rw [List.filter_cons_of_pos (by simpa using h), List.map_cons, List.sum_cons, if_pos h]
  · rw [List.filter_cons_of_neg (by simpa using h), if_neg h]; omega
theorem wOf_cons (z : Ar) (as : List Ar) : wOf (z :: as) = fun x y => (if z.a = x ∧ z.b = y then z.c else 0) + wOf as x y := by
  funext x y
  unfold wOf
  by_cases h : z.a = x ∧ z.b = y
  · rw [List.filter_cons_of_pos (by simpa using h), List.map_cons, List.sum_cons, if_pos h]
  · rw [List.filter_cons_of_neg (by simpa using h), if_neg h]; omega
theorem costs_weight {r : List Int} (hr : r.Nodup) : ∀ {as : List Ar}, (∀ z ∈ as, z.a ≠ z.b ∧ z.a ∈ r ∧ z.b ∈ r) → costs (wOf as) [] r = weightI as r
  | [], _ => costs_zero r []
  | z :: as, h => by
    obtain ⟨h1, h2, h3⟩ := h z List.mem_cons_self
    rw [wOf_cons, costs_add, weightI_cons, costs_one h1 (by simpa using hr), costs_weight hr fun y hy => h y (List.mem_cons_of_mem _ hy)]
    simp [h2, h3]
theorem costs_web {n : Nat} {as : List Ar} {r : List Int} (h : WebOk n as) (hr : RowOk n r) : costs (wOf as) [] r = weightI as r :=
  costs_weight hr.nodup fun z hz => by
    obtain ⟨h1, h2, h3, h4, h5, _⟩ := h.ar z hz
    exact ⟨h5, hr.mem.mpr ⟨h1, h2⟩, hr.mem.mpr ⟨h3, h4⟩⟩
/-! sets as numbers -/
def stB (S : Nat) (x : Int) : Bool := S.testBit x.toNat
def addB (S : Nat) (x : Int) : Nat := S + 2 ^ x.toNat
theorem bits7 : ∀ S < 128, ∀ i < 7, ∀ j < 7, S.testBit i = false → (S + 2 ^ i).testBit j = (decide (j = i) || S.testBit j) ∧ S + 2 ^ i < 128 := by decide +kernel
theorem stB_add {S : Nat} {x y : Int} (hS : S < 128) (hx : 0 ≤ x ∧ x < 7) (hy : 0 ≤ y ∧ y < 7) (h : stB S x = false) : stB (addB S x) y = (decide (y = x) || stB S y) ∧ addB S x < 128 := by
  obtain ⟨h1, h2⟩ := bits7 S hS x.toNat (by omega) y.toNat (by omega) h
  refine ⟨?_, h2⟩
  unfold stB addB
  rw [h1]
  congr 1
  exact decide_eq_decide.mpr (by omega)
def standN (n S : Nat) : List Int := (intsN n).filter fun x => stB S x
def restN (n S : Nat) : List Int := (intsN n).filter fun x => !stB S x
theorem mem_restN {n S : Nat} {x : Int} : x ∈ restN n S ↔ (0 ≤ x ∧ x < n) ∧ stB S x = false := by
  unfold restN
  rw [List.mem_filter, mem_intsN]
  simp
theorem mem_standN {n S : Nat} {x : Int} : x ∈ standN n S ↔ (0 ≤ x ∧ x < n) ∧ stB S x = true := by
  unfold standN
  rw [List.mem_filter, mem_intsN]
theorem restN_add {n S : Nat} {x : Int} (hn : n ≤ 7) (hS : S < 128) (hx : x ∈ restN n S) : restN n (addB S x) = (restN n S).filter fun y => decide (y ≠ x) := by
  obtain ⟨h1, h2⟩ := mem_restN.mp hx
  unfold restN
  rw [List.filter_filter]
  refine List.filter_congr fun y hy => ?_
  rw [mem_intsN] at hy
  rw [(stB_add hS (by omega) (by omega) h2).1]
  by_cases e : y = x <;> simp [e]
theorem standN_add {n S : Nat} {x : Int} (hn : n ≤ 7) (hS : S < 128) (hx : x ∈ restN n S) : (standN n (addB S x)).Perm (standN n S ++ [x]) := by
  obtain ⟨h1, h2⟩ := mem_restN.mp hx
  have hnd : (standN n S).Nodup := (ints_nodup n).filter _
  refine (List.perm_ext_iff_of_nodup ((ints_nodup n).filter _) ?_).mpr fun y => ?_
  · refine List.nodup_append.mpr ⟨hnd, List.nodup_cons.mpr ⟨List.not_mem_nil, List.nodup_nil⟩, fun a ha b hb e => ?_⟩
    rw [List.mem_singleton] at hb
    subst e; subst hb
    rw [(mem_standN.mp ha).2] at h2
    cases h2
  · show y ∈ standN n (addB S x) ↔ _
    rw [mem_standN, List.mem_append, mem_standN, List.mem_singleton]
    constructor
    · rintro ⟨g1, g2⟩
      rw [(stB_add hS (by omega) (by omega) h2).1, Bool.or_eq_true, decide_eq_true_eq] at g2
      rcases g2 with g2 | g2
      · exact .inr g2
      · exact .inl ⟨g1, g2⟩
    · rintro (⟨g1, g2⟩ | rfl)
      · exact ⟨g1, by rw [(stB_add hS (by omega) (by omega) h2).1, g2, Bool.or_true]⟩
      · exact ⟨h1, by rw [(stB_add hS (by omega) (by omega) h2).1]; simp⟩
theorem restN_nodup (n S : Nat) : (restN n S).Nodup := (ints_nodup n).filter _
theorem restN_len {n S k : Nat} {x : Int} (hn : n ≤ 7) (hS : S < 128) (hk : (restN n S).length = k + 1) (hx : x ∈ restN n S) : (restN n (addB S x)).length = k := by
  rw [restN_add hn hS hx]
  exact filter_ne_len hx (restN_nodup n S) hk
theorem addB_lt {n S : Nat} {x : Int} (hn : n ≤ 7) (hS : S < 128) (hx : x ∈ restN n S) : addB S x < 128 := by
  obtain ⟨h1, h2⟩ := mem_restN.mp hx
  exact (stB_add hS (y := x) (by omega) (by omega) h2).2
theorem restN_zero (n : Nat) : restN n 0 = intsN n := by
  unfold restN stB
  refine List.filter_eq_self.mpr fun x _ => ?_
  simp
theorem standN_zero (n : Nat) : standN n 0 = [] := by
  unfold standN stB
  refine List.filter_eq_nil_iff.mpr fun x _ => ?_
  simp
/-! the least, with pairs that are kept -/
def mayB (K : List (Int × Int)) (S : Nat) (x : Int) : Bool := K.all fun p => !decide (p.2 = x) || stB S p.1
def allowB (K : List (Int × Int)) : Nat → List Int → Bool
  | _, [] => true
  | S, x :: q => mayB K S x && allowB K (addB S x) q
def costM (n : Nat) (w : Int → Int → Int) : Nat → List Int → Int
  | _, [] => 0
  | S, x :: q => backW w (standN n S) x + costM n w (addB S x) q
def costsL (n : Nat) (w : Int → Int → Int) (K : List (Int × Int)) : Nat → Nat → List Int
  | 0, _ => [0]
  | k + 1, S => (restN n S).flatMap fun x => if mayB K S x = true then (costsL n w K k (addB S x)).map (backW w (standN n S) x + ·) else []
def bestM (n : Nat) (w : Int → Int → Int) (K : List (Int × Int)) (k S : Nat) : Option (Int × Nat) := summ (costsL n w K k S)
theorem flatMap_congr' {α β : Type} {f g : α → List β} : ∀ {l : List α}, (∀ x ∈ l, f x = g x) → l.flatMap f = l.flatMap g
  | [], _ => rfl
  | x :: l, h => by rw [List.flatMap_cons, List.flatMap_cons, h x List.mem_cons_self, flatMap_congr' fun y hy => h y (List.mem_cons_of_mem _ hy)]
theorem costsL_eq {n : Nat} {w : Int → Int → Int} {K : List (Int × Int)} (hn : n ≤ 7) : ∀ {k S : Nat}, S < 128 → (restN n S).length = k → costsL n w K k S = ((rowsL k (restN n S)).filter (allowB K S)).map (costM n w S)
  | 0, S, _, _ => rfl
  | k + 1, S, hS, hk => by
    unfold costsL rowsL
    rw [List.filter_flatMap, List.map_flatMap]
    refine flatMap_congr' fun x hx => ?_
    have ih := costsL_eq (w := w) (K := K) hn (k := k) (addB_lt hn hS hx) (restN_len hn hS hk hx)
    rw [restN_add hn hS hx] at ih
    rw [List.filter_map]
    by_cases hm : mayB K S x = true
    · rw [if_pos hm, ih, List.map_map, List.map_map]
      congr 1
      refine List.filter_congr fun q _ => ?_
      show _ = (mayB K S x && allowB K (addB S x) q)
      rw [hm, Bool.true_and]
    · rw [if_neg hm]
      have : (rowsL k ((restN n S).filter fun y => decide (y ≠ x))).filter (allowB K S ∘ fun q => x :: q) = [] := List.filter_eq_nil_iff.mpr fun q _ => by
        show ¬ (mayB K S x && allowB K (addB S x) q) = true
        rw [Bool.and_eq_true]
        exact fun z => hm z.1
      rw [this]; rfl
theorem filterMap_flatMap_summ {n : Nat} {f : Int → List Int} : ∀ {l : List Int}, summ (l.flatMap f) = joinS (l.filterMap fun x => summ (f x)) := fun {l} => by
  rw [List.flatMap_def, summ_flatten, List.filterMap_map]; rfl
def foundR (n : Nat) (w : Int → Int → Int) (K : List (Int × Int)) (k S : Nat) (l : List Int) : List (Int × Nat) :=
  l.filterMap fun x => if (!stB S x && mayB K S x) = true then (bestM n w K k (addB S x)).map fun p => (p.1 + backW w (standN n S) x, p.2) else none
theorem bestM_succ (n : Nat) (w : Int → Int → Int) (K : List (Int × Int)) (k S : Nat) : bestM n w K (k + 1) S = joinS (foundR n w K k S (intsN n)) := by
  unfold bestM costsL
  rw [filterMap_flatMap_summ (n := n)]
  congr 1
  unfold foundR restN
  rw [List.filterMap_filter]
  congr 1
  funext x
  cases h1 : stB S x with
  | true => simp
  | false =>
    by_cases h2 : mayB K S x = true
    · simp only [h2, Bool.not_false, if_true, Bool.and_self]
      rw [summ_map]; rfl
    · simp only [h2, Bool.not_false, if_true, Bool.and_false, Bool.false_eq_true, if_false]
      rfl
theorem bestM_zero (n : Nat) (w : Int → Int → Int) (K : List (Int × Int)) (S : Nat) : bestM n w K 0 S = some (0, 1) := rfl
theorem costM_eq {n : Nat} {w : Int → Int → Int} (hn : n ≤ 7) : ∀ {q p : List Int} {S : Nat}, S < 128 → p.Perm (standN n S) → q.Perm (restN n S) → costM n w S q = costs w p q
  | [], _, _, _, _, _ => rfl
  | x :: q, p, S, hS, hp, hq => by
    have hx : x ∈ restN n S := hq.subset List.mem_cons_self
    unfold costM costs
    rw [backW_perm hp, costM_eq hn (p := p ++ [x]) (addB_lt hn hS hx) ((hp.append_right [x]).trans (standN_add hn hS hx).symm) (by
      rw [restN_add hn hS hx]
      exact (List.perm_cons x).mp (hq.trans (cons_filter_perm hx (restN_nodup n S)).symm))]
theorem costM_web {n : Nat} {as : List Ar} {r : List Int} (h : WebOk n as) (hr : RowOk n r) : costM n (wOf as) 0 r = weightI as r := by
  rw [costM_eq h.n7 (p := []) (by decide) (by rw [standN_zero]) (by rw [restN_zero]; exact hr.p), costs_web h hr]
theorem bestM_web {n : Nat} {as : List Ar} {K : List (Int × Int)} (h : WebOk n as) : bestM n (wOf as) K n 0 = summ (((rowsN n).filter (allowB K 0)).map (weightI as)) := by
  unfold bestM
  rw [costsL_eq h.n7 (by decide) (by rw [restN_zero, ints_len]), restN_zero]
  congr 1
  refine List.map_congr_left fun r hr => costM_web h (mem_rowsN.mp (List.mem_filter.mp hr).1)
/-! the first best order -/
def isBest (n : Nat) (w : Int → Int → Int) (k S : Nat) (x : Int) : Bool := decide ((bestM n w [] k (addB S x)).map (fun p => p.1 + backW w (standN n S) x) = (bestM n w [] (k + 1) S).map (·.1))
def firstM (n : Nat) (w : Int → Int → Int) : Nat → Nat → List Int
  | 0, _ => []
  | k + 1, S => match (restN n S).find? (isBest n w k S) with
    | some x => x :: firstM n w k (addB S x)
    | none => []
theorem allowB_nil : ∀ (q : List Int) (S : Nat), allowB [] S q = true
  | [], _ => rfl
  | x :: q, S => by unfold allowB; rw [allowB_nil q]; rfl
theorem costsL_nil {n : Nat} {w : Int → Int → Int} (hn : n ≤ 7) {k S : Nat} (hS : S < 128) (hk : (restN n S).length = k) : costsL n w [] k S = (rowsL k (restN n S)).map (costM n w S) := by
  rw [costsL_eq hn hS hk, List.filter_eq_self.mpr fun q _ => allowB_nil q S]
theorem findSome_if {α β : Type} {p : α → Bool} {f : α → β} : ∀ {l : List α}, l.findSome? (fun x => if p x = true then some (f x) else none) = (l.find? p).map f
  | [] => rfl
  | x :: l => by
    rw [List.findSome?_cons, List.find?_cons]
    cases h : p x
    · simp only [Bool.false_eq_true, if_false]
      exact findSome_if
    · simp
theorem findSome_congr {α β : Type} {f g : α → Option β} : ∀ {l : List α}, (∀ x ∈ l, f x = g x) → l.findSome? f = l.findSome? g
  | [], _ => rfl
  | x :: l, h => by rw [List.findSome?_cons, List.findSome?_cons, h x List.mem_cons_self, findSome_congr fun y hy => h y (List.mem_cons_of_mem _ hy)]
theorem rowsL_ne {k : Nat} {l : List Int} (hn : l.Nodup) (hk : l.length = k) : rowsL k l ≠ [] := fun z => by
  have := (mem_rowsL hn hk).mpr (List.Perm.refl l)
  rw [z] at this; cases this
theorem firstM_find {n : Nat} {w : Int → Int → Int} (hn : n ≤ 7) : ∀ {k S : Nat}, S < 128 → (restN n S).length = k →
    (rowsL k (restN n S)).find? (fun q => decide (some (costM n w S q) = (bestM n w [] k S).map (·.1))) = some (firstM n w k S)
  | 0, S, _, _ => by simp [rowsL, costM, firstM, bestM_zero]
  | k + 1, S, hS, hk => by
    have hne : costsL n w [] (k + 1) S ≠ [] := by
      rw [costsL_nil hn hS hk]
      exact fun z => rowsL_ne (restN_nodup n S) hk (List.map_eq_nil_iff.mp z)
    obtain ⟨⟨m, c⟩, hb⟩ : ∃ p, bestM n w [] (k + 1) S = some p := by
      cases e : bestM n w [] (k + 1) S with
      | none => exact absurd (summ_none.mp e) hne
      | some p => exact ⟨p, rfl⟩
    have hm := (summ_some.mp hb).1
    have hex : ∃ x ∈ restN n S, isBest n w k S x = true := by
      have h1 := hm.1
      unfold costsL at h1
      obtain ⟨x, hx, h1⟩ := List.mem_flatMap.mp h1
      have : mayB [] S x = true := rfl
      rw [if_pos this] at h1
      obtain ⟨c0, hc0, e0⟩ := List.mem_map.mp h1
      refine ⟨x, hx, ?_⟩
      have hb2 : bestM n w [] k (addB S x) = some (c0, (costsL n w [] k (addB S x)).count c0) := summ_some.mpr ⟨⟨hc0, fun y hy => by
        have := hm.2 (backW w (standN n S) x + y) (by
          unfold costsL
          refine List.mem_flatMap.mpr ⟨x, hx, ?_⟩
          rw [if_pos this]
          exact List.mem_map.mpr ⟨y, hy, rfl⟩)
        omega⟩, rfl⟩
      unfold isBest
      rw [hb2, hb]
      simp; omega
    have step : ∀ x ∈ restN n S, ((rowsL k ((restN n S).filter fun y => decide (y ≠ x))).map (x :: ·)).find? (fun q => decide (some (costM n w S q) = (bestM n w [] (k + 1) S).map (·.1))) = if isBest n w k S x = true then some (x :: firstM n w k (addB S x)) else none := by
      intro x hx
      have hS' := addB_lt hn hS hx
      have hk' := restN_len hn hS hk hx
      have ih := firstM_find (w := w) hn hS' hk'
      rw [← restN_add hn hS hx]
      rw [List.find?_map]
      by_cases hc : isBest n w k S x = true
      · rw [if_pos hc]
        unfold isBest at hc
        have hc := of_decide_eq_true hc
        have : ((fun q => decide (some (costM n w S q) = (bestM n w [] (k + 1) S).map (·.1))) ∘ fun q => x :: q) = fun q => decide (some (costM n w (addB S x) q) = (bestM n w [] k (addB S x)).map (·.1)) := by
          funext q
          rw [Function.comp, ← hc]
          refine decide_eq_decide.mpr ?_
          cases bestM n w [] k (addB S x) with
          | none => simp
          | some p =>
            simp only [Option.map_some, Option.some.injEq]
            show backW w (standN n S) x + costM n w (addB S x) q = p.1 + backW w (standN n S) x ↔ _
            omega
        rw [this, ih]; rfl
      · rw [if_neg hc, Option.map_eq_none_iff, List.find?_eq_none]
        intro q hq z
        have z := of_decide_eq_true z
        refine hc ?_
        have hq2 : costM n w (addB S x) q ∈ costsL n w [] k (addB S x) := by
          rw [costsL_nil hn hS' hk']
          exact List.mem_map.mpr ⟨q, hq, rfl⟩
        rw [hb] at z
        have z : backW w (standN n S) x + costM n w (addB S x) q = m := by
          have z : some (backW w (standN n S) x + costM n w (addB S x) q) = some m := z
          exact Option.some.inj z
        have hb2 : bestM n w [] k (addB S x) = some (costM n w (addB S x) q, (costsL n w [] k (addB S x)).count (costM n w (addB S x) q)) := summ_some.mpr ⟨⟨hq2, fun y hy => by
          have := hm.2 (backW w (standN n S) x + y) (by
            unfold costsL
            refine List.mem_flatMap.mpr ⟨x, hx, ?_⟩
            rw [if_pos (show mayB [] S x = true from rfl)]
            exact List.mem_map.mpr ⟨y, hy, rfl⟩)
          omega⟩, rfl⟩
        unfold isBest
        rw [hb2, hb]
        simp; omega
    unfold rowsL
    rw [List.find?_flatMap, findSome_congr step, findSome_if]
    show Option.map _ _ = some (match (restN n S).find? (isBest n w k S) with | some x => x :: firstM n w k (addB S x) | none => [])
    cases e : (restN n S).find? (isBest n w k S) with
    | none =>
      obtain ⟨x, hx, h1⟩ := hex
      exact absurd h1 (List.find?_eq_none.mp e x hx)
    | some x => rfl
end Fw

set_option Elab.async false
set_option linter.all false
set_option maxRecDepth 100000
set_option maxHeartbeats 2000000
namespace Fw
open PySem PySem.Spec PyProof.Rows L2 Pv
open PySem.W (Datum DatumOrd Tup T3 T4)
/-! the law's helpers: numbers drawn from the script -/
def cell (s : List Int) (k : Nat) : Int := if h : k < s.length then s[k] else if s = [] then 0 else s.getD (k % s.length) 0 * 31 + k
theorem fs_L_cell_at_eq (s : List Int) (k : Nat) : fs_L_cell_at [.klst (s.map .int), .int k] = .fz (.int (cell s k)) := by
  have h1 : opEq (.klst (s.map .int)) (.lst []) = some (.bl (decide (s = []))) := opEq_is (is_klst (iss_ints s)) (is_lst (iss_nil (α := Int))) (by decide)
  by_cases h : k < s.length
  · have e : atI (s.map D.int) (k : Int) = some (.int s[k]) := by
      rw [atI_nat (j := k) (by rw [List.getElem?_map, List.getElem?_eq_getElem h]; rfl)]
    simp [fs_L_cell_at, fsOf, sem_L_cell_at, initE, h, e, cell]
  · have h2 : ¬ ((k : Int) < (s.length : Int)) := by omega
    by_cases hs : s = []
    · subst hs
      have h3 : ¬ ((k : Int) < 0) := by omega
      have h1 : opEq (.klst []) (.lst []) = some (.bl true) := h1
      simp [fs_L_cell_at, fsOf, sem_L_cell_at, initE, h3, h1, cell]
    · have hl : 0 < s.length := List.length_pos_iff.mpr hs
      have hm : k % s.length < s.length := Nat.mod_lt _ hl
      have e : atI (s.map D.int) ((k : Int) % (s.length : Int)) = some (.int (s[k % s.length]?.getD 0)) := by
        rw [show (k : Int) % (s.length : Int) = ((k % s.length : Nat) : Int) from (Int.natCast_emod _ _).symm]
        rw [atI_nat (j := k % s.length) (by rw [List.getElem?_map, List.getElem?_eq_getElem hm]; rfl)]
        rw [List.getElem?_eq_getElem hm]; rfl
      have hc : L2.CMul (s[k % s.length]?.getD 0) 31 := .inr (by decide)
      simp [fs_L_cell_at, fsOf, sem_L_cell_at, initE, h, h2, h1, hs, e, hl, hc, cell]
def drawn (s : List Int) (k : Nat) : Int := (cell s k + 7919 * k + 1) * 48271 % 2147483647
def mixed (s : List Int) (k m : Nat) : Nat := ((drawn s k * drawn s k + 7 * drawn s k + k) % 2147483629 % m).toNat
theorem mixed_lt {s : List Int} {k m : Nat} (h : 0 < m) : mixed s k m < m := by
  unfold mixed
  have h1 := Int.emod_lt_of_pos ((drawn s k * drawn s k + 7 * drawn s k + k) % 2147483629) (show (0 : Int) < m by omega)
  have h2 := Int.emod_nonneg ((drawn s k * drawn s k + 7 * drawn s k + k) % 2147483629) (show (m : Int) ≠ 0 by omega)
  omega
theorem fs_L_mixed_eq (s : List Int) (k m : Nat) (hm : 0 < m) : fs_L_mixed [.klst (s.map .int), .int k, .int m] = .fz (.int (mixed s k m : Nat)) := by
  have hd : 0 ≤ drawn s k ∧ drawn s k < 2147483647 := ⟨Int.emod_nonneg _ (by decide), Int.emod_lt_of_pos _ (by decide)⟩
  have c1 : L2.CMul 7919 k := .inl (by decide)
  have c2 : L2.CMul (cell s k + 7919 * k + 1) 48271 := .inr (by decide)
  have c3 : L2.CMul (drawn s k) (drawn s k) := .inl ⟨by omega, by omega⟩
  have c4 : L2.CMul 7 (drawn s k) := .inl (by decide)
  have e1 : (cell s k + 7919 * k + 1) * 48271 % 2147483647 = drawn s k := rfl
  have e2 : (drawn s k * drawn s k + 7 * drawn s k + k) % 2147483629 % m = (mixed s k m : Nat) := by
    unfold mixed
    rw [Int.toNat_of_nonneg (Int.emod_nonneg _ (by omega))]
  have hm' : (0 : Int) < m := by omega
  simp [fs_L_mixed, fsOf, sem_L_mixed, initE, fs_L_cell_at_eq, c1, c2, e1, c3, c4, hm, e2]
/-! the law's web -/
def wcell (s : List Int) (at_ top i j : Nat) : Nat := mixed s (at_ + 3 + 5 * i + j) (10 * top)
def wrow (s : List Int) (at_ thick top n i : Nat) (js : List Nat) : List Ar :=
  js.filterMap fun j => if i ≠ j ∧ wcell s at_ top i j % 10 < thick then some ⟨(i : Int), (j : Int), 1 + (wcell s at_ top i j : Int) / 10⟩ else none
def wars (s : List Int) (at_ thick top n : Nat) (is : List Nat) : List Ar := is.flatMap fun i => wrow s at_ thick top n i (List.range n)
theorem wrow_len (s : List Int) (at_ thick top n i : Nat) (js : List Nat) : (wrow s at_ thick top n i js).length ≤ js.length := List.length_filterMap_le _ _
theorem wars_len (s : List Int) (at_ thick top n : Nat) : ∀ is : List Nat, (wars s at_ thick top n is).length ≤ is.length * n
  | [] => by simp [wars]
  | i :: is => by
    have h1 := wrow_len s at_ thick top n i (List.range n)
    have h2 := wars_len s at_ thick top n is
    rw [List.length_range] at h1
    show (wrow s at_ thick top n i (List.range n) ++ wars s at_ thick top n is).length ≤ (is.length + 1) * n
    rw [List.length_append, Nat.succ_mul]; omega
theorem bd_L_web_1_eq (s : List Int) (at_ most n thick top i j : Nat) (l : List Ar) (x9 : Slot) (ht : 0 < top) (hl : Small l.length) : ∃ x9', bd_L_web_1 [.fz (.klst (s.map .int)), .fz (.int at_), .fz (.int most), .fz (.int n), .fz (.int thick), .fz (.int top), .ow (.li (l.map arD)), .fz (.int i), .fz (.int j), x9] =
    .nx [.fz (.klst (s.map .int)), .fz (.int at_), .fz (.int most), .fz (.int n), .fz (.int thick), .fz (.int top), .ow (.li ((l ++ wrow s at_ thick top n i [j]).map arD)), .fz (.int i), .fz (.int j), x9'] := by
  have c1 : L2.CMul 5 (i : Int) := .inl (by decide)
  have c2 : L2.CMul 10 (top : Int) := .inl (by decide)
  have e1 : fs_L_mixed [.klst (s.map .int), .int ((at_ : Int) + 3 + 5 * i + j), .int (10 * top)] = .fz (.int (wcell s at_ top i j : Nat)) := by
    have := fs_L_mixed_eq s (at_ + 3 + 5 * i + j) (10 * top) (by omega)
    rw [← show ((at_ + 3 + 5 * i + j : Nat) : Int) = (at_ : Int) + 3 + 5 * i + j by omega, ← show ((10 * top : Nat) : Int) = 10 * (top : Int) by omega]
    exact this
  have c3 : L2.CDivW (wcell s at_ top i j : Nat) 10 := ⟨by decide, by decide⟩
  refine ⟨.fz (.int (wcell s at_ top i j : Nat)), ?_⟩
  by_cases h : i = j
  · subst h
    simp [bd_L_web_1, c1, c2, e1, wrow]
  · have hij : ¬ ((i : Int) = (j : Int)) := by omega
    by_cases h2 : wcell s at_ top i j % 10 < thick
    · have h3 : ((wcell s at_ top i j : Nat) : Int) % 10 < (thick : Int) := by omega
      simp [bd_L_web_1, c1, c2, e1, wrow, h, hij, h2, h3, c3, hl, arD]
    · have h3 : ¬ (((wcell s at_ top i j : Nat) : Int) % 10 < (thick : Int)) := by omega
      simp [bd_L_web_1, c1, c2, e1, wrow, h, hij, h2, h3]


def wenv (s : List Int) (at_ most n thick top : Nat) (l : List Ar) (xs : List Slot) : Envi := [.fz (.klst (s.map .int)), .fz (.int at_), .fz (.int most), .fz (.int n), .fz (.int thick), .fz (.int top), .ow (.li (l.map arD))] ++ xs
theorem web_inner (s : List Int) (at_ most n thick top i : Nat) (ht : 0 < top) (l : List Ar) (x8 x9 : Slot) (hl : l.length + n ≤ 1000) :
    ∃ y8 y9, runFor (bN 8) bd_L_web_1 (nats n) (wenv s at_ most n thick top l [.fz (.int i), x8, x9]) = .nx (wenv s at_ most n thick top (l ++ wrow s at_ thick top n i (List.range n)) [.fz (.int i), y8, y9]) := by
  obtain ⟨ρ', h1, l', z8, z9, h2, h3, _⟩ := runFor_rel (b := bN 8) (g := bd_L_web_1) (enc := fun j : Nat => D.int (j : Int))
      (fun r ρ => ∃ l' z8 z9, ρ = wenv s at_ most n thick top l' [.fz (.int i), z8, z9] ∧ l' ++ wrow s at_ thick top n i r = l ++ wrow s at_ thick top n i (List.range n) ∧ l'.length + r.length ≤ 1000) (by
        rintro j r ρ ⟨l', z8, z9, rfl, h2, h3⟩
        rw [List.length_cons] at h3
        obtain ⟨y9, h4⟩ := bd_L_web_1_eq s at_ most n thick top i j l' z9 ht (small_of (by omega))
        refine ⟨_, _, rfl, .inl h4, l' ++ wrow s at_ thick top n i [j], .fz (.int j), y9, rfl, ?_, ?_⟩
        · rw [← h2, List.append_assoc]
          congr 1
          unfold wrow
          rw [← List.filterMap_append, List.singleton_append]
        · have := wrow_len s at_ thick top n i [j]
          rw [List.length_append]
          simp at this
          omega) (List.range n) _ ⟨l, x8, x9, rfl, rfl, by rw [List.length_range]; exact hl⟩
  refine ⟨z8, z9, ?_⟩
  unfold nats
  rw [h1, h2]
  have : wrow s at_ thick top n i [] = [] := rfl
  rw [this, List.append_nil] at h3
  rw [h3]
theorem bd_L_web_2_eq (s : List Int) (at_ most n thick top i : Nat) (ht : 0 < top) (l : List Ar) (x8 x9 : Slot) (hl : l.length + n ≤ 1000) :
    ∃ y8 y9, bd_L_web_2 (wenv s at_ most n thick top l [.fz (.int i), x8, x9]) = .nx (wenv s at_ most n thick top (l ++ wrow s at_ thick top n i (List.range n)) [.fz (.int i), y8, y9]) := by
  obtain ⟨y8, y9, h⟩ := web_inner s at_ most n thick top i ht l x8 x9 hl
  refine ⟨y8, y9, ?_⟩
  have c1 : SmallI n := smallI_nat (small_of (by omega))
  unfold wenv at h ⊢
  simp only [List.cons_append, List.nil_append] at h ⊢
  simp [bd_L_web_2, c1, h]
theorem web_outer (s : List Int) (at_ most n thick top : Nat) (ht : 0 < top) (hn : n * n + n ≤ 1000) (x7 x8 x9 : Slot) :
    ∃ xs, runFor (bN 7) bd_L_web_2 (nats n) (wenv s at_ most n thick top [] [x7, x8, x9]) = .nx (wenv s at_ most n thick top (wars s at_ thick top n (List.range n)) xs) := by
  have hlen := wars_len s at_ thick top n (List.range n)
  rw [List.length_range] at hlen
  obtain ⟨ρ', h1, l', z7, z8, z9, h2, h3⟩ := runFor_rel (b := bN 7) (g := bd_L_web_2) (enc := fun j : Nat => D.int (j : Int))
      (fun r ρ => ∃ l' z7 z8 z9, ρ = wenv s at_ most n thick top l' [z7, z8, z9] ∧ l' ++ wars s at_ thick top n r = wars s at_ thick top n (List.range n)) (by
        rintro i r ρ ⟨l', z7, z8, z9, rfl, h2⟩
        have hl' : l'.length + n ≤ 1000 := by
          have := congrArg List.length h2
          rw [List.length_append] at this
          omega
        obtain ⟨y8, y9, h4⟩ := bd_L_web_2_eq s at_ most n thick top i ht l' z8 z9 hl'
        refine ⟨_, _, rfl, .inl h4, l' ++ wrow s at_ thick top n i (List.range n), .fz (.int i), y8, y9, rfl, ?_⟩
        rw [← h2, List.append_assoc]
        rfl) (List.range n) _ ⟨[], _, _, _, rfl, rfl⟩
  refine ⟨[z7, z8, z9], ?_⟩
  have h3 : l' = wars s at_ thick top n (List.range n) := by rw [← h3]; exact (List.append_nil _).symm
  unfold nats
  rw [h1, h2, h3]
theorem wars_ok (s : List Int) (at_ thick top n : Nat) (ht : 0 < top) (h99 : top ≤ 99) (h1 : 1 ≤ n) (h7 : n ≤ 7) : WebOk n (wars s at_ thick top n (List.range n)) := by
  have hlen := wars_len s at_ thick top n (List.range n)
  rw [List.length_range] at hlen
  have hnn : n * n ≤ 7 * 7 := Nat.mul_le_mul h7 h7
  refine ⟨h1, h7, ?_, ?_, by omega⟩
  · intro x hx
    obtain ⟨i, hi, hx⟩ := List.mem_flatMap.mp hx
    obtain ⟨j, hj, hx⟩ := List.mem_filterMap.mp hx
    rw [List.mem_range] at hi hj
    split at hx
    · rename_i hc
      cases hx
      have : wcell s at_ top i j < 10 * top := mixed_lt (by omega)
      refine ⟨by show (0 : Int) ≤ i; omega, by show (i : Int) < n; omega, by show (0 : Int) ≤ j; omega, by show (j : Int) < n; omega, by show (i : Int) ≠ j; omega, ?_, ?_⟩
      · show (1 : Int) ≤ 1 + (wcell s at_ top i j : Int) / 10
        omega
      · show 1 + (wcell s at_ top i j : Int) / 10 ≤ 99
        omega
    · cases hx
  · have key : ∀ is : List Nat, is.Pairwise (· < ·) → (wars s at_ thick top n is).Pairwise arLt ∧ ∀ x ∈ wars s at_ thick top n is, ∃ i ∈ is, x.a = (i : Int) := by
      intro is
      induction is with
      | nil => intro _; exact ⟨.nil, fun x hx => nomatch hx⟩
      | cons i is ih =>
        intro hp
        obtain ⟨p1, p2⟩ := List.pairwise_cons.mp hp
        obtain ⟨i1, i2⟩ := ih p2
        have hrow : ∀ js : List Nat, js.Pairwise (· < ·) → (wrow s at_ thick top n i js).Pairwise arLt ∧ ∀ x ∈ wrow s at_ thick top n i js, x.a = (i : Int) ∧ ∃ j ∈ js, x.b = (j : Int) := by
          intro js hjs
          refine ⟨?_, fun x hx => ?_⟩
          · unfold wrow
            rw [List.pairwise_filterMap]
            refine hjs.imp ?_
            intro a b hab x hx y hy
            split at hx
            · split at hy
              · cases hx; cases hy
                exact .inr ⟨rfl, by show (a : Int) < b; omega⟩
              · cases hy
            · cases hx
          · obtain ⟨j, hj, hx⟩ := List.mem_filterMap.mp hx
            split at hx
            · cases hx; exact ⟨rfl, j, hj, rfl⟩
            · cases hx
        obtain ⟨r1, r2⟩ := hrow (List.range n) List.pairwise_lt_range
        have hW : wars s at_ thick top n (i :: is) = wrow s at_ thick top n i (List.range n) ++ wars s at_ thick top n is := rfl
        rw [hW]
        refine ⟨List.pairwise_append.mpr ⟨r1, i1, fun x hx y hy => ?_⟩, fun x hx => ?_⟩
        · obtain ⟨k, hk, e⟩ := i2 y hy
          have := (r2 x hx).1
          have := p1 k hk
          exact .inl (by omega)
        · rcases List.mem_append.mp hx with hx | hx
          · exact ⟨i, List.mem_cons_self, (r2 x hx).1⟩
          · obtain ⟨k, hk, e⟩ := i2 x hx
            exact ⟨k, List.mem_cons_of_mem _ hk, e⟩
    exact (key _ List.pairwise_lt_range).1
theorem top_eq : ∀ tp : Nat, tp < 4 → ∃ top : Nat, atI [D.int 1, D.int 3, D.int 9, D.int 99] (tp : Int) = some (D.int top) ∧ 0 < top ∧ top ≤ 99
  | 0, _ => ⟨1, rfl, by decide, by decide⟩
  | 1, _ => ⟨3, rfl, by decide, by decide⟩
  | 2, _ => ⟨9, rfl, by decide, by decide⟩
  | 3, _ => ⟨99, rfl, by decide, by decide⟩
theorem fs_L_web_eq (s : List Int) (at_ most : Nat) (hm : 0 < most) (h7 : most ≤ 7) : ∃ n as, fs_L_web [.klst (s.map .int), .int at_, .int most] = .fz (webD n as) ∧ WebOk n as ∧ n ≤ most := by
  have e0 := fs_L_mixed_eq s at_ most hm
  have e1 : fs_L_mixed [.klst (s.map .int), .int ((at_ : Int) + 1), .int 6] = _ := fs_L_mixed_eq s (at_ + 1) 6 (by decide)
  have e2 : fs_L_mixed [.klst (s.map .int), .int ((at_ : Int) + 2), .int 4] = _ := fs_L_mixed_eq s (at_ + 2) 4 (by decide)
  have l0 := mixed_lt (s := s) (k := at_) hm
  obtain ⟨top, htop, ht, h99⟩ := top_eq _ (mixed_lt (s := s) (k := at_ + 2) (m := 4) (by decide))
  generalize mixed s at_ most = n0 at e0 l0
  generalize mixed s (at_ + 1) 6 = th at e1
  generalize mixed s (at_ + 2) 4 = tp at e2 htop
  have hn : 1 + (n0 : Int) = ((1 + n0 : Nat) : Int) := by omega
  have hth : 3 + (th : Int) = ((3 + th : Nat) : Int) := by omega
  generalize hN : 1 + n0 = n at hn
  generalize 3 + th = thick at hth
  have hnn : n * n ≤ 7 * 7 := Nat.mul_le_mul (by omega) (by omega)
  obtain ⟨xs, h1⟩ := web_outer s at_ most n thick top ht (by omega) .un .un .un
  refine ⟨n, wars s at_ thick top n (List.range n), ?_, wars_ok s at_ thick top n ht h99 (by omega) (by omega), by omega⟩
  have c1 : SmallI n := smallI_nat (small_of (by omega))
  unfold wenv at h1
  simp only [List.cons_append, List.nil_append, List.map_nil] at h1
  simp [fs_L_web, fsOf, sem_L_web, initE, e0, e1, e2, htop, hn, hth, c1, h1, webD]
/-! webs -/
theorem fs_is_whole_int (i : Int) : fs_is_whole [.int i] = .fz (.bl true) := rfl
theorem fs_between_int (i lo hi : Int) : fs_between [.int i, .int lo, .int hi] = .fz (.bl (decide (lo ≤ i ∧ i ≤ hi))) := by
  by_cases h : lo ≤ i <;> simp [fs_between, fsOf, sem_between, initE, fs_is_whole_int, h]
theorem isi_tup (l : List D) : fIsi [.tup l, .ty "tuple"] = .fz (.bl true) := rfl
theorem isi_ktup (l : List D) : fIsi [.ktup l, .ty "tuple"] = .fz (.bl true) := rfl
theorem fs_is_arrow_ok {n : Nat} {x : Ar} (h : 0 ≤ x.a ∧ x.a < n ∧ 0 ≤ x.b ∧ x.b < n ∧ x.a ≠ x.b ∧ 1 ≤ x.c ∧ x.c ≤ 99) : fs_is_arrow [arD x, .int n] = .fz (.bl true) := by
  obtain ⟨h1, h2, h3, h4, h5, h6, h7⟩ := h
  have a1 : x.a ≤ (n : Int) - 1 := by omega
  have a2 : x.b ≤ (n : Int) - 1 := by omega
  simp [fs_is_arrow, fsOf, sem_is_arrow, initE, fs_between_int, isi_tup, arD, h1, h3, h5, h6, h7, a1, a2]
theorem fAll_true {ds : List D} (h : ∀ d ∈ ds, d = .bl true) : fAll [.lst ds] = .fz (.bl true) := by
  have e : ds = (List.replicate ds.length true).map D.bl := by
    rw [List.map_replicate]
    exact List.eq_replicate_iff.mpr ⟨rfl, h⟩
  have e2 : bolsOf ds = some (List.replicate ds.length true) := by
    rw [e, bolsOf_map]; simp
  simp [fAll, lstBols, e2]
theorem opSl_ar (x : Ar) : opSl false (arD x) none (some 2) = some (.tup [.int x.a, .int x.b]) := rfl
theorem lt_ar (x y : Ar) (h : arLt x y) : opLtA (.tup [.int x.a, .int x.b]) (.tup [.int y.a, .int y.b]) = some (.bl true) := by
  show some (D.bl (HT.lexLt [x.a, x.b] [y.a, y.b])) = _
  rcases h with h | ⟨h, h'⟩
  · have : x.a ≠ y.a := by omega
    simp [HT.lexLt, h, this]
  · have : x.b ≠ y.b := by omega
    simp [HT.lexLt, h, h', this]
theorem fs_is_web_ok {n : Nat} {as : List Ar} (h : WebOk n as) : fs_is_web [webD n as] = .fz (.bl true) := by
  obtain ⟨h1, h7, har, hso, hlen⟩ := h
  have c1 : ∀ xs : List Slot, runComp (bN 2) tTrue ce_is_web_1 [2] (as.map arD) [.fz (webD n as), .fz (.ktup (as.map arD)), .un, .un] = some (as.map fun _ => D.bl true, [.fz (webD n as), .fz (.ktup (as.map arD)), .un, .un]) := by
    intro _
    rw [runComp_map (enc := arD) (F := fun _ => some (D.bl true))]
    · rw [List.filterMap_eq_map']
    · intro x hx
      have := fs_is_arrow_ok (har x hx)
      refine ⟨_, rfl, .inr ⟨rfl, .bl true, [.fz (webD n as), .fz (.ktup (as.map arD)), .fz (arD x), .un], ?_, rfl, rfl⟩⟩
      simp [ce_is_web_1, webD, this]
  have c2 : runComp (bN 3) tTrue ce_is_web_2 [3] (nats (as.length - 1)) [.fz (webD n as), .fz (.ktup (as.map arD)), .un, .un] = some ((List.range (as.length - 1)).map fun _ => D.bl true, [.fz (webD n as), .fz (.ktup (as.map arD)), .un, .un]) := by
    unfold nats
    rw [runComp_map (enc := fun i : Nat => D.int (i : Int)) (F := fun _ => some (D.bl true))]
    · rw [List.filterMap_eq_map']
    · intro k hk
      rw [List.mem_range] at hk
      have k0 : k < as.length := by omega
      have k1 : k + 1 < as.length := by omega
      have e0 : atI (as.map arD) (k : Int) = some (arD as[k]) := by
        rw [atI_nat (j := k) (by rw [List.getElem?_map, List.getElem?_eq_getElem k0]; rfl)]
      have e1 : atI (as.map arD) ((k : Int) + 1) = some (arD as[k + 1]) := by
        have := atI_nat (xs := as.map arD) (j := k + 1) (v := arD as[k + 1]) (by rw [List.getElem?_map, List.getElem?_eq_getElem k1]; rfl)
        rw [← this]; rfl
      have hlt : arLt as[k] as[k + 1] := List.pairwise_iff_getElem.mp hso k (k + 1) k0 k1 (by omega)
      have e2 := lt_ar _ _ hlt
      refine ⟨_, rfl, .inr ⟨rfl, .bl true, [.fz (webD n as), .fz (.ktup (as.map arD)), .un, .fz (.int k)], ?_, rfl, rfl⟩⟩
      simp [ce_is_web_2, e0, e1, e2, opSl_ar]
  have c3 := c1 []
  have a1 : fAll [.lst (as.map fun _ => D.bl true)] = .fz (.bl true) := fAll_true (by simp)
  have a2 : fAll [.lst ((List.range (as.length - 1)).map fun _ => D.bl true)] = .fz (.bl true) := fAll_true (by simp)
  have b1 : (1 : Int) ≤ n := by omega
  have b2 : (n : Int) ≤ 7 := by omega
  have b3 : SmallI ((as.length : Int) - 1) := smallI_of (by omega) (by omega)
  have b4 : ((as.length : Int) - 1).toNat = as.length - 1 := by omega
  unfold webD at *
  simp [fs_is_web, fsOf, sem_is_web, initE, isi_tup, isi_ktup, fs_between_int, b1, b2, c3, a1, b3, b4, c2, a2]
theorem fs_checked_ok {n : Nat} {as : List Ar} (h : WebOk n as) : fs_checked [webD n as] = .fz (webD n as) := by
  simp [fs_checked, fsOf, sem_checked, initE, fs_is_web_ok h]
/-! the law's row -/
theorem bd_L_row_1_eq (s : List Int) (at_ n k : Nat) (left made : List Int) (x5 : Slot) (hl : 0 < left.length) (h2 : left.length ≤ 1000) (h3 : made.length ≤ 1000) :
    ∃ j, j < left.length ∧ bd_L_row_1 [.fz (.klst (s.map .int)), .fz (.int at_), .fz (.int n), .ow (.li (left.map .int)), .ow (.li (made.map .int)), .fz (.int k)] =
      .nx [.fz (.klst (s.map .int)), .fz (.int at_), .fz (.int n), .ow (.li ((left.eraseIdx j).map .int)), .ow (.li ((made ++ [left.getD j 0]).map .int)), .fz (.int k)] := by
  have hm := fs_L_mixed_eq s (at_ + k) left.length hl
  have hj : mixed s (at_ + k) left.length < left.length := mixed_lt hl
  generalize mixed s (at_ + k) left.length = j at hm hj
  refine ⟨j, hj, ?_⟩
  have hm : fs_L_mixed [.klst (s.map .int), .int ((at_ : Int) + k), .int left.length] = .fz (.int j) := hm
  have e1 : (left.map D.int)[j]? = some (.int (left.getD j 0)) := by
    rw [List.getElem?_map, List.getElem?_eq_getElem hj, List.getD_eq_getElem?_getD, List.getElem?_eq_getElem hj]; rfl
  have e2 : (left.map D.int).eraseIdx j = (left.eraseIdx j).map .int := eraseIdx_mapL _ _ _
  have c1 : Small made.length := small_of h3
  have c2 : left.length ≤ big := by show left.length ≤ 16777216; omega
  have e3 : left[j]?.getD 0 = left.getD j 0 := (List.getD_eq_getElem?_getD ..).symm
  simp [bd_L_row_1, hm, hj, e1, e2, c1, c2, e3]
theorem erase_perm : ∀ (l : List Int) (j : Nat), j < l.length → (l.getD j 0 :: l.eraseIdx j).Perm l
  | [], j, h => absurd h (Nat.not_lt_zero _)
  | a :: l, 0, h => by simp
  | a :: l, j + 1, h => by
    have := erase_perm l j (by simpa using h)
    rw [List.eraseIdx_cons_succ, List.getD_cons_succ]
    exact (List.Perm.swap _ _ _).trans (this.cons a)
theorem fs_L_row_eq (s : List Int) (at_ n : Nat) (hn : n ≤ 1000) : ∃ r, fs_L_row [.klst (s.map .int), .int at_, .int n] = .fz (rowD r) ∧ RowOk n r := by
  obtain ⟨ρ', h1, left, made, x5, rfl, h2, h3⟩ := runFor_rel (b := bN 5) (g := bd_L_row_1) (enc := fun j : Nat => D.int (j : Int))
    (fun r ρ => ∃ left made x5, ρ = [.fz (.klst (s.map .int)), .fz (.int at_), .fz (.int n), .ow (.li (left.map .int)), .ow (.li (made.map .int)), x5] ∧ (made ++ left).Perm (intsN n) ∧ left.length = r.length) (by
      rintro k r ρ ⟨left, made, x5, rfl, h2, h3⟩
      rw [List.length_cons] at h3
      have hl := h2.length_eq
      rw [List.length_append, ints_len] at hl
      obtain ⟨j, hj, h4⟩ := bd_L_row_1_eq s at_ n k left made x5 (by omega) (by omega) (by omega)
      refine ⟨_, _, rfl, .inl h4, left.eraseIdx j, made ++ [left.getD j 0], .fz (.int k), rfl, ?_, ?_⟩
      · rw [List.append_assoc]
        exact ((erase_perm left j hj).append_left made).trans h2
      · rw [List.length_eraseIdx_of_lt hj]; omega) (List.range n) [.fz (.klst (s.map .int)), .fz (.int at_), .fz (.int n), .ow (.li ((intsN n).map .int)), .ow (.li ([].map .int)), .un] ⟨intsN n, [], .un, rfl, .refl _, by rw [ints_len, List.length_range]⟩
  have h3 : left = [] := List.eq_nil_of_length_eq_zero (by simpa using h3)
  subst h3
  rw [List.append_nil] at h2
  refine ⟨made, ?_, ⟨h2⟩⟩
  have c1 : SmallI n := smallI_nat (small_of hn)
  rw [← nats_intsN] at h1
  have h1 : runFor (bN 5) bd_L_row_1 (nats n) [.fz (.klst (s.map .int)), .fz (.int at_), .fz (.int n), .ow (.li (nats n)), .ow (.li []), .un] = .nx [.fz (.klst (s.map .int)), .fz (.int at_), .fz (.int n), .ow (.li []), .ow (.li (made.map .int)), x5] := h1
  simp [fs_L_row, fsOf, sem_L_row, initE, c1, h1, rowD]
/-! what a row is asked -/
theorem fs_need_row_ok {n : Nat} {as : List Ar} {r : List Int} (h : WebOk n as) (hr : RowOk n r) : fs_need_row [webD n as, rowD r] = .fz .non := by
  have c1 : runComp (bN 2) tTrue ce_need_row_1 [2] (r.map .int) [.fz (webD n as), .fz (rowD r), .un] = some (r.map fun _ => D.bl true, [.fz (webD n as), .fz (rowD r), .un]) := by
    rw [runComp_map (enc := fun x : Int => D.int x) (F := fun _ => some (D.bl true))]
    · rw [List.filterMap_eq_map']
    · intro x hx
      refine ⟨_, rfl, .inr ⟨rfl, .bl true, [.fz (webD n as), .fz (rowD r), .fz (.int x)], ?_, rfl, rfl⟩⟩
      simp [ce_need_row_1, fs_is_whole_int]
  have a1 : fAll [.lst (r.map fun _ => D.bl true)] = .fz (.bl true) := fAll_true (by simp)
  have a2 := fs_checked_ok h
  have c2 : SmallI n := smallI_nat (small_of (by have := h.n7; omega))
  have e1 : opNe (.lst ((intsN n).map .int)) (.lst ((intsN n).map .int)) = some (.bl false) := by
    rw [opNe_is (is_lst (iss_ints _)) (is_lst (iss_ints _)) (by decide)]
    simp
  have e2 := fSorted_ints r
  rw [sort_perm hr.p] at e2
  unfold webD rowD at *
  simp [fs_need_row, fsOf, sem_need_row, initE, a2, isi_ktup, c1, a1, e2, c2, nats_intsN, e1]
theorem fs_turned_by_ok {n : Nat} {as : List Ar} {r : List Int} (h : WebOk n as) (hr : RowOk n r) : fs_turned_by [webD n as, rowD r] = .ow (.li ((turnedL as r).map arD)) := by
  have c1 : runComp (bT 2 (bsCons (bN 3) (bsCons (bN 4) bsNil))) tTrue ce_turned_by_1 [3, 4] (enumD 0 (r.map .int)) [.fz (webD n as), .fz (rowD r), .un, .un, .un, .un] =
      some ((r.zipIdx).map fun p => .tup [.int p.1, .int (p.2 : Nat)], [.fz (webD n as), .fz (rowD r), .un, .un, .un, .un]) := by
    rw [enumD_zip, runComp_map (enc := fun p : Int × Nat => .tup [.int (p.2 : Nat), .int p.1]) (F := fun p => some (.tup [.int p.1, .int (p.2 : Nat)]))]
    · rw [List.filterMap_eq_map']
    · intro p hp
      refine ⟨_, rfl, .inr ⟨rfl, _, [.fz (webD n as), .fz (rowD r), .un, .fz (.int (p.2 : Nat)), .fz (.int p.1), .un], ?_, rfl, rfl⟩⟩
      simp [ce_turned_by_1]
  have e1 := fDictK_place hr.nodup
  have c2 : runComp (bN 5) ct_turned_by_2 (eVar 5) [5] (as.map arD) [.fz (webD n as), .fz (rowD r), .ow (.di (placeK r)), .un, .un, .un] =
      some ((turnedL as r).map arD, [.fz (webD n as), .fz (rowD r), .ow (.di (placeK r)), .un, .un, .un]) := by
    rw [runComp_map (enc := arD) (F := fun x => if r.idxOf x.b < r.idxOf x.a then some (arD x) else none)]
    · rw [filterMap_ite]; rfl
    · intro x hx
      obtain ⟨h1, h2, h3, h4, _⟩ := h.ar x hx
      have ga := opDGet_place (r := r) (x := x.a) (hr.mem.mpr ⟨h1, h2⟩)
      have gb := opDGet_place (r := r) (x := x.b) (hr.mem.mpr ⟨h3, h4⟩)
      refine ⟨_, rfl, ?_⟩
      by_cases hx : r.idxOf x.b < r.idxOf x.a
      · refine .inr ⟨?_, arD x, [.fz (webD n as), .fz (rowD r), .ow (.di (placeK r)), .un, .un, .fz (arD x)], ?_, by rw [if_pos hx], rfl⟩
        · simp [ct_turned_by_2, arD]
          unfold arD at *
          simp [ga, gb, hx]
        · simp
      · refine .inl ⟨?_, by rw [if_neg hx], rfl⟩
        simp [ct_turned_by_2, arD]
        unfold arD at *
        simp [ga, gb, hx]
  unfold webD rowD at *
  simp [fs_turned_by, fsOf, sem_turned_by, initE, c1, e1, c2]
theorem fSum_ints (l : List Int) : fSum [.lst (l.map .int)] = .fz (.int l.sum) := by
  simp [fSum, lstInts, intsOf_map]
theorem fs_weight_of_ok {n : Nat} {as : List Ar} {r : List Int} (h : WebOk n as) (hr : RowOk n r) : fs_weight_of [webD n as, rowD r] = .fz (.int (weightI as r)) := by
  have c1 : runComp (bN 2) tTrue ce_weight_of_1 [2] ((turnedL as r).map arD) [.fz (webD n as), .fz (rowD r), .un] = some (((turnedL as r).map (·.c)).map .int, [.fz (webD n as), .fz (rowD r), .un]) := by
    rw [runComp_map (enc := arD) (F := fun x => some (D.int x.c))]
    · rw [List.filterMap_eq_map', List.map_map]; rfl
    · intro x hx
      refine ⟨_, rfl, .inr ⟨rfl, .int x.c, [.fz (webD n as), .fz (rowD r), .fz (arD x)], ?_, rfl, rfl⟩⟩
      simp [ce_weight_of_1, arD]
  have a1 := fs_turned_by_ok h hr
  have a2 := fSum_ints ((turnedL as r).map (·.c))
  rw [List.map_map] at a2 c1
  unfold weightI
  simp [fs_weight_of, fsOf, sem_weight_of, initE, a1, c1, a2]
/-! the law's own sum -/
theorem fs_L_weight_ok {n : Nat} {as : List Ar} {r : List Int} (h : WebOk n as) (hr : RowOk n r) : fs_L_weight [webD n as, rowD r] = .fz (.int (weightI as r)) := by
  obtain ⟨ρ', h1, m, x3, x4, x5, rfl, h2⟩ := runFor_rel (b := bT 3 (bsCons (bN 3) (bsCons (bN 4) (bsCons (bN 5) bsNil)))) (g := bd_L_weight_1) (enc := arD)
    (fun l ρ => ∃ m x3 x4 x5, ρ = [.fz (webD n as), .fz (rowD r), .fz (.int m), x3, x4, x5] ∧ (∀ x ∈ l, x ∈ as) ∧ m + weightI l r = weightI as r) (by
      rintro x l ρ ⟨m, x3, x4, x5, rfl, hm, h2⟩
      obtain ⟨g1, g2, g3, g4, _⟩ := h.ar x (hm x List.mem_cons_self)
      have ia := opIndexT_row (r := r) (x := x.a) (hr.mem.mpr ⟨g1, g2⟩)
      have ib := opIndexT_row (r := r) (x := x.b) (hr.mem.mpr ⟨g3, g4⟩)
      by_cases hx : r.idxOf x.b < r.idxOf x.a
      · refine ⟨_, [.fz (webD n as), .fz (rowD r), .fz (.int (m + x.c)), .fz (.int x.a), .fz (.int x.b), .fz (.int x.c)], rfl, .inl ?_, m + x.c, _, _, _, rfl, fun y hy => hm y (List.mem_cons_of_mem _ hy), ?_⟩
        · unfold rowD at *
          simp [bd_L_weight_1, ia, ib, hx]
        · rw [← h2]
          unfold weightI turnedL
          rw [List.filter_cons_of_pos (by simpa using hx), List.map_cons, List.sum_cons]; omega
      · refine ⟨_, [.fz (webD n as), .fz (rowD r), .fz (.int m), .fz (.int x.a), .fz (.int x.b), .fz (.int x.c)], rfl, .inl ?_, m, _, _, _, rfl, fun y hy => hm y (List.mem_cons_of_mem _ hy), ?_⟩
        · unfold rowD at *
          simp [bd_L_weight_1, ia, ib, hx]
        · rw [← h2]
          unfold weightI turnedL
          rw [List.filter_cons_of_neg (by simpa using hx)]) as [.fz (webD n as), .fz (rowD r), .fz (.int 0), .un, .un, .un] ⟨0, _, _, _, rfl, fun _ h => h, by omega⟩
  have h2 : m = weightI as r := by rw [← h2.2]; unfold weightI turnedL; simp
  subst h2
  have h1 : runFor (bT 3 (bsCons (bN 3) (bsCons (bN 4) (bsCons (bN 5) bsNil)))) bd_L_weight_1 (as.map arD) [.fz (webD n as), .fz (rowD r), .fz (.int 0), .un, .un, .un] = _ := h1
  unfold webD rowD at *
  simp [fs_L_weight, fsOf, sem_L_weight, initE, h1]
/-! the weights as a dict -/
def wK (as : List Ar) : List (List Key × D) := as.map fun z => ([.inl z.a, .inl z.b], .int z.c)
theorem pairsTd_w : ∀ as : List Ar, pairsTd (as.map fun z => .tup [.tup [.int z.a, .int z.b], .int z.c]) = some (wK as)
  | [] => rfl
  | z :: as => by
    rw [List.map_cons]
    unfold pairsTd
    rw [pairsTd_w as]; rfl
theorem wK_keys (as : List Ar) : (wK as).map (·.1) = as.map fun z => ([.inl z.a, .inl z.b] : List Key) := by unfold wK; rw [List.map_map]; rfl
theorem wK_nodup {as : List Ar} (h : as.Pairwise arLt) : ((wK as).map (·.1)).Nodup := by
  rw [wK_keys]
  refine List.pairwise_map.mpr (h.imp fun {x y} hxy e => ?_)
  have h1 : (Sum.inl x.a : Key) = .inl y.a := (List.cons.inj e).1
  have h2 : (Sum.inl x.b : Key) = .inl y.b := (List.cons.inj (List.cons.inj e).2).1
  have h1 := Sum.inl.inj h1
  have h2 := Sum.inl.inj h2
  rcases hxy with z | ⟨_, z⟩ <;> omega
theorem fs_weights_of_ok {n : Nat} {as : List Ar} (h : as.Pairwise arLt) : fs_weights_of [webD n as] = .ow (.ti (wK as)) := by
  have c1 : runComp (bT 3 (bsCons (bN 1) (bsCons (bN 2) (bsCons (bN 3) bsNil)))) tTrue ce_weights_of_1 [1, 2, 3] (as.map arD) [.fz (webD n as), .un, .un, .un] = some (as.map fun z => .tup [.tup [.int z.a, .int z.b], .int z.c], [.fz (webD n as), .un, .un, .un]) := by
    rw [runComp_map (enc := arD) (F := fun z => some (.tup [.tup [.int z.a, .int z.b], .int z.c]))]
    · rw [List.filterMap_eq_map']
    · intro x hx
      refine ⟨_, rfl, .inr ⟨rfl, _, [.fz (webD n as), .fz (.int x.a), .fz (.int x.b), .fz (.int x.c)], ?_, rfl, rfl⟩⟩
      simp [ce_weights_of_1]
  have e1 : fDictT [.lst (as.map fun z => .tup [.tup [.int z.a, .int z.b], .int z.c])] = .ow (.ti (wK as)) := by
    unfold fDictT
    simp only [lstOf, pairsTd_w]
    rw [mergeA_new _ _ (by simpa using wK_nodup h)]; rfl
  unfold webD at *
  simp [fs_weights_of, fsOf, sem_weights_of, initE, c1, e1]
theorem lookA_wK (x y : Int) : ∀ as : List Ar, lookA (wK as) [.inl x, .inl y] = (as.find? fun z => decide (z.a = x ∧ z.b = y)).map fun z => D.int z.c
  | [] => rfl
  | z :: as => by
    have ih := lookA_wK x y as
    unfold lookA wK at ih ⊢
    rw [List.map_cons, List.find?_cons, List.find?_cons]
    have e : decide (([Sum.inl z.a, Sum.inl z.b] : List Key) = [.inl x, .inl y]) = decide (z.a = x ∧ z.b = y) := decide_eq_decide.mpr (by simp)
    dsimp only
    rw [e]
    cases decide (z.a = x ∧ z.b = y)
    · exact ih
    · rfl
theorem wOf_none {x y : Int} {as : List Ar} (h : ∀ z ∈ as, ¬ (z.a = x ∧ z.b = y)) : wOf as x y = 0 := by
  unfold wOf
  rw [List.filter_eq_nil_iff.mpr fun z hz => by simpa using h z hz]; rfl
theorem wOf_find (x y : Int) : ∀ {as : List Ar}, as.Pairwise arLt → wOf as x y = match as.find? fun z => decide (z.a = x ∧ z.b = y) with | some z => z.c | none => 0
  | [], _ => rfl
  | z :: as, h => by
    obtain ⟨h1, h2⟩ := List.pairwise_cons.mp h
    rw [wOf_cons, List.find?_cons]
    dsimp only
    by_cases e : z.a = x ∧ z.b = y
    · rw [if_pos e, wOf_none fun u hu e' => by rcases h1 u hu with q | ⟨_, q⟩ <;> omega, decide_eq_true e]
      dsimp only; omega
    · rw [if_neg e, wOf_find x y h2, decide_eq_false e]
      dsimp only; omega
theorem ar_uniq {as : List Ar} (h : as.Pairwise arLt) {u z : Ar} (hu : u ∈ as) (hz : z ∈ as) (e : u.a = z.a ∧ u.b = z.b) : u = z := by
  induction as with
  | nil => cases hu
  | cons x as ih =>
    obtain ⟨h1, h2⟩ := List.pairwise_cons.mp h
    rcases List.mem_cons.mp hu with eu | gu
    · rcases List.mem_cons.mp hz with ez | gz
      · rw [eu, ez]
      · subst eu
        rcases h1 z gz with q | ⟨_, q⟩ <;> omega
    · rcases List.mem_cons.mp hz with ez | gz
      · subst ez
        rcases h1 u gu with q | ⟨_, q⟩ <;> omega
      · exact ih h2 gu gz
theorem wOf_mem {as : List Ar} (h : as.Pairwise arLt) {z : Ar} (hz : z ∈ as) : wOf as z.a z.b = z.c := by
  rw [wOf_find _ _ h]
  cases e : as.find? fun u => decide (u.a = z.a ∧ u.b = z.b) with
  | none => exact absurd (List.find?_eq_none.mp e z hz) (by simp)
  | some u =>
    have hu := List.mem_of_find?_eq_some e
    have he : u.a = z.a ∧ u.b = z.b := by simpa using List.find?_some e
    rw [ar_uniq h hu hz he]
theorem lookW {as : List Ar} (h : as.Pairwise arLt) (x y : Int) (a b : D) (ρ : Envi) : dg5 a b (.int 0) ρ (some (lookA (((wK as).map (·.1)).zip ((wK as).map (·.2))) [.inl x, .inl y])) = .ok (.dat (.int (wOf as x y))) ρ := by
  rw [zip_unzip, lookA_wK, wOf_find x y h]
  cases as.find? fun z => decide (z.a = x ∧ z.b = y) <;> rfl
end Fw

set_option Elab.async false
set_option linter.all false
set_option maxRecDepth 100000
/-! texts: x.m(y), slices, gone through, int(text), one text in another -/
namespace Pv
open PySem PySem.Spec PyProof.Rows L2
section
variable {P : Pr} {m : Bool} {W : WX} {to te : TE} {fo fe : Envi → R Hd} {K : PySem.W.Frag} {ρ : Envi}
/-- what a text's method with one argument is by an operation -/
def M1S (K : PySem.W.Frag) (r : V → List V → Hp → VK → Prop) (op : Str → D → Option D) : Prop :=
  ∀ F H a y d c Q, Same F H → Rep K F y d → op a d = some c → (∀ F' H' v, Grow F H F' H' → Rep K F' v c → Q v H') → r (.str a) [y] H Q
def m1b (op : Str → D → Option D) (a : Str) : Hd → Envi → R Hd
  | .dat d, ρ => opt1 ρ (op a d)
  | _, _ => .stuck
def m1a (op : Str → D → Option D) (fe : Envi → R Hd) : Hd → Envi → R Hd
  | .dat (.str a), ρ => (eMat fe ρ).bind (m1b op a)
  | _, _ => .stuck
def eM1 (op : Str → D → Option D) (fo fe : Envi → R Hd) : Envi → R Hd := fun ρ => (eMat fo ρ).bind (m1a op fe)
@[simp] theorem y_m1b {op : Str → D → Option D} {a : Str} {d : D} : m1b op a (.dat d) ρ = opt1 ρ (op a d) := id rfl
@[simp] theorem y_m1a {op : Str → D → Option D} {a : Str} : m1a op fe (.dat (.str a)) ρ = (eMat fe ρ).bind (m1b op a) := id rfl
@[simp] theorem y_M1 {op : Str → D → Option D} : eM1 op fo fe ρ = (eMat fo ρ).bind (m1a op fe) := id rfl
theorem snd_m1 {r : V → List V → Hp → VK → Prop} {op : Str → D → Option D} (hop : M1S P.K r op) (ha : SndE P m W to fo) (hb : SndE P m W te fe) : SndE P m W (tM1 r to te) (eM1 op fo fe) := fun B F0 F H σ ob ρ Q w q => by
  refine snd_mat ha B F0 F H σ ob ρ _ w (Post.of_bind q ?_)
  rintro k ρ1 B1 F1 H1 ob1 x w1 s1 i1 r1 q
  unfold m1a at q
  split at q
  · rename_i _ a
    obtain ⟨rfl, r1⟩ := r1
    cases r1
    refine ⟨⟨a, rfl⟩, ?_⟩
    refine snd_mat hb _ F0 F1 H1 σ ob1 ρ1 _ w1 (Post.of_bind (q.shift s1 i1) ?_)
    rintro k2 ρ2 B2 F2 H2 ob2 y w2 s2 i2 r2 q
    unfold m1b at q
    split at q
    · rename_i _ d
      obtain ⟨rfl, r2⟩ := r2
      exact opt_post w2 s2 i2 q fun c e hq => hop F2 H2 a y d c Q w2.fh r2 e hq
    · exact q.elim
  · exact q.elim
/-! split -/
def strD (x : Str) : D := .str x
def opSplit (a : Str) (d : D) : Option D := match d with
  | .str b => if b.length ≠ 0 ∧ a.length ≤ 1000000 then some (.lst ((Txt.split a b).map .str)) else none
  | _ => none
theorem reps_strs {F : Hp} : ∀ ys : List Str, Reps K F (ys.map V.str) (ys.map .str)
  | [] => .nil
  | y :: ys => .cons (.str y) (reps_strs ys)
theorem m1_split : M1S K (fun x xs H Q => ∃ a b, x = .str a ∧ xs = [.str b] ∧ (b.length == 0) = false ∧ a.length + 2 ≤ sizeLine ∧ rNewStrs (Txt.split a b) H Q) opSplit := fun F H a y d c Q s r e q => by
  unfold opSplit at e
  split at e
  · rename_i b
    split at e
    · rename_i h
      cases e
      cases r
      have hl : a.length + 2 ≤ sizeLine := by rw [sizeLine_eq]; omega
      refine ⟨a, b, rfl, rfl, by rw [beq_eq_false_iff_ne]; exact h.1, hl, fun p hp => ?_⟩
      exact q _ _ _ (.new (.refl _ _) hp) (.lst upd_same (by rw [List.length_map]; exact Nat.le_trans (PyProof.Rows.split_le a b) hl) (reps_strs _))
    · cases e
  · cases e
/-! find -/
def opFind (a : Str) (d : D) : Option D := match d with
  | .str b => some (.int (Txt.find a b))
  | _ => none
theorem m1_find : M1S K (fun x xs H Q => ∃ a b, x = .str a ∧ xs = [.str b] ∧ Q (.int (Txt.find a b)) H) opFind := fun F H a y d c Q s r e q => by
  unfold opFind at e
  split at e
  · rename_i b
    cases e
    cases r
    exact ⟨a, b, rfl, rfl, q F H _ (.refl _ _) (.int _)⟩
  · cases e
/-! join -/
def strsOf : List D → Option (List Str)
  | [] => some []
  | .str x :: r => (strsOf r).map (x :: ·)
  | _ => none
theorem strsOf_map : ∀ ys : List Str, strsOf (ys.map .str) = some ys
  | [] => rfl
  | y :: ys => by
    show (strsOf (ys.map .str)).map _ = _
    rw [strsOf_map ys]; rfl
theorem strsOf_eq : ∀ {ds : List D} {ys : List Str}, strsOf ds = some ys → ds = ys.map .str
  | [], ys, h => by cases h; rfl
  | d :: ds, ys, h => by
    cases d with
    | str x =>
      obtain ⟨zs, h1, rfl⟩ := Option.map_eq_some_iff.mp (show (strsOf ds).map (x :: ·) = some ys from h)
      rw [strsOf_eq h1]; rfl
    | _ => cases h
theorem strs_inv {F : Hp} : ∀ {vs : List V} {ys : List Str}, Reps K F vs (ys.map .str) → vs = ys.map V.str
  | _, [], h => by cases h; rfl
  | _, y :: ys, h => by
    cases h with
    | cons a b => cases a; rw [strs_inv b]; rfl
def opJoin (a : Str) (d : D) : Option D := match (lstOf d).bind strsOf with
  | some ys => if (ys.map (·.length)).sum + ys.length * a.length ≤ 16777216 then some (.str (Txt.join a ys)) else none
  | none => none
theorem m1_join : M1S K (fun x xs H Q => ∃ a p, ∃ ys : List Str, x = .str a ∧ xs = [.ref p] ∧ (SqL K H p (ys.map V.str) ∨ SqT K H p (ys.map V.str)) ∧
      (ys.map (·.length)).sum + ys.length * a.length ≤ 16777216 ∧ Q (.str (Txt.join a ys)) H) opJoin := fun F H a y d c Q s r e q => by
  unfold opJoin at e
  split at e
  · rename_i ys e1
    split at e
    · rename_i h
      cases e
      obtain ⟨ds, e2, e3⟩ := Option.bind_eq_some_iff.mp e1
      rw [strsOf_eq e3] at e2
      obtain ⟨p, vs, rfl, h1, h2, h3⟩ := rep_lstOf r e2
      rw [strs_inv h3] at h1
      exact ⟨a, p, ys, rfl, rfl, .inl (same_sql s h1), h, q F H _ (.refl _ _) (.str _)⟩
    · cases e
  · cases e
/-! slices -/
def opSlS (d : D) (lo hi : Option Int) : Option D := match d with
  | .str z => if z.length ≤ big then some (.str (cutS z lo hi)) else none
  | _ => none
theorem ss_S : SlS K rSlS opSlS := fun F H x a lo hi c Q s ra e q => by
  unfold opSlS at e
  split at e
  · rename_i z
    split at e
    · rename_i h
      cases e
      exact ⟨z, ra.str, by rw [← big_line]; exact h, q F H _ (.refl _ _) (.str _)⟩
    · cases e
  · cases e
/-! one text in another -/
def opInS (a b : D) : Option D := match a, b with
  | .str i, .str j => some (.bl (!(Builtin.Str.occurrences j i 0 j.length 1).isEmpty))
  | _, _ => none
theorem os_inS : OpS K (fun x y H Q => ∃ i j, x = .str i ∧ y = .str j ∧ Q (.bl (!(Builtin.Str.occurrences j i 0 j.length 1).isEmpty)) H) opInS := fun F H x y a b c Q s ra rb e q => by
  unfold opInS at e
  split at e
  · cases e
    exact ⟨_, _, ra.str, rb.str, q F H _ (.refl _ _) (.bl _)⟩
  · cases e
/-! a text gone through -/
def signsD (d : D) : Option (List D) := match d with
  | .str x => if x.length ≤ big then some (x.cps.toList.map fun c => .str ⟨#[c]⟩) else none
  | _ => none
theorem itOk_str {F : Hp} (x : Str) : ItOk K (Its x) F (x.cps.toList.map fun c => .str ⟨#[c]⟩) := fun F2 H2 s1 s2 => by
  refine ⟨fun i d e => ?_, fun i hi => by rw [List.length_map, Array.length_toList] at hi; exact hi⟩
  rw [List.getElem?_map] at e
  obtain ⟨c, e1, rfl⟩ := Option.map_eq_some_iff.mp e
  have e2 : x.cps[i]? = some c := by rw [← Array.getElem?_toList]; exact e1
  refine ⟨(Array.getElem?_eq_some_iff.mp e2).1, fun v H3 y => ?_⟩
  obtain ⟨rfl, c', e3, rfl⟩ := y
  rw [e2] at e3
  cases e3
  exact ⟨F2, .refl _ _, .str _⟩
theorem si_str (h : SndE P m W te fe) : SndI P m W (iStr te) (itBy signsD fe) := fun B F0 F H σ ob ρ Q w q => by
  refine snd_mat h B F0 F H σ ob ρ _ w (Post.of_bind q ?_)
  intro a ρ' B' F' H' ob' v w' s i r q
  cases a with
  | dat d =>
    obtain ⟨rfl, r⟩ := r
    cases e : signsD d with
    | none => simp only [e, opt2] at q; exact q.elim
    | some ds =>
      simp only [e, opt2] at q
      unfold signsD at e
      split at e
      · rename_i x
        split at e
        · rename_i hx
          cases e
          cases r
          exact ⟨x, rfl, q _ F' H' ob' _ w' s i ⟨rfl, itOk_str x, by rw [List.length_map, Array.length_toList, ← big_line]; exact hx⟩⟩
        · cases e
      · cases e
  | _ => exact q.elim
/-! int(text) -/
def fIntT (ds : List D) : Rf := match ds with
  | [.str a] => match PySem.intText? a with
    | some n => if a.length ≤ 640 then .fz (.int n) else .stuck
    | none => .stuck
  | _ => .stuck
theorem nx_fIntT (ds : List D) (e : Exc) : fIntT ds ≠ .exc e := by unfold fIntT; intro z; (repeat' split at z) <;> cases z
theorem cs_intT : CallS K (fun xs H Q => ∃ a n, xs = [.str a] ∧ PySem.intText? a = some n ∧ a.length ≤ 640 ∧ Q (.int n) H) fIntT := fun F H xs ds Q s bs q => by
  unfold fIntT at q
  split at q
  · rename_i a
    split at q
    · rename_i n e
      split at q
      · rename_i h
        obtain ⟨v, rfl, b⟩ := breps_one bs
        cases b.str
        exact ⟨a, n, rfl, e, h, q F H _ (.refl _ _) (.int _)⟩
      · exact q.elim
    · exact q.elim
  · exact False.elim q
end
end Pv
namespace Pv
open PySem PySem.Spec PyProof.Rows L2
/-! except X, no name -/
def noX : Fl → Fl
  | .nx ρ => .nx ρ
  | .bk ρ => .bk ρ
  | .ct ρ => .ct ρ
  | .ret v ρ => .ret v ρ
  | .exc _ _ => .stuck
  | .stuck => .stuck
def sTryO (cl : Exc → Option Bool) (body : Sem) (su : Exc → Sem) : Sem := fun ρ => match body ρ with
  | .exc c ρ1 => match cl c with
    | some true => noX (su c ρ1)
    | some false => .exc c ρ1
    | none => .stuck
  | r => r
section
variable {P : Pr} {m : Bool} {W Wout : WX} {B F0 F H : Hp} {σ : L2.St} {ob : Ob} {ρ : Envi} {D : Ends}
theorem noX_post : ∀ {r : Fl}, PostS P B F0 F Wout D (noX r) → PostS P B F0 F W0 D r
  | .nx _, h => h
  | .bk _, h => h
  | .ct _, h => h
  | .ret _ _, h => h
  | .exc _ _, h => h.elim
  | .stuck, h => h.elim
theorem snd_tryO {tb : WX → TS} {ts : Addr → Value → Option Addr → TS} {cv : Value} {body : Sem} {su : Exc → Sem} (cl : Exc → Option Bool) (hcl : ∀ c b, cl c = some b → PySem.W.exmOne P.K (P.ec c) cv = some b)
    (hb : ∀ W, SndS P W (tb W) body) (hsu : ∀ a c, cl c = some true → SndS P W0 (ts a (P.ec c) none) (su c)) :
    SndS P Wout (fun D σ H => tb (wOnly P.K cv ts Wout D) D σ H) (sTryO cl body su) := fun B F0 F H σ ob ρ D w q => by
  refine hb _ B F0 F H σ ob ρ D w ?_
  unfold sTryO at q
  cases e : body ρ with
  | nx ρ1 => rw [e] at q; exact q
  | bk ρ1 => rw [e] at q; exact q
  | ct ρ1 => rw [e] at q; exact q
  | ret v ρ1 => rw [e] at q; exact q
  | stuck => rw [e] at q; exact q
  | exc c ρ1 =>
    rw [e] at q
    try dsimp only at q
    intro F' H' σ' ob' w' s
    cases ec : cl c with
    | none => rw [ec] at q; exact q.elim
    | some b =>
      rw [ec] at q
      refine ⟨b, hcl c b ec, fun hb a ha => ?_, fun hb => ?_⟩
      · subst hb
        try dsimp only at q
        exact hsu a c ec B F0 F' H' _ ob' ρ1 _ w' (noX_post (Wout := Wout) (q.shift s))
      · subst hb
        exact q F' H' σ' ob' w' s
end
end Pv

set_option Elab.async false
set_option linter.all false
set_option maxRecDepth 100000
set_option maxHeartbeats 2000000
namespace Pv
open PySem PySem.Spec PyProof.Rows L2
/-! a comprehension whose element lets an exception out -/
theorem hide_out {B : Heap} {C : Addr} {b : Addr} (e : B.get? b = none) : (PySem.W.hideAll B [C]).get? b = none := by
  cases q : (PySem.W.hideAll B [C]).get? b with
  | none => rfl
  | some o =>
    have z := PySem.W.of_hideAll _ q
    rw [e] at z
    cases z
theorem hide_in {B : Heap} {C : Addr} {b : Addr} {o : Obj} (e : (PySem.W.hideAll B [C]).get? b = some o) : b ≠ C ∧ B.get? b = some o := by
  refine ⟨fun z => ?_, PySem.W.of_hideAll _ e⟩
  rw [z, PySem.W.hideAll_none [C] List.mem_cons_self] at e
  cases e
/-- what is held stays held when a block's dict is let go -/
theorem held_off {B h h' : Heap} {l : List Env} {a L C : Addr} {Z : Obj → Prop} {oC : Obj} (hC : B.get? C = some oC) (x : PySem.HandSPX.HeldZ B l a Z L h) (k : ∀ b o, b ≠ C → h.get? b = some o → h'.get? b = some o) :
    PySem.HandSPX.HeldZ (PySem.W.hideAll B [C]) l a Z L h' := by
  obtain ⟨x1, x2, x3, oe, vs, T, oT, ts, y1, y2, y3, y4, y5, y6, y7, y8, y9⟩ := x
  have out : ∀ {b}, B.get? b = none → b ≠ C := fun {b} e z => by
    rw [z, hC] at e
    cases e
  refine ⟨fun b o e => ?_, hide_out x2, ?_, oe, vs, T, oT, ts, k a oe (out x2) y1, y2, y3, y4, hide_out y5, y6, k T oT (out y5) y7, y8, y9⟩
  · obtain ⟨n, e1⟩ := hide_in e
    exact k b o n (x1 b o e1)
  · have go : ∀ l : List Env, h.FunFrames B l → h'.FunFrames (PySem.W.hideAll B [C]) l := by
      intro l
      induction l with
      | nil => exact fun _ => trivial
      | cons en r ih =>
        rintro ⟨f1, ⟨M, o, f2, f3, f4, f5⟩, f6⟩
        exact ⟨f1, ⟨M, o, f2, hide_out f3, k M o (out f3) f4, f5⟩, ih f6⟩
    exact go l x3
section
variable {X : Cx} {W : WX} {pins : List (Addr × Obj)} {σ : L2.St} {H : Hp} {s s' : Shared} {ce : Env} {m : Str → Option Value} {E : XK} {u : Value}
theorem blk_exc (hs : X.stack = X.env :: X.outer) (hf : X.env.frame = some X.env.locals) (tk : Takes X W) (hce : ce.frame = X.env.frame) (I : Inv X pins σ H s) (hC : FpOk X pins H ce.locals) (hn : s.heap.Ns ce.locals m)
    (hE : ∀ cls d H', E cls d H' → W cls d σ H') (c : L2.CX X.prog X.w X.stack H s E u s') : notedBy (model X.prog X.w) X.A ce (CompFails (model X.prog X.w) X.A X.xe ce) u s' := by
  obtain ⟨a, B, H', cls, d, rfl, fl, hok, ub, na, os, ag, hw⟩ := c
  have hfr : X.A.frames = some (X.env :: X.outer) := by rw [I.ok.frames, hs]
  have nC : ce.locals ∉ frs X.stack := fun z => by
    rcases List.mem_cons.mp (I.stkSub _ z) with e | e
    · exact hC.2.1 e
    · exact hC.2.2.1 e
  obtain ⟨oC, es, ep, c1, c2, c3⟩ := id hn
  have bC : B.get? ce.locals = some oC := ub.keep _ oC c1 hC.1 nC
  have e0 : noteFrame (.ref a) ce = noteFrame (.ref a) X.env := by
    unfold PySem.noteFrame PySem.frameOf
    rw [hce]
  show wpAny _ _ (noteFrame (.ref a) ce) _ _ _
  rw [e0]
  rw [hs] at fl
  refine PySem.HandSPX.looks_onZ Zc.steady hfr hf fl fun h1 held up1 => ?_
  refine ⟨m, ⟨oC, es, ep, held.1 _ oC bC, c2, c3⟩, fun h2 m2 hn2 sb => ?_⟩
  have held2 := held_off bC held fun b o hb e => (sb.2 b hb).trans e
  obtain ⟨k1, k2, k3, oe, vs, T, oT, ts, y1, y2, y3, y4, y5⟩ := id held2
  unfold PySem.passOn
  refine wpAny_bind (wpAny_field y1 y3 y4 ?_)
  have hT : (Value.ref T == Value.none) = false := by simp
  simp only [hT]
  rw [hce, hf]
  refine wpAny_bind (PySem.HandSPX.setFlight_onZ held2 fun h3 held3 up3 => wpAny_throw (tk _ _ ?_))
  rw [← hs] at held3
  -- the state without it
  have st3 := held3.1
  obtain ⟨G, g1, g2⟩ := restrict h3 fun b => ((PySem.W.hideAll B [ce.locals]).get? b).isSome || decide (b ∈ frs X.stack)
  have inG : ∀ {b o}, b ≠ ce.locals → B.get? b = some o → G.get? b = some o := fun {b o} hb e => by
    have e' : (PySem.W.hideAll B [ce.locals]).get? b = some o := PySem.W.hideAll_get _ e fun z => hb (List.mem_singleton.mp z)
    rw [g1 b (by simp [e'])]
    exact st3 b o e'
  have ofG : ∀ {b o}, G.get? b = some o → h3.get? b = some o ∧ ((PySem.W.hideAll B [ce.locals]).get? b = some o ∨ b ∈ frs X.stack) := fun {b o} e => by
    cases q : (((PySem.W.hideAll B [ce.locals]).get? b).isSome || decide (b ∈ frs X.stack)) with
    | false => rw [g2 b q] at e; cases e
    | true =>
      rw [g1 b q] at e
      refine ⟨e, ?_⟩
      by_cases hm : b ∈ frs X.stack
      · exact .inr hm
      · cases q2 : (PySem.W.hideAll B [ce.locals]).get? b with
        | none => rw [q2] at q; simp [hm] at q
        | some o2 =>
          have z := st3 b o2 q2
          rw [e] at z
          cases z
          exact .inl rfl
  have upS : ∀ {b o}, b ∈ frs X.stack → s.heap.get? b = some o → ∃ sl, h3.get? b = some { o with slots := sl } := fun {b o} hb e => by
    obtain ⟨_, o1, e1, hd⟩ := I.stack.mem hb
    rw [e] at e1
    cases e1
    obtain ⟨sl1, z1⟩ := ub.slot b o e hb
    obtain ⟨sl2, z2⟩ := up1 b _ z1 hd
    have z3 := (sb.2 b fun z => nC (z ▸ hb)).trans z2
    obtain ⟨sl3, z4⟩ := up3 b _ z3 hd
    exact ⟨sl3, z4⟩
  have HC' : H' ce.locals = none := ub.free _ oC c1 hC.1
  have hokG : HOk X.prog X.w H' G := fun b o q => (hok b o q).stay (fun c v hc r => inG (fun z => by
    rw [z] at hc
    rcases hc with hc | hc
    · rw [← hc, HC'] at q; cases q
    · rw [HC'] at hc; cases hc) r) (fun _ r => r) fun _ _ r => r
  refine ⟨a, PySem.W.hideAll B [ce.locals], { s with heap := G, gens := s'.gens, drawn := s'.drawn, toks := s'.toks }, pins, σ, H', cls, d, rfl, ?_, fun b o e hb => ?_, PySem.Heap.UpToSlots.of_keeps fun b o e => (ofG e).1, .inr (.inr held3), na, os, ag, hE _ _ _ hw⟩
  · refine I.call (ch := [ce.locals]) ⟨fun b o e n hb hc => ?_, fun b o e n hb hc => ?_, fun b o e n _ => ub.free b o e n, fun b o e hc => ?_, ub.tups, ub.frzs, ub.tbls⟩ hokG ag fun b hb => ?_
    · exact inG (fun z => hc (List.mem_singleton.mpr z)) (ub.keep b o e n hb)
    · obtain ⟨sl, z⟩ := upS hb e
      exact ⟨sl, by rw [g1 b (by simp [hb])]; exact z⟩
    · by_cases hb : b ∈ frs X.stack
      · obtain ⟨sl, z⟩ := upS hb e
        exact ⟨_, by rw [g1 b (by simp [hb])]; exact z⟩
      · obtain ⟨o2, z⟩ := ub.there b o e hb
        exact ⟨o2, inG (fun z => hc (List.mem_singleton.mpr z)) z⟩
    · rw [List.mem_singleton] at hb
      subst hb
      exact ⟨hC.2.2.2.1, hC.2.1, hC.2.2.2.2.1, hC.2.2.2.2.2⟩
  · rcases (ofG e).2 with h | h
    · exact h
    · exact absurd h hb
end
end Pv

set_option Elab.async false
set_option linter.all false
set_option maxRecDepth 100000
set_option maxHeartbeats 2000000
namespace Pv
open PySem PySem.Spec PyProof.Rows L2
abbrev blkX (X : Cx) (s : Shared) (H : Hp) (scope : Scope) (ce : Env) (fp : List Addr) (E : Value → Shared → Prop) : Cx := (X.blk s H scope ce fp).wish E
/-- [elt for target in iter], elt lets exceptions out -/
def tLcX (wi : TI) (g : TG) (te : WX → TE) (vs : List Nat) (W : WX) : TE := fun σ H Q => tLc wi g tYes (te fun c d _ H' => W c d σ H') vs σ H Q
section
variable {X : Cx} {W : WX}
theorem pe_lcX {elt tg iter : Expr} {scope : Scope} {own : List (Str × Nat)} {pos : Pos} {wi : TI} {g : TG} {te : WX → TE} (hs : X.stack = X.env :: X.outer) (hf : X.env.frame = some X.env.locals) (tk : Takes X W) (hc : X.calm = true) (hN : X.N.Nodup)
    (hi : PI X tg iter wi) (ok : BlkOk X.N X.env.scope scope own)
    (hg : ∀ (s : Shared) (H : Hp) (C : Addr) (cl : List (Str × Addr)) (fp : List Addr) (E : Value → Shared → Prop), PG (blkX X s H scope (compEnvC scope cl C X.env) fp E) tg g)
    (he : ∀ (s : Shared) (H : Hp) (C : Addr) (cl : List (Str × Addr)) (fp : List Addr) (E : Value → Shared → Prop) (WB : WX), (∀ σ, PassesAt (L2.CX X.prog X.w) (blkX X s H scope (compEnvC scope cl C X.env) fp E) σ (WE WB σ)) → PE (blkX X s H scope (compEnvC scope cl C X.env) fp E) elt (te WB))
    (hsi : ∀ x, foldedSetIterable iter X.env x = pure x := by intro _; rfl) :
    PE X (.ListComp elt [⟨tg, iter, [], 0⟩] scope pos) (tLcX wi g te (own.map (·.2)) W) := by
  refine ⟨fun pins s σ H Q I h => ?_⟩
  have cellAt : ∀ y ∈ scope.names, y.2 = .free → ∃ c, X.env.cells.lookup y.1 = some c := fun y hy e => I.ok.has _ (ok.free y hy e)
  rw [eval_ListComp]
  refine comprehension_at (use := none) rfl hsi (closure_ok cellAt) ok.kind (fun y hy e => (ok.uniq y hy).trans (congrArg some e)) ?_
  refine wpAny_mono (hi.run pins s σ H _ I h) (fun xv s1 h1 => wpAny_mono h1 (fun itv s2 h2 => ?_) fun _ _ z => z) fun _ _ z => z
  obtain ⟨it, fp, tn, J, H2, rfl, I2, T, t2, f2, q2⟩ := h2
  refine wpAny_newObj_type (newEnv_comp ?_) (Nat.zero_le _)
  obtain ⟨D, hD⟩ : ∃ D, D = s2.heap.objs.size := ⟨_, rfl⟩
  rw [← hD]
  obtain ⟨Z, ⟨z0, w0⟩, turn⟩ := q2 D (I2.hok.fresh (Nat.le_of_eq hD.symm))
  -- where the list stands
  obtain ⟨s3, hs3⟩ : ∃ s3 : Shared, s3 = { s2 with heap := s2.heap.push { cls := .type "list", data := .seq ([] : List Value).toArray } } := ⟨_, rfl⟩
  rw [← hs3]
  have hp3 : s3.heap = s2.heap.push { cls := .type "list", data := .seq ([] : List Value).toArray } := by rw [hs3]
  have old3 : ∀ b o, s2.heap.get? b = some o → s3.heap.get? b = some o := fun b o e => by
    rw [hp3]
    exact Heap.get?_push_of_some _ e
  have I3 : Inv X pins σ (upd H2 D (.lst [])) s3 := by
    rw [hs3]
    refine I2.laid (t' := s2.toks) (fun b o e => Heap.get?_push_of_some _ e) (Nat.le_of_eq hD.symm) ⟨Nat.zero_le _, [], 0, .nil, ?_⟩
    rw [hD]
    exact Heap.get?_push_size _ rfl
  obtain ⟨H3, hH3⟩ : ∃ H3, H3 = upd H2 D (.lst []) := ⟨_, rfl⟩
  rw [← hH3] at I3 w0
  have there : ∀ b ∈ fp, b < s2.heap.objs.size := fun b hb => by
    obtain ⟨o, e, _⟩ := T.obj _ _ t2 b hb
    exact Heap.lt_size e
  have f3 : ∀ b ∈ fp, FpOk X pins H3 b ∧ b < s3.heap.objs.size := fun b hb => by
    have lt := there b hb
    have up : b < s3.heap.objs.size := by
      rw [hp3, Heap.size_push]
      exact Nat.lt_succ_of_lt lt
    obtain ⟨a1, a2⟩ := f2 b hb
    refine ⟨⟨?_, a2⟩, up⟩
    rw [hH3, upd_ne (fun z => by rw [z, hD] at lt; exact Nat.lt_irrefl _ lt)]
    exact a1
  have I4 := block_start I3 ok hN f3
  -- the block's frame
  obtain ⟨ce, hce⟩ : ∃ ce, ce = compEnvC scope (cellsFrom (s3.heap.objs.size + 1) scope.names (cloFrom X.env.cells scope.names [])) s3.heap.objs.size X.env := ⟨_, rfl⟩
  obtain ⟨R, hR⟩ : ∃ R, R = compEnds (model X.prog X.w) X.A X.xe none (EP X pins σ Q) (.ref D) ce := ⟨_, rfl⟩
  obtain ⟨EB, hEB⟩ : ∃ EB, EB = notedBy (model X.prog X.w) X.A ce fun e s' => R (.error e) s' := ⟨_, rfl⟩
  have gg := hg s3 H3 s3.heap.objs.size (cellsFrom (s3.heap.objs.size + 1) scope.names (cloFrom X.env.cells scope.names [])) fp EB
  have ee := he s3 H3 s3.heap.objs.size (cellsFrom (s3.heap.objs.size + 1) scope.names (cloFrom X.env.cells scope.names [])) fp EB fun c d _ H' => W c d σ H'
  show codeAny _ _ (.compStart (.ListComp elt [⟨tg, iter, [], 0⟩] scope pos) 0 (.ref it) (.ref D) (compEnvC scope (cellsFrom (s3.heap.objs.size + 1) scope.names (cloFrom X.env.cells scope.names [])) s3.heap.objs.size X.env)) (compEnds (model X.prog X.w) X.A X.xe none (EP X pins σ Q) (.ref D) (compEnvC scope (cellsFrom (s3.heap.objs.size + 1) scope.names (cloFrom X.env.cells scope.names [])) s3.heap.objs.size X.env)) { s3 with heap := pushCells (s3.heap.push { cls := .type "dict", data := .dict #[] }) scope.names }
  rw [← hce] at I4 gg ee ⊢
  rw [← hR]
  have ceL : ce.locals = s3.heap.objs.size := by rw [hce]; rfl
  have ceF : ce.frame = X.env.frame := by rw [hce]; rfl
  -- the def's own state again
  have outer : ∀ {p' : List (Addr × Obj)} {σ' : L2.St} {H' : Hp} {s' : Shared}, Inv (blkX X s3 H3 scope ce fp EB) p' σ' H' s' → Inv X pins σ H' s' ∧ FpOk X pins H' ce.locals ∧ ∃ m, s'.heap.Ns ce.locals m := fun {p' σ' H' s'} I' => by
    have free : H' ce.locals = none := I'.free
    obtain ⟨m, hn, _⟩ := I'.loc
    refine ⟨I3.call' (ch := fp) I'.os I'.base I'.hok I'.bare fun b hb => ?_, ?_, m, hn⟩
    · obtain ⟨_, b2, _, b4, b5, b6⟩ := (f3 b hb).1
      exact ⟨b4, b2, b5, b6⟩
    · exact I3.fpOk (Nat.le_of_eq ceL.symm) free
  have ee := ee fun σ' p' H' s' e s'' I' c => by
    obtain ⟨J1, J2, m, J3⟩ := outer I'
    show EB e s''
    rw [hEB, hR]
    exact blk_exc hs hf tk ceF J1 J2 J3 (fun _ _ _ z => z) c
  have I5 : Inv (blkX X s3 H3 scope ce fp EB) [] (wipe σ (own.map (·.2))) H3 { s3 with heap := pushCells (s3.heap.push { cls := .type "dict", data := .dict #[] }) scope.names } := I4.wish EB
  obtain ⟨s4, hs4⟩ : ∃ s4 : Shared, s4 = { s3 with heap := pushCells (s3.heap.push { cls := .type "dict", data := .dict #[] }) scope.names } := ⟨_, rfl⟩
  rw [← hs4] at I5 ⊢
  have t4 : tn 0 s4.heap := T.keep _ _ _ t2 fun b _ o e => by
    rw [hs4]
    exact pushCells_keeps _ _ _ _ (Heap.get?_push_of_some _ (old3 b o e))
  have fpN : ∀ b ∈ fp, H3 b = none := fun b hb => (f3 b hb).1.1
  have own' : ∀ {σ' : L2.St} {H' : Hp} {s' : Shared}, Inv (blkX X s3 H3 scope ce fp EB) [] σ' H' s' → (∀ b ∈ fp, H' b = none) → ∀ b ∈ fp, FpOk (blkX X s3 H3 scope ce fp EB) [] H' b := fun {σ' H' s'} I' hn b hb =>
    ⟨hn b hb, (I'.ok.exf b hb).1, I'.ok.exfs b hb, .inl hb, (I'.ok.exf b hb).2, fun p hp => absurd (show p ∈ ([] : List (Addr × Obj)) ++ [] from hp) (List.not_mem_nil)⟩
  have run : codeAny (model X.prog X.w) X.A (.compLoop (.ListComp elt [⟨tg, iter, [], 0⟩] scope pos) 0 (.ref it) (.ref D) ce) R s4 := by
    refine compLoop_any (fun k s' => ∃ i H', Inv (blkX X s3 H3 scope ce fp EB) [] (wipe σ (own.map (·.2))) H' s' ∧ tn i s'.heap ∧ (∀ b ∈ fp, H' b = none) ∧ Z i k H') ?_ z0 ⟨0, H3, I5, t4, fpN, w0⟩
    rintro k s5 ⟨i, H5, J5, t5, n5, z5⟩
    rw [← hEB]
    rcases turn i k H5 z5 with ⟨stop, fin⟩ | ⟨go, Nx, hNx, step⟩
    · refine wpAny_mono (T.done (blkX X s3 H3 scope ce fp EB) rfl rfl rfl hc i [] s5 _ H5 EB J5 (own' J5 n5) t5 stop) (fun r s6 hr => ?_) fun _ _ z => z
      obtain ⟨rfl, J6⟩ := hr
      obtain ⟨K1, K2, m, K3⟩ := outer J6
      show R (.ok .next) s6
      rw [hR]
      refine ⟨m, K3, fun h7 sb => ⟨.ref D, H5, ?_, rfl, fin⟩⟩
      obtain ⟨c0, c1, _, c3, c4, c5⟩ := K2
      exact K1.turned (t' := s6.toks) (fun b o hb e => (sb.2 b hb).trans e) c0 c1 c3 c4 c5
    · refine wpAny_mono (T.item (blkX X s3 H3 scope ce fp EB) rfl rfl rfl hc i [] s5 _ H5 EB J5 (own' J5 n5) t5 go) (fun r s6 hr => ?_) fun _ _ z => z
      obtain ⟨v, rfl, h6⟩ := hr
      refine wpAny_mono h6 (fun _ s7 h7 => ?_) fun _ _ z => z
      obtain ⟨x, H7, J7, r7, y7, t7, n7⟩ := h7
      have P7 := J7.pinned (own' J7 n7) (T.obj _ _ t7)
      refine wpAny_mono (gg.run _ s7 _ H7 x v _ P7 r7 (step x H7 y7)) (fun _ s8 h8 => ?_) fun _ _ z => z
      obtain ⟨σ8, H8, J8, w8, q8⟩ := h8
      have q8 : te (fun c d _ H' => W c d σ H') σ8 H8 fun y H4 => ∃ acc, H4 D = some (.lst acc) ∧ acc.length < sizeLine ∧ Nx (upd H4 D (.lst (acc ++ [y]))) := q8
      refine wpAny_mono ((pts_nil (X := blkX X s3 H3 scope ce fp EB)).run _ s8 σ8 H8 (fun b H' => b = true ∧ H' = H8) J8 ⟨rfl, rfl⟩) (fun b s9 h9 => ?_) fun _ _ z => z
      obtain ⟨H9, J9, rfl, rfl⟩ := h9
      rw [if_pos rfl]
      refine wpAny_mono (ee.run _ s9 σ8 H9 _ J9 q8) (fun val s10 h10 => ?_) fun _ _ z => z
      obtain ⟨y, H10, J10, r10, acc, d10, l10, nx⟩ := h10
      refine app_ok (X := blkX X s3 H3 scope ce fp EB) J10 d10 l10 r10 fun s11 J11 => ?_
      -- the next turn
      obtain ⟨k2, lt, z2⟩ := hNx _ nx
      have pin : ∀ b ∈ fp, ∀ o, s7.heap.get? b = some o → s11.heap.get? b = some o ∧ (upd H10 D (.lst (acc ++ [y]))) b = none := fun b hb o e => by
        have z := J11.pin (b, o) (List.mem_append_right _ (List.mem_append_right _ (mem_pinsAt hb e)))
        exact ⟨z.1, z.2.1⟩
      have len8 : (wipe σ (own.map (·.2))).length = σ8.length := by rw [← w8, wipe_length]
      refine ⟨k2, lt, i + 1, _, (J11.unpinned (pins := [])).weak len8 (fun j v' e => (wipe_some (by rw [← w8] at e; exact e)).1), T.keep _ _ _ t7 fun b hb o e => (pin b hb o e).1, fun b hb => ?_, z2⟩
      obtain ⟨o, e, _⟩ := T.obj _ _ t7 b hb
      exact (pin b hb o e).2
  exact codeAny_compStart_list run (T.self X.A 0 _ _ _ t4 run)
end
end Pv

set_option Elab.async false
set_option linter.all false
set_option maxRecDepth 100000
set_option maxHeartbeats 2000000
namespace Pv
open PySem PySem.Spec PyProof.Rows L2
/-! the pure view of a comprehension whose element lets exceptions out -/
def runXk (ds : Envi → R (List D)) (vs : List Nat) : R Hd → R (List D)
  | .ok (.dat x) ρ => (ds (wipeE ρ vs)).bind fun l ρ' => .ok (x :: l) ρ'
  | .exc c ρ => .exc c (wipeE ρ vs)
  | _ => .stuck
def runX (b : Bnd) (e : Envi → R Hd) (vs : List Nat) : List D → Envi → R (List D)
  | [], ρ => .ok [] ρ
  | d :: ds, ρ => match b d ρ with
    | none => .stuck
    | some ρ1 => runXk (runX b e vs ds) vs (eMat e ρ1)
def eCompX (it : Envi → R (List D)) (b : Bnd) (e : Envi → R Hd) (vs : List Nat) : Envi → R Hd := fun ρ => (it ρ).bind fun ds ρ1 => (runX b e vs ds (wipeE ρ1 vs)).bind fun l ρ2 => .ok (.tm (.li l)) ρ2
section
variable {P : Pr} {m : Bool} {W : WX} {B F0 F H : Hp} {σ : L2.St} {ob : Ob} {ρ : Envi}
def accX (acc : List D) (r : R (List D)) : R Hd := r.bind fun l ρ => .ok (.tm (.li (acc ++ l))) ρ
theorem accX_bind (acc : List D) (x : D) (r : R (List D)) : accX acc (r.bind fun l ρ => .ok (x :: l) ρ) = accX (acc ++ [x]) r := by
  cases r with
  | ok l ρ =>
    show R.ok (Hd.tm (.li (acc ++ (x :: l)))) ρ = R.ok (Hd.tm (.li ((acc ++ [x]) ++ l))) ρ
    rw [List.append_assoc]; rfl
  | exc c ρ => rfl
  | stuck => rfl
theorem snd_compX {us vs : List Nat} {ti : TI} {it : Envi → R (List Pv.D)} {tg : TG} {b : Bnd} {te : WX → TE} {e : Envi → R Hd} (hi : SndI P m W ti it) (hg : SndG P us tg b) (he : ∀ WB : WX, SndE P m WB (te WB) e) (hu : ∀ u ∈ us, u ∈ vs := by decide) :
    SndE P m W (tLcX ti tg te vs W) (eCompX it b e vs) := fun B F0 F H σ ob ρ Q w q => by
  refine hi B F0 F H σ ob ρ _ w (Post.of_bind q ?_)
  rintro ds ρ' B' F' H' ob' J w' s i' ⟨rfl, hJ, hsz⟩ q D hD
  have fD : F' D = none := w'.fh.free hD
  have bD : B' D = none := w'.bh.free hD
  have f0D : F0 D = none := w'.ff.free fD
  have q0 : Post P B' F0 F σ ob m W (RelE P B' σ) Q (accX [] (runX b e vs ds (Pv.wipeE ρ' vs))) := q
  -- nothing but tuples stands at a new place
  have young : ∀ {Fx Hx : Hp} {σx : L2.St} {obx : Ob} {ρx : Envi} {av : List V}, Wf P (upd B' D (.lst av)) F0 Fx Hx σx obx ρx → Fx D = none := fun {Fx Hx σx obx ρx av} wx => by
    cases z : Fx D with
    | none => rfl
    | some o =>
      rcases wx.nw D o z with h | h | ⟨us, rfl⟩
      · rw [f0D] at h; cases h
      · rw [upd_same] at h; cases h
      · have h := wx.fh _ _ z
        rw [wx.getH] at h; cases h
  refine ⟨fun i mm H2 => ∃ F2 ob2 ρ2 av acc, mm = ds.length - i ∧ i ≤ ds.length ∧ Wf P (upd B' D (.lst av)) F0 F2 H2 σ ob2 (Pv.wipeE ρ2 vs) ∧ Same F' F2 ∧ (m = false → ob2 = ob') ∧ Reps P.K F2 av acc ∧ acc.length ≤ i ∧
      Post P B' F0 F σ ob m W (RelE P B' σ) Q (accX acc (runX b e vs (ds.drop i) (Pv.wipeE ρ2 vs))),
    ⟨ds.length, F', ob', ρ', [], [], rfl, Nat.zero_le _, (w'.wipeE vs).tmp hD, Same.refl _, fun _ => rfl, .nil, Nat.le_refl _, by rw [List.drop_zero]; exact q0⟩, ?_⟩
  rintro i mm H2 ⟨F2, ob2, ρ2, av, acc, rfl, hle, w2, s2, i2, r2, hacc, q2⟩
  obtain ⟨j1, j2⟩ := hJ F2 H2 s2 w2.fh
  by_cases hlt : i < ds.length
  · obtain ⟨g1, g2⟩ := j1 i ds[i] (List.getElem?_eq_getElem hlt)
    refine .inr ⟨g1, fun H3 => ∃ F3 ob3 ρ3 av acc, Wf P (upd B' D (.lst av)) F0 F3 H3 σ ob3 (Pv.wipeE ρ3 vs) ∧ Same F' F3 ∧ (m = false → ob3 = ob') ∧ Reps P.K F3 av acc ∧ acc.length ≤ i + 1 ∧
        Post P B' F0 F σ ob m W (RelE P B' σ) Q (accX acc (runX b e vs (ds.drop (i + 1)) (Pv.wipeE ρ3 vs))),
      fun H3 ⟨F3, ob3, ρ3, av, acc, a1, a2, a3, a4, a5, a6⟩ => ⟨ds.length - (i + 1), by omega, F3, ob3, ρ3, av, acc, rfl, hlt, a1, a2, a3, a4, a5, a6⟩, fun x H3 y => ?_⟩
    obtain ⟨F3, gr, r3⟩ := g2 x H3 y
    obtain ⟨w3, s3⟩ := w2.growN gr
    rw [List.drop_eq_getElem_cons hlt] at q2
    unfold runX at q2
    have w3' : Wf P (upd B' D (.lst av)) F0 F3 H3 (wipe σ vs) ob2 (Pv.wipeE ρ2 vs) := w3.reslot (wipe_length σ vs) fun i s h hs => wipe_outS (wipeE_un h hs)
    cases e1 : b ds[i] (Pv.wipeE ρ2 vs) with
    | none => rw [e1] at q2; exact q2.elim
    | some ρ3 =>
      rw [e1] at q2
      dsimp only at q2
      refine hg _ F0 F3 H3 (wipe σ vs) ob2 _ x _ ρ3 _ w3' r3 e1 fun σ3 w4 hw4 => ⟨(hw4 vs hu).trans (wipe_idem σ vs), ?_⟩
      -- at σ again, the block's names forgotten
      have back : ∀ {Bx Fx Hx : Hp} {obx : Ob} {ρx : Envi}, Wf P Bx F0 Fx Hx σ3 obx ρx → Wf P Bx F0 Fx Hx σ obx (Pv.wipeE ρx vs) := fun {Bx Fx Hx obx ρx} wx => by
        refine (wx.wipeE vs).reslot (by rw [w4.n, w.n]) fun i s h hs => ?_
        have hn := wipeE_un h hs
        have e5 := congrArg (fun l => l[i]?) (hw4 vs hu)
        have e6 : (wipe σ3 vs)[i]? = (wipe (wipe σ vs) vs)[i]? := e5
        rw [wipe_outS hn, wipe_outS hn, wipe_outS hn] at e6
        exact e6.symm
      show te (fun c d _ H' => W c d σ H') σ3 H3 _
      refine snd_mat (he fun c d _ H' => W c d σ H') _ F0 F3 H3 σ3 ob2 ρ3 _ w4 ?_
      cases e3 : eMat e ρ3 with
      | stuck => rw [e3] at q2; exact q2.elim
      | exc c ρ5 =>
        rw [e3] at q2
        intro F5 H5 ob5 w5 s5
        have f5 := young w5
        exact q2 (upd F5 D (.lst av)) H5 ob5 ((back w5).tmpFrz f5 bD) ((((s.trans s2).trans s3).trans s5).trans (same_new f5))
      | ok hd ρ5 =>
        rw [e3] at q2
        cases hd with
        | dat d' =>
          rintro _ F5 H5 ob5 y w6 s5 i5 ⟨rfl, r5⟩
          have f5 := young w6
          have hl : av.length = acc.length := r2.length
          have q2 : Post P B' F0 F σ ob m W (RelE P B' σ) Q (accX acc ((runX b e vs (ds.drop (i + 1)) (Pv.wipeE ρ5 vs)).bind fun l ρ' => .ok (d' :: l) ρ')) := q2
          rw [accX_bind] at q2
          exact ⟨av, w6.getH, by omega, F5, ob5, ρ5, av ++ [y], acc ++ [d'], back (w6.tmpUpd f5), (s2.trans s3).trans s5, fun z => (i5 z).trans (i2 z), (r2.mono (s3.trans s5)).append (.cons r5 .nil), by rw [List.length_append]; show acc.length + 1 ≤ i + 1; omega, q2⟩
        | _ => exact q2.elim
  · refine .inl ⟨j2 i (by omega), ?_⟩
    rw [List.drop_eq_nil_of_le (by omega)] at q2
    have q2 : Post P B' F0 F σ ob m W (RelE P B' σ) Q (.ok (.tm (.li (acc ++ []))) (Pv.wipeE ρ2 vs)) := q2
    rw [List.append_nil] at q2
    exact q2 (upd B' D (.lst av)) F2 H2 ob2 _ w2 (s.trans s2) (fun z => (i2 z).trans (i' z)) ⟨D, _, rfl, rfl, bD, young w2, av, rfl, by rw [r2.length]; omega, r2⟩
end
end Pv

set_option Elab.async false
set_option linter.all false
set_option maxRecDepth 100000
set_option maxHeartbeats 2000000
namespace Fw
open PySem PySem.Spec PyProof.Rows L2 SX
/-! texts by their signs -/
theorem join_ex (c : Nat) : ∀ a : List Nat, ∃ ps : List (List Nat), ps ≠ [] ∧ TL.joinL [c] ps = a ∧ (∀ p ∈ ps, c ∉ p) ∧ ps.length ≤ a.length + 1 ∧ ∀ p ∈ ps, p.length ≤ a.length ∧ ∀ y ∈ p, y ∈ a
  | [] => ⟨[[]], by simp, rfl, by simp, by simp, by simp⟩
  | x :: r => by
    obtain ⟨ps, h1, h2, h3, h4, h5⟩ := join_ex c r
    by_cases hx : x = c
    · subst hx
      refine ⟨[] :: ps, by simp, ?_, ?_, by simp only [List.length_cons]; omega, ?_⟩
      · cases ps with
        | nil => exact absurd rfl h1
        | cons p q =>
          show [] ++ ([x] ++ TL.joinL [x] (p :: q)) = _
          rw [h2]; rfl
      · intro p hp
        rcases List.mem_cons.mp hp with rfl | hp
        · simp
        · exact h3 p hp
      · intro p hp
        rcases List.mem_cons.mp hp with rfl | hp
        · simp
        · have := h5 p hp
          exact ⟨by simp only [List.length_cons]; omega, fun y hy => List.mem_cons_of_mem _ (this.2 y hy)⟩
    · cases ps with
      | nil => exact absurd rfl h1
      | cons p q =>
        refine ⟨(x :: p) :: q, by simp, ?_, ?_, by simp only [List.length_cons] at *; omega, ?_⟩
        · cases q with
          | nil =>
            show x :: p = _
            rw [← h2]; rfl
          | cons q1 q2 =>
            show (x :: p) ++ ([c] ++ TL.joinL [c] (q1 :: q2)) = _
            rw [← h2]; rfl
        · intro z hz
          rcases List.mem_cons.mp hz with rfl | hz
          · intro h
            rcases List.mem_cons.mp h with h | h
            · exact hx h.symm
            · exact h3 p List.mem_cons_self h
          · exact h3 z (List.mem_cons_of_mem _ hz)
        · intro z hz
          rcases List.mem_cons.mp hz with rfl | hz
          · have := h5 p List.mem_cons_self
            refine ⟨by simp only [List.length_cons]; omega, fun y hy => ?_⟩
            rcases List.mem_cons.mp hy with rfl | hy
            · exact List.mem_cons_self
            · exact List.mem_cons_of_mem _ (this.2 y hy)
          · have := h5 z (List.mem_cons_of_mem _ hz)
            exact ⟨by simp only [List.length_cons]; omega, fun y hy => List.mem_cons_of_mem _ (this.2 y hy)⟩
theorem split_ps {c : Nat} (hc : c < 256) {ps : List (List Nat)} (hne : ps ≠ []) (h : ∀ p ∈ ps, c ∉ p) : Txt.split (S (TL.joinL [c] ps)) (S [c]) = ps.map S := by
  rw [split_S (by simp) (by simp [hc]), SX.spl_join hne h]
/-- the parts of a text -/
theorem spl_all (c : Nat) (a : List Nat) : TL.spl [c] 0 [] a ≠ [] ∧ TL.joinL [c] (TL.spl [c] 0 [] a) = a ∧ (∀ p ∈ TL.spl [c] 0 [] a, c ∉ p) ∧ (TL.spl [c] 0 [] a).length ≤ a.length + 1 ∧ ∀ p ∈ TL.spl [c] 0 [] a, p.length ≤ a.length ∧ ∀ y ∈ p, y ∈ a := by
  obtain ⟨ps, h1, h2, h3, h4, h5⟩ := join_ex c a
  have e : TL.spl [c] 0 [] a = ps := by rw [← h2]; exact SX.spl_join h1 h3
  rw [e]
  exact ⟨h1, h2, h3, h4, h5⟩
/-- each part with its end behind it -/
theorem join_ends (c : Nat) : ∀ ps : List (List Nat), ps ≠ [] → TL.joinL [] (ps.map fun p => p ++ [c]) = TL.joinL [c] ps ++ [c]
  | [], h => absurd rfl h
  | [p], _ => rfl
  | p :: q :: r, _ => by
    have ih := join_ends c (q :: r) (by simp)
    show (p ++ [c]) ++ ([] ++ TL.joinL [] ((q :: r).map fun p => p ++ [c])) = p ++ ([c] ++ TL.joinL [c] (q :: r)) ++ [c]
    rw [ih]
    simp
/-! find of one sign -/
def findL (c : Nat) (l : List Nat) : Int := if c ∈ l then (l.idxOf c : Nat) else -1
theorem pre_one {c : Nat} {l : List Nat} {i : Nat} : TL.pre [c] (l.drop i) = true ↔ l[i]? = some c := by
  unfold TL.pre
  rw [← List.head?_drop]
  cases l.drop i with
  | nil => simp
  | cons x r => simp
theorem find_one (l : List Nat) (c : Nat) : Txt.find (S l) (S [c]) = findL c l := by
  have hy : TL.tl (S [c]) ≠ [] := by simp [TL.tl]
  have e1 : TL.tl (S [c]) = [c] := rfl
  have e2 : TL.tl (S l) = l := rfl
  have at1 : ∀ i, StrLaws.At (S l) (S [c]) (S l).length i ↔ l[i]? = some c := fun i => by
    rw [TL.at_iff hy i, e1, e2, pre_one]
  unfold findL
  rcases PyProof.Rows.find_whole (S l) (S [c]) with ⟨e, hn⟩ | ⟨i, e, hi, hn⟩
  · rw [e, if_neg]
    intro hm
    obtain ⟨i, hi, e3⟩ := List.mem_iff_getElem.mp hm
    exact hn i ((at1 i).mpr (by rw [List.getElem?_eq_getElem hi, e3]))
  · have h1 := (at1 i).mp hi
    obtain ⟨hi2, h2⟩ := List.getElem?_eq_some_iff.mp h1
    have hm : c ∈ l := h2 ▸ List.getElem_mem hi2
    rw [e, if_pos hm]
    have h3 := List.idxOf_lt_length_of_mem hm
    have h4 : l[l.idxOf c] = c := List.getElem_idxOf h3
    have h5 : ¬ l.idxOf c < i := fun hlt => hn _ hlt ((at1 _).mpr (by rw [List.getElem?_eq_getElem h3, h4]))
    have h6 : ¬ i < l.idxOf c := fun hlt => by
      have := List.not_of_lt_findIdx (p := (· == c)) (xs := l) (i := i) hlt
      simp [h2] at this
    have : i = l.idxOf c := by omega
    rw [this]
/-! digits -/
def isNum (w : List Nat) : Bool := decide (1 ≤ w.length) && decide (w.length ≤ 2) && w.all fun c => decide (48 ≤ c) && decide (c ≤ 57)
theorem dig_val {w : List Nat} (h : isNum w = true) : intText? (S w) = some ((NumText.digitsVal w : Nat) : Int) := by
  unfold isNum at h
  simp only [Bool.and_eq_true, decide_eq_true_eq] at h
  obtain ⟨⟨h1, h2⟩, h3⟩ := h
  refine int_S ?_ (by intro e; rw [e] at h1; simp at h1) (by omega)
  rw [List.all_eq_true] at h3 ⊢
  intro c hc
  have := h3 c hc
  simpa using this
theorem numL_isNum {n : Nat} (h : n < 100) : isNum (TL.numL n) = true := by
  have h1 : 0 < (TL.numL n).length := List.length_pos_iff.mpr (TL.numL_ne n)
  have h2 : (TL.numL n).length ≤ 2 := TL.numL_len (k := 2) (by decide) h
  have h3 := TL.numL_digits n
  unfold isNum
  simp only [Bool.and_eq_true, decide_eq_true_eq, List.all_eq_true]
  exact ⟨⟨h1, h2⟩, fun c hc => h3 c hc⟩
theorem numL_sign {n c : Nat} (h : c = 10 ∨ c = 42 ∨ c = 62) : c ∉ TL.numL n := TL.numL_free (by omega)
/-- the number that a word writes -/
def numO (w : List Nat) : Option Nat := (List.range 100).find? fun k => decide (TL.numL k = w)
theorem numO_num {n : Nat} (h : n < 100) : numO (TL.numL n) = some n := by
  unfold numO
  rw [List.find?_eq_some_iff_getElem]
  refine ⟨by simp, n, by simpa using h, by simp, fun j hj => ?_⟩
  rw [List.getElem_range]
  have : ¬ TL.numL j = TL.numL n := fun e => by
    have := TL.numL_inj e
    omega
  simp [this]
theorem numO_some {w : List Nat} {n : Nat} (h : numO w = some n) : w = TL.numL n ∧ n < 100 := by
  have h1 := List.find?_some h
  have h2 := List.mem_of_find?_eq_some h
  exact ⟨(of_decide_eq_true h1).symm, List.mem_range.mp h2⟩
theorem numO_none {w : List Nat} (h : numO w = none) : ∀ k < 100, TL.numL k ≠ w := fun k hk e => by
  have := List.find?_eq_none.mp h k (List.mem_range.mpr hk)
  simp [e] at this
theorem incr_len {m : Nat} : ∀ (l : List Nat) (lo : Nat), l.Pairwise (· < ·) → (∀ x ∈ l, lo ≤ x ∧ x < m) → l.length ≤ m - lo
  | [], _, _, _ => by simp
  | x :: r, lo, h, hb => by
    obtain ⟨h1, h2⟩ := List.pairwise_cons.mp h
    have h0 := hb x List.mem_cons_self
    have ih := incr_len r (x + 1) h2 fun y hy => ⟨h1 y hy, (hb y (List.mem_cons_of_mem _ hy)).2⟩
    rw [List.length_cons]; omega
/-! a line cut at its two signs -/
theorem cut_line {l : List Nat} {i j : Nat} (h1 : 62 ∈ l) (hi : l.idxOf 62 = i) (h2 : 42 ∈ l) (hj : l.idxOf 42 = j) (hij : i < j) :
    l = l.take i ++ (62 :: ((l.take j).drop (i + 1) ++ (42 :: l.drop (j + 1)))) := by
  subst hi; subst hj
  have e1 := List.idxOf_lt_length_of_mem h1
  have e2 := List.idxOf_lt_length_of_mem h2
  have g1 : l[l.idxOf 62] = 62 := List.getElem_idxOf e1
  have g2 : l[l.idxOf 42] = 42 := List.getElem_idxOf e2
  generalize l.idxOf 62 = i at *
  generalize l.idxOf 42 = j at *
  have s1 : l.drop j = 42 :: l.drop (j + 1) := by rw [List.drop_eq_getElem_cons e2, g2]
  have s2 : l = l.take j ++ (42 :: l.drop (j + 1)) := by rw [← s1, List.take_append_drop]
  have e3 : i < (l.take j).length := by rw [List.length_take]; omega
  have g3 : (l.take j)[i] = 62 := by rw [List.getElem_take, g1]
  have s3 : (l.take j).drop i = 62 :: (l.take j).drop (i + 1) := by rw [List.drop_eq_getElem_cons e3, g3]
  have s4 : l.take j = l.take i ++ (62 :: (l.take j).drop (i + 1)) := by
    rw [← s3]
    have := (List.take_append_drop i (l.take j)).symm
    rw [List.take_take, Nat.min_eq_left (by omega)] at this
    exact this
  rw [← List.cons_append, ← List.append_assoc, ← s4]
  exact s2
theorem idx_app {c : Nat} {p q : List Nat} (h : c ∉ p) : (p ++ c :: q).idxOf c = p.length := by
  rw [List.idxOf_append]
  simp [h]
end Fw

set_option maxHeartbeats 4000000
namespace K23
open PySem PySem.Spec PyProof.Rows L2 Pv Fw
def topS (i : Nat) : Stmt := PySem.Challenge.pw_fewturned_k23_texts.main.body.getD i (.Pass ⟨0, 0, 0, 0⟩)
abbrev s_is_whole : Stmt := topS 7
abbrev s_between : Stmt := topS 8
abbrev s_is_arrow : Stmt := topS 9
abbrev s_is_web : Stmt := topS 10
abbrev s_checked : Stmt := topS 11
abbrev s_text_of : Stmt := topS 13
abbrev s_shown : Stmt := topS 14
abbrev s_number_of : Stmt := topS 15
abbrev s_arrow_of : Stmt := topS 16
abbrev s_read : Stmt := topS 17
abbrev s_L_cell_at : Stmt := topS 19
abbrev s_L_mixed : Stmt := topS 20
abbrev s_L_web : Stmt := topS 21
abbrev s_L_text : Stmt := topS 22
abbrev s_L_number : Stmt := topS 23
abbrev s_L_due : Stmt := topS 24
abbrev s_L_spoilt : Stmt := topS 25
abbrev s_law : Stmt := topS 26
structure Tops (K : PySem.W.Frag) (mg : Str → Option Value) where
  is_whole : Fn K mg "is_whole" s_is_whole ["thing"]
  between : Fn K mg "between" s_between ["thing", "low", "most"]
  is_arrow : Fn K mg "is_arrow" s_is_arrow ["thing", "many"]
  is_web : Fn K mg "is_web" s_is_web ["thing"]
  checked : Fn K mg "checked" s_checked ["web"]
  text_of : Fn K mg "text_of" s_text_of ["web"]
  shown : Fn K mg "shown" s_shown ["web"]
  number_of : Fn K mg "number_of" s_number_of ["figures"]
  arrow_of : Fn K mg "arrow_of" s_arrow_of ["line"]
  read : Fn K mg "read" s_read ["text"]
  L_cell_at : Fn K mg "_law_cell_at" s_L_cell_at ["_law_script", "_law_k"]
  L_mixed : Fn K mg "_law_mixed" s_L_mixed ["_law_script", "_law_k", "_law_many"]
  L_web : Fn K mg "_law_web" s_L_web ["_law_script", "_law_at", "_law_most"]
  L_text : Fn K mg "_law_text" s_L_text ["_law_web_here"]
  L_number : Fn K mg "_law_number" s_L_number ["_law_word"]
  L_due : Fn K mg "_law_due" s_L_due ["_law_text_here"]
  L_spoilt : Fn K mg "_law_spoilt" s_L_spoilt ["_law_text_here", "_law_cell", "_law_more"]
  law : Fn K mg "law" s_law ["_law_script"]
  x_TurnError : Xc K mg "TurnError"
  x_NoWeb : Xc K mg "NoWeb"
  x_NoText : Xc K mg "NoText"
  n_ValueError : mg "ValueError" = none
  n_all : mg "all" = none
  n_bool : mg "bool" = none
  n_int : mg "int" = none
  n_isinstance : mg "isinstance" = none
  n_len : mg "len" = none
  n_range : mg "range" = none
  n_str : mg "str" = none
  n_tuple : mg "tuple" = none
  c_THINGS : Σ' t : Tok, mg "THINGS" = some (.int 7 t)
  c_WEIGHT : Σ' t : Tok, mg "WEIGHT" = some (.int 99 t)
  i_NoText : ExcC K x_NoText.C
  kx_NoText_NoWeb : PySem.W.kitOne K (.ref x_NoText.C) (.ref x_NoWeb.C) = some false
  kx_NoText_TurnError : PySem.W.kitOne K (.ref x_NoText.C) (.ref x_TurnError.C) = some true
  kx_NoText_ValueError : PySem.W.kitOne K (.ref x_NoText.C) (.type "ValueError") = some true
  xm_NoText_NoText : PySem.W.exmOne K (.ref x_NoText.C) (.ref x_NoText.C) = some true
  xm_NoWeb_NoWeb : PySem.W.exmOne K (.ref x_NoWeb.C) (.ref x_NoWeb.C) = some true
def ecOf {K : PySem.W.Frag} {mg : Str → Option Value} (T : Tops K mg) : Exc → Value
  | .noWeb => .ref T.x_NoWeb.C
  | .noText => .ref T.x_NoText.C
  | _ => .none
theorem sc_is_whole : FnScope ["thing"] ["thing"] (defScope s_is_whole) := ⟨rfl, rfl, rfl, by decide +kernel, rfl, by decide +kernel, by decide +kernel⟩
theorem ok_is_whole {P : Program} {w : World} {K : PySem.W.Frag} {mg : Str → Option Value} {base : Heap} (T : Tops K mg) : FnOk P w K mg base (L2.CX P w) 1 T.is_whole.f T.is_whole.fd ["thing"] (spF K (ecOf T) 1 fs_is_whole) := by
  refine T.is_whole.F.okX sc_is_whole (fun vs H Q E h => h.1) (fun cdv A outer s H vs Q E hr h => ?_)
  · have hu0 := hr.units0
    have hu64 := hr.units
    have hu65 := units65 hr
    have hu1 := units1 hr
    exact ⟨_, (pss_one (ps_ret (pe_and (pe_callB call_isi (by rfl) T.n_isinstance bt_isinstance (pa_cons (pv 0) (pa_cons (pe_bltn (v := .ty "int") (by rfl) T.n_int bt_int rfl) pa_nil))) (pe_one (pe_not (pe_callB call_isi (by rfl) T.n_isinstance bt_isinstance (pa_cons (pv 0) (pa_cons (pe_bltn (v := .ty "bool") (by rfl) T.n_bool bt_bool rfl) pa_nil)))))))), fin_gen (ec := ecOf T) (g := sem_is_whole) (snd_ret (m := true) (snd_andV (snd_cb cs_isi nx_fIsi (snd_cons (snd_var (ltN rfl)) (snd_cons snd_ty snd_nil))) (snd_notV (snd_cb cs_isi nx_fIsi (snd_cons (snd_var (ltN rfl)) (snd_cons snd_ty snd_nil)))))) (by decide) h⟩
theorem sc_between : FnScope ["thing", "low", "most"] ["thing", "low", "most"] (defScope s_between) := ⟨rfl, rfl, rfl, by decide +kernel, rfl, by decide +kernel, by decide +kernel⟩
theorem ok_between {P : Program} {w : World} {K : PySem.W.Frag} {mg : Str → Option Value} {base : Heap} (T : Tops K mg) : FnOk P w K mg base (L2.CX P w) 2 T.between.f T.between.fd ["thing", "low", "most"] (spF K (ecOf T) 3 fs_between) := by
  refine T.between.F.okX sc_between (fun vs H Q E h => h.1) (fun cdv A outer s H vs Q E hr h => ?_)
  · have hu0 := hr.units0
    have hu64 := hr.units
    have hu65 := units65 hr
    have hu1 := units1 hr
    exact ⟨_, (pss_one (ps_ret (pe_and (pe_callS (ok_is_whole T) (hr.mono (by decide)) (by rfl) T.is_whole.g T.is_whole.k T.is_whole.b (fun σ => passAt (takes_of rfl rfl rfl rfl) σ) (pa_cons (pv 0) pa_nil)) (pe_one (pe_chain op_le op_le (pv 1) (pv 0) (pv 2)))))), fin_gen (ec := ecOf T) (g := sem_between) (snd_ret (m := true) (snd_andV (snd_call (snd_cons (snd_var (ltN rfl)) snd_nil)) (snd_chain os_le os_le (snd_var (ltN rfl)) (snd_var (ltN rfl)) (snd_var (ltN rfl))))) (by decide) h⟩
theorem sc_is_arrow : FnScope ["thing", "many"] ["thing", "many"] (defScope s_is_arrow) := ⟨rfl, rfl, rfl, by decide +kernel, rfl, by decide +kernel, by decide +kernel⟩
theorem ok_is_arrow {P : Program} {w : World} {K : PySem.W.Frag} {mg : Str → Option Value} {base : Heap} (T : Tops K mg) : FnOk P w K mg base (L2.CX P w) 3 T.is_arrow.f T.is_arrow.fd ["thing", "many"] (spF K (ecOf T) 2 fs_is_arrow) := by
  refine T.is_arrow.F.okX sc_is_arrow (fun vs H Q E h => h.1) (fun cdv A outer s H vs Q E hr h => ?_)
  · have hu0 := hr.units0
    have hu64 := hr.units
    have hu65 := units65 hr
    have hu1 := units1 hr
    exact ⟨_, (pss_cons (ps_if (PW.pt (pw_or (pt_not (pt_val (pe_callB call_isi (by rfl) T.n_isinstance bt_isinstance (pa_cons (pv 0) (pa_cons (pe_bltn (v := .ty "tuple") (by rfl) T.n_tuple bt_tuple rfl) pa_nil))))) (pw_or1 (pt_cmpR (op_neK (K := K) hu64) (pe_callB call_lenA (by rfl) T.n_len bt_len (pa_cons (pv 0) pa_nil)) pe_int (nomark _))))) (pss_one (ps_ret pe_bl)) pss_nil)
      (pss_cons (ps_if (PW.pt (pw_or (pt_not (pt_val (pe_callS (ok_between T) (hr.mono (by decide)) (by rfl) T.between.g T.between.k T.between.b (fun σ => passAt (takes_of rfl rfl rfl rfl) σ) (pa_cons (pe_ix (ix_seqK (K := K)) (pv 0) pe_int (fun _ _ => rfl)) (pa_cons pe_int (pa_cons (pe_op op_sub (pv 1) pe_int) pa_nil)))))) (pw_or1 (pt_not (pt_val (pe_callS (ok_between T) (hr.mono (by decide)) (by rfl) T.between.g T.between.k T.between.b (fun σ => passAt (takes_of rfl rfl rfl rfl) σ) (pa_cons (pe_ix (ix_seqK (K := K)) (pv 0) pe_int (fun _ _ => rfl)) (pa_cons pe_int (pa_cons (pe_op op_sub (pv 1) pe_int) pa_nil))))))))) (pss_one (ps_ret pe_bl)) pss_nil)
      (pss_one (ps_ret (pe_and (pe_cmpR (op_neK (K := K) hu64) (pe_ix (ix_seqK (K := K)) (pv 0) pe_int (fun _ _ => rfl)) (pe_ix (ix_seqK (K := K)) (pv 0) pe_int (fun _ _ => rfl)) (nomark _)) (pe_one (pe_callS (ok_between T) (hr.mono (by decide)) (by rfl) T.between.g T.between.k T.between.b (fun σ => passAt (takes_of rfl rfl rfl rfl) σ) (pa_cons (pe_ix (ix_seqK (K := K)) (pv 0) pe_int (fun _ _ => rfl)) (pa_cons pe_int (pa_cons (pe_glob (v := .int 99) (by rfl) T.c_WEIGHT.2 ⟨_, rfl⟩) pa_nil)))))))))), fin_gen (ec := ecOf T) (g := sem_is_arrow) (snd_seq (snd_if (snd_tor (snd_tnot (snd_tb (snd_cb cs_isi nx_fIsi (snd_cons (snd_var (ltN rfl)) (snd_cons snd_ty snd_nil))))) (snd_ts (snd_bin os_ne (snd_cb cs_len nx_fLen (snd_cons (snd_var (ltN rfl)) snd_nil)) snd_int))) (snd_ret (m := true) snd_bl) snd_next)
      (snd_seq (snd_if (snd_tor (snd_tnot (snd_tb (snd_call (snd_cons (snd_bin os_ix (snd_var (ltN rfl)) snd_int) (snd_cons snd_int (snd_cons (snd_bin os_sub (snd_var (ltN rfl)) snd_int) snd_nil)))))) (snd_tnot (snd_tb (snd_call (snd_cons (snd_bin os_ix (snd_var (ltN rfl)) snd_int) (snd_cons snd_int (snd_cons (snd_bin os_sub (snd_var (ltN rfl)) snd_int) snd_nil))))))) (snd_ret (m := true) snd_bl) snd_next)
      (snd_ret (m := true) (snd_andV (snd_bin os_ne (snd_bin os_ix (snd_var (ltN rfl)) snd_int) (snd_bin os_ix (snd_var (ltN rfl)) snd_int)) (snd_call (snd_cons (snd_bin os_ix (snd_var (ltN rfl)) snd_int) (snd_cons snd_int (snd_cons snd_int snd_nil)))))))) (by decide) h⟩
theorem sc_is_web : FnScope ["thing", "arrows", "arrow", "k"] ["thing"] (defScope s_is_web) := ⟨rfl, rfl, rfl, by decide +kernel, rfl, by decide +kernel, by decide +kernel⟩
theorem ok_is_web {P : Program} {w : World} {K : PySem.W.Frag} {mg : Str → Option Value} {base : Heap} (T : Tops K mg) : FnOk P w K mg base (L2.CX P w) 4 T.is_web.f T.is_web.fd ["thing"] (spF K (ecOf T) 1 fs_is_web) := by
  refine T.is_web.F.okX sc_is_web (fun vs H Q E h => h.1) (fun cdv A outer s H vs Q E hr h => ?_)
  · have hu0 := hr.units0
    have hu64 := hr.units
    have hu65 := units65 hr
    have hu1 := units1 hr
    exact ⟨_, (pss_cons (ps_if (PW.pt (pw_or (pt_not (pt_val (pe_callB call_isi (by rfl) T.n_isinstance bt_isinstance (pa_cons (pv 0) (pa_cons (pe_bltn (v := .ty "tuple") (by rfl) T.n_tuple bt_tuple rfl) pa_nil))))) (pw_or (pt_cmpR (op_neK (K := K) hu64) (pe_callB call_lenA (by rfl) T.n_len bt_len (pa_cons (pv 0) pa_nil)) pe_int (nomark _)) (pw_or1 (pt_not (pt_val (pe_callS (ok_between T) (hr.mono (by decide)) (by rfl) T.between.g T.between.k T.between.b (fun σ => passAt (takes_of rfl rfl rfl rfl) σ) (pa_cons (pe_ix (ix_seqK (K := K)) (pv 0) pe_int (fun _ _ => rfl)) (pa_cons pe_int (pa_cons (pe_glob (v := .int 7) (by rfl) T.c_THINGS.2 ⟨_, rfl⟩) pa_nil)))))))))) (pss_one (ps_ret pe_bl)) pss_nil)
      (pss_cons (ps_set (i := 1) sc_is_web.nd rfl (by first | exact .inl rfl | exact .inr rfl) (pe_ix (ix_seqK (K := K)) (pv 0) pe_int (fun _ _ => rfl)))
      (pss_cons (ps_if (PW.pt (pw_or (pt_not (pt_val (pe_callB call_isi (by rfl) T.n_isinstance bt_isinstance (pa_cons (pv 1) (pa_cons (pe_bltn (v := .ty "tuple") (by rfl) T.n_tuple bt_tuple rfl) pa_nil))))) (pw_or1 (pt_not (pt_val (pe_callB (cr_all rfl) (by rfl) T.n_all bt_all (pa_cons (pe_lc rfl sc_is_web.nd (pi_tup (pv 1)) (blk_of (own := [("arrow", 2)]) (by kernel_rfl)) (fun s H C cl fp => (pg_name (i := 2) sc_is_web.nd rfl (by first | exact .inl rfl | exact .inr rfl))) (fun s H C cl fp => pts_nil) (fun s H C cl fp => (pe_callS (ok_is_arrow T) (hr.mono (by decide)) (by rfl) T.is_arrow.g T.is_arrow.k T.is_arrow.b (fun σ => passAt takes0 σ) (pa_cons (pv 2) (pa_cons (pe_ix (ix_seqK (K := K)) (pv 0) pe_int (fun _ _ => rfl)) pa_nil))))) pa_nil))))))) (pss_one (ps_ret pe_bl)) pss_nil)
      (pss_one (ps_ret (pe_callB (cr_all rfl) (by rfl) T.n_all bt_all (pa_cons (pe_lc rfl sc_is_web.nd (pi_range1 (by rfl) T.n_range (pa_cons (pe_op op_sub (pe_callB call_lenA (by rfl) T.n_len bt_len (pa_cons (pv 1) pa_nil)) pe_int) pa_nil)) (blk_of (own := [("k", 3)]) (by kernel_rfl)) (fun s H C cl fp => (pg_name (i := 3) sc_is_web.nd rfl (by first | exact .inl rfl | exact .inr rfl))) (fun s H C cl fp => pts_nil) (fun s H C cl fp => (pe_cmpR (op_ltAll hu0) (pe_slice sl_AP (pe_ix (ix_seqK (K := K)) (pv 1) (pv 3) (fun _ _ => rfl)) po_none (po_some pe_int)) (pe_slice sl_AP (pe_ix (ix_seqK (K := K)) (pv 1) (pe_op op_addAll (pv 3) pe_int) (fun _ _ => rfl)) po_none (po_some pe_int)) (nomark _)))) pa_nil))))))), fin_gen (ec := ecOf T) (g := sem_is_web) (snd_seq (snd_if (snd_tor (snd_tnot (snd_tb (snd_cb cs_isi nx_fIsi (snd_cons (snd_var (ltN rfl)) (snd_cons snd_ty snd_nil))))) (snd_tor (snd_ts (snd_bin os_ne (snd_cb cs_len nx_fLen (snd_cons (snd_var (ltN rfl)) snd_nil)) snd_int)) (snd_tnot (snd_tb (snd_call (snd_cons (snd_bin os_ix (snd_var (ltN rfl)) snd_int) (snd_cons snd_int (snd_cons snd_int snd_nil)))))))) (snd_ret (m := true) snd_bl) snd_next)
      (snd_seq (snd_set (m := true) (ltN rfl) (snd_bin os_ix (snd_var (ltN rfl)) snd_int))
      (snd_seq (snd_if (snd_tor (snd_tnot (snd_tb (snd_cb cs_isi nx_fIsi (snd_cons (snd_var (ltN rfl)) (snd_cons snd_ty snd_nil))))) (snd_tnot (snd_tb (snd_cb cs_all nx_fAll (snd_cons (snd_comp (si_tup (snd_var (ltN rfl))) (sg_name (ltN rfl)) snd_pts0 (snd_call (snd_cons (snd_var (ltN rfl)) (snd_cons (snd_bin os_ix (snd_var (ltN rfl)) snd_int) snd_nil)))) snd_nil))))) (snd_ret (m := true) snd_bl) snd_next)
      (snd_ret (m := true) (snd_cb cs_all nx_fAll (snd_cons (snd_comp (si_rng1 (snd_cons (snd_bin os_sub (snd_cb cs_len nx_fLen (snd_cons (snd_var (ltN rfl)) snd_nil)) snd_int) snd_nil)) (sg_name (ltN rfl)) snd_pts0 (snd_bin os_ltA (snd_sl ss_AP (snd_bin os_ix (snd_var (ltN rfl)) (snd_var (ltN rfl))) snd_pno (snd_psome snd_int)) (snd_sl ss_AP (snd_bin os_ix (snd_var (ltN rfl)) (snd_bin os_add (snd_var (ltN rfl)) snd_int)) snd_pno (snd_psome snd_int)))) snd_nil)))))) (by decide) h⟩
theorem sc_checked : FnScope ["web"] ["web"] (defScope s_checked) := ⟨rfl, rfl, rfl, by decide +kernel, rfl, by decide +kernel, by decide +kernel⟩
theorem ok_checked {P : Program} {w : World} {K : PySem.W.Frag} {mg : Str → Option Value} {base : Heap} (T : Tops K mg) : FnOk P w K mg base (L2.CX P w) 5 T.checked.f T.checked.fd ["web"] (spF K (ecOf T) 1 fs_checked) := by
  refine T.checked.F.okX sc_checked (fun vs H Q E h => h.1) (fun cdv A outer s H vs Q E hr h => ?_)
  · have hu0 := hr.units0
    have hu64 := hr.units
    have hu65 := units65 hr
    have hu1 := units1 hr
    exact ⟨_, (pss_cons (ps_if (pt_not (pt_val (pe_callS (ok_is_web T) (hr.mono (by decide)) (by rfl) T.is_web.g T.is_web.k T.is_web.b (fun σ => passAt (takes_of rfl rfl rfl rfl) σ) (pa_cons (pv 0) pa_nil)))) (pss_one (ps_raise rfl (takes_of rfl rfl rfl rfl) (pmk_own PySem.F.excBase_ValueError T.x_NoWeb.q T.x_NoWeb.g T.x_NoWeb.k (raises_own T.x_NoWeb.e T.x_NoWeb.t) (by rfl)))) pss_nil)
      (pss_one (ps_ret (pv 0)))), fin_gen (ec := ecOf T) (g := sem_checked) (snd_seq (snd_if (snd_tnot (snd_tb (snd_call (snd_cons (snd_var (ltN rfl)) snd_nil)))) (snd_raise (c := .noWeb)) snd_next)
      (snd_ret (m := true) (snd_var (ltN rfl)))) (by decide) h⟩
def ce_text_of_1 : Envi → R Hd :=
  (eBin opAdd (eBin opAdd (eBin opAdd (eBin opAdd (eCB fStrI (aCons (eVar 2) aNil)) (eC (.str ">"))) (eCB fStrI (aCons (eVar 3) aNil))) (eC (.str "*"))) (eCB fStrI (aCons (eVar 4) aNil)))
def ce_text_of_2 : Envi → R Hd :=
  (eBin opAdd (eVar 5) (eC (.str "\n")))
theorem sc_text_of : FnScope ["web", "lines", "ahead", "behind", "heavy", "line"] ["web"] (defScope s_text_of) := ⟨rfl, rfl, rfl, by decide +kernel, rfl, by decide +kernel, by decide +kernel⟩
def sem_text_of : Sem :=
  (sSeq (sSet 1 (eLst (aCons (eBin opAdd (eC (.str "things ")) (eCB fStrI (aCons (eBin opIx (eVar 0) (eC (.int 0))) aNil))) aNil)))
    (sSeq (sDrop (eMut 1 okT "list" muExtend (aCons (eComp (itBy tupOf (eBin opIx (eVar 0) (eC (.int 1)))) (bT 3 (bsCons (bN 2) (bsCons (bN 3) (bsCons (bN 4) bsNil)))) tTrue ce_text_of_1 [2, 3, 4]) aNil)))
    (sRet (eM1 opJoin (eC (.str "")) (eComp (itBy lstOf (eVar 1)) (bN 5) tTrue ce_text_of_2 [5])))))
def fs_text_of : List D → Rf := fsOf 6 sem_text_of
theorem ok_text_of {P : Program} {w : World} {K : PySem.W.Frag} {mg : Str → Option Value} {base : Heap} (T : Tops K mg) : FnOk P w K mg base (L2.CX P w) 1 T.text_of.f T.text_of.fd ["web"] (spF K (ecOf T) 1 fs_text_of) := by
  refine T.text_of.F.okX sc_text_of (fun vs H Q E h => h.1) (fun cdv A outer s H vs Q E hr h => ?_)
  · have hu0 := hr.units0
    have hu64 := hr.units
    have hu65 := units65 hr
    have hu1 := units1 hr
    exact ⟨_, (pss_cons (ps_set (i := 1) sc_text_of.nd rfl (by first | exact .inl rfl | exact .inr rfl) (pe_lst (pa_cons (pe_op op_addAll pe_str (pe_callTy call_str_int (by rfl) T.n_str bt_str (pa_cons (pe_ix (ix_seqK (K := K)) (pv 0) pe_int (fun _ _ => rfl)) pa_nil))) pa_nil)))
      (pss_cons (ps_expr (pe_bm PySem.F.plainAttrs_list PySem.F.slot_list_extend PySem.F.type_list_extend mt_extend (pv 1) (pa_cons (pe_lc rfl sc_text_of.nd (pi_tup (pe_ix (ix_seqK (K := K)) (pv 0) pe_int (fun _ _ => rfl))) (blk_of (own := [("ahead", 2), ("behind", 3), ("heavy", 4)]) (by kernel_rfl)) (fun s H C cl fp => (pg_tupK (K := K) rfl (pgs_cons (pg_name (i := 2) sc_text_of.nd rfl (by first | exact .inl rfl | exact .inr rfl)) (pgs_cons (pg_name (i := 3) sc_text_of.nd rfl (by first | exact .inl rfl | exact .inr rfl)) (pgs_cons (pg_name (i := 4) sc_text_of.nd rfl (by first | exact .inl rfl | exact .inr rfl)) pgs_nil))))) (fun s H C cl fp => pts_nil) (fun s H C cl fp => (pe_op op_addAll (pe_op op_addAll (pe_op op_addAll (pe_op op_addAll (pe_callTy call_str_int (by rfl) T.n_str bt_str (pa_cons (pv 2) pa_nil)) pe_str) (pe_callTy call_str_int (by rfl) T.n_str bt_str (pa_cons (pv 3) pa_nil))) pe_str) (pe_callTy call_str_int (by rfl) T.n_str bt_str (pa_cons (pv 4) pa_nil))))) pa_nil)))
      (pss_one (ps_ret (pe_join pe_str (pe_lc rfl sc_text_of.nd (pi_list (pv 1)) (blk_of (own := [("line", 5)]) (by kernel_rfl)) (fun s H C cl fp => (pg_name (i := 5) sc_text_of.nd rfl (by first | exact .inl rfl | exact .inr rfl))) (fun s H C cl fp => pts_nil) (fun s H C cl fp => (pe_op op_addAll (pv 5) pe_str)))))))), fin_gen (ec := ecOf T) (g := sem_text_of) (snd_seq (snd_set (m := true) (ltN rfl) (snd_lst (snd_cons (snd_bin os_add snd_str (snd_cb cs_strI nx_fStrI (snd_cons (snd_bin os_ix (snd_var (ltN rfl)) snd_int) snd_nil))) snd_nil)))
      (snd_seq (snd_drop (m := true) (snd_mut (sp_var (ltN rfl)) ms_extend (snd_cons (snd_comp (si_tup (snd_bin os_ix (snd_var (ltN rfl)) snd_int)) (sg_tup (sgs_cons (sg_name (ltN rfl)) (sgs_cons (sg_name (ltN rfl)) (sgs_cons (sg_name (ltN rfl)) sgs_nil)))) snd_pts0 (snd_bin os_add (snd_bin os_add (snd_bin os_add (snd_bin os_add (snd_cb cs_strI nx_fStrI (snd_cons (snd_var (ltN rfl)) snd_nil)) snd_str) (snd_cb cs_strI nx_fStrI (snd_cons (snd_var (ltN rfl)) snd_nil))) snd_str) (snd_cb cs_strI nx_fStrI (snd_cons (snd_var (ltN rfl)) snd_nil)))) snd_nil) (.inr (ltN rfl))))
      (snd_ret (m := true) (snd_m1 m1_join snd_str (snd_comp (si_list (snd_var (ltN rfl))) (sg_name (ltN rfl)) snd_pts0 (snd_bin os_add (snd_var (ltN rfl)) snd_str)))))) (by decide) h⟩
theorem sc_shown : FnScope ["web"] ["web"] (defScope s_shown) := ⟨rfl, rfl, rfl, by decide +kernel, rfl, by decide +kernel, by decide +kernel⟩
def sem_shown : Sem :=
  (sRet (eCall fs_text_of (aCons (eCall fs_checked (aCons (eVar 0) aNil)) aNil)))
def fs_shown : List D → Rf := fsOf 1 sem_shown
theorem ok_shown {P : Program} {w : World} {K : PySem.W.Frag} {mg : Str → Option Value} {base : Heap} (T : Tops K mg) : FnOk P w K mg base (L2.CX P w) 6 T.shown.f T.shown.fd ["web"] (spF K (ecOf T) 1 fs_shown) := by
  refine T.shown.F.okX sc_shown (fun vs H Q E h => h.1) (fun cdv A outer s H vs Q E hr h => ?_)
  · have hu0 := hr.units0
    have hu64 := hr.units
    have hu65 := units65 hr
    have hu1 := units1 hr
    exact ⟨_, (pss_one (ps_ret (pe_callS (ok_text_of T) (hr.mono (by decide)) (by rfl) T.text_of.g T.text_of.k T.text_of.b (fun σ => passAt (takes_of rfl rfl rfl rfl) σ) (pa_cons (pe_callS (ok_checked T) (hr.mono (by decide)) (by rfl) T.checked.g T.checked.k T.checked.b (fun σ => passAt (takes_of rfl rfl rfl rfl) σ) (pa_cons (pv 0) pa_nil)) pa_nil)))), fin_gen (ec := ecOf T) (g := sem_shown) (snd_ret (m := true) (snd_call (snd_cons (snd_call (snd_cons (snd_var (ltN rfl)) snd_nil)) snd_nil))) (by decide) h⟩
def ce_number_of_1 : Envi → R Hd :=
  (eBin opInS (eVar 1) (eC (.str "0123456789")))
theorem sc_number_of : FnScope ["figures", "sign"] ["figures"] (defScope s_number_of) := ⟨rfl, rfl, rfl, by decide +kernel, rfl, by decide +kernel, by decide +kernel⟩
def sem_number_of : Sem :=
  (sSeq (sIf (tsOr (tsNot (tsE (eChain opLe opLe (eC (.int 1)) (eCB fLen (aCons (eVar 0) aNil)) (eC (.int 2))))) (tsNot (tsE (eCB fAll (aCons (eComp (itBy signsD (eVar 0)) (bN 1) tTrue ce_number_of_1 [1]) aNil))))) (sRaise .noText) sNext)
    (sRet (eCB fIntT (aCons (eVar 0) aNil))))
def fs_number_of : List D → Rf := fsOf 2 sem_number_of
theorem ok_number_of {P : Program} {w : World} {K : PySem.W.Frag} {mg : Str → Option Value} {base : Heap} (T : Tops K mg) : FnOk P w K mg base (L2.CX P w) 1 T.number_of.f T.number_of.fd ["figures"] (spF K (ecOf T) 1 fs_number_of) := by
  refine T.number_of.F.okX sc_number_of (fun vs H Q E h => h.1) (fun cdv A outer s H vs Q E hr h => ?_)
  · have hu0 := hr.units0
    have hu64 := hr.units
    have hu65 := units65 hr
    have hu1 := units1 hr
    exact ⟨_, (pss_cons (ps_if (PW.pt (pw_or (pt_not (pt_chain op_le op_le pe_int (pe_callB call_lenA (by rfl) T.n_len bt_len (pa_cons (pv 0) pa_nil)) pe_int)) (pw_or1 (pt_not (pt_val (pe_callB (cr_all rfl) (by rfl) T.n_all bt_all (pa_cons (pe_lc rfl sc_number_of.nd (pi_str (pv 0)) (blk_of (own := [("sign", 1)]) (by kernel_rfl)) (fun s H C cl fp => (pg_name (i := 1) sc_number_of.nd rfl (by first | exact .inl rfl | exact .inr rfl))) (fun s H C cl fp => pts_nil) (fun s H C cl fp => (pe_cmpR op_in_str (pv 1) pe_str (by with_unfolding_all rfl)))) pa_nil))))))) (pss_one (ps_raise rfl (takes_of rfl rfl rfl rfl) (pmk_own PySem.F.excBase_ValueError T.x_NoText.q T.x_NoText.g T.x_NoText.k (raises_own T.x_NoText.e T.x_NoText.t) (by rfl)))) pss_nil)
      (pss_one (ps_ret (pe_callTy call_int_str (by rfl) T.n_int bt_int (pa_cons (pv 0) pa_nil))))), fin_gen (ec := ecOf T) (g := sem_number_of) (snd_seq (snd_if (snd_tor (snd_tnot (snd_ts (snd_chain os_le os_le snd_int (snd_cb cs_len nx_fLen (snd_cons (snd_var (ltN rfl)) snd_nil)) snd_int))) (snd_tnot (snd_tb (snd_cb cs_all nx_fAll (snd_cons (snd_comp (si_str (snd_var (ltN rfl))) (sg_name (ltN rfl)) snd_pts0 (snd_bin os_inS (snd_var (ltN rfl)) snd_str)) snd_nil))))) (snd_raise (c := .noText)) snd_next)
      (snd_ret (m := true) (snd_cb cs_intT nx_fIntT (snd_cons (snd_var (ltN rfl)) snd_nil)))) (by decide) h⟩
theorem sc_arrow_of : FnScope ["line", "pieces", "ahead", "behind"] ["line"] (defScope s_arrow_of) := ⟨rfl, rfl, rfl, by decide +kernel, rfl, by decide +kernel, by decide +kernel⟩
def sem_arrow_of : Sem :=
  (sSeq (sSet 1 (eM1 opSplit (eVar 0) (eC (.str "*"))))
    (sSeq (sIf (tsOr (tsE (eBin opNe (eCB fLen (aCons (eVar 1) aNil)) (eC (.int 2)))) (tsE (eBin opNe (eCB fLen (aCons (eM1 opSplit (eBin opIx (eVar 1) (eC (.int 0))) (eC (.str ">"))) aNil)) (eC (.int 2))))) (sRaise .noText) sNext)
    (sSeq (sAsg (eM1 opSplit (eBin opIx (eVar 1) (eC (.int 0))) (eC (.str ">"))) (bL 2 (bsCons (bN 2) (bsCons (bN 3) bsNil))))
    (sRet (eTup (aCons (eCall fs_number_of (aCons (eVar 2) aNil)) (aCons (eCall fs_number_of (aCons (eVar 3) aNil)) (aCons (eCall fs_number_of (aCons (eBin opIx (eVar 1) (eC (.int 1))) aNil)) aNil))))))))
def fs_arrow_of : List D → Rf := fsOf 4 sem_arrow_of
theorem ok_arrow_of {P : Program} {w : World} {K : PySem.W.Frag} {mg : Str → Option Value} {base : Heap} (T : Tops K mg) : FnOk P w K mg base (L2.CX P w) 2 T.arrow_of.f T.arrow_of.fd ["line"] (spF K (ecOf T) 1 fs_arrow_of) := by
  refine T.arrow_of.F.okX sc_arrow_of (fun vs H Q E h => h.1) (fun cdv A outer s H vs Q E hr h => ?_)
  · have hu0 := hr.units0
    have hu64 := hr.units
    have hu65 := units65 hr
    have hu1 := units1 hr
    exact ⟨_, (pss_cons (ps_set (i := 1) sc_arrow_of.nd rfl (by first | exact .inl rfl | exact .inr rfl) (pe_split (pv 0) pe_str))
      (pss_cons (ps_if (PW.pt (pw_or (pt_cmpR (op_neK (K := K) hu64) (pe_callB call_lenA (by rfl) T.n_len bt_len (pa_cons (pv 1) pa_nil)) pe_int (nomark _)) (pw_or1 (pt_cmpR (op_neK (K := K) hu64) (pe_callB call_lenA (by rfl) T.n_len bt_len (pa_cons (pe_split (pe_ix (ix_seqK (K := K)) (pv 1) pe_int (fun _ _ => rfl)) pe_str) pa_nil)) pe_int (nomark _))))) (pss_one (ps_raise rfl (takes_of rfl rfl rfl rfl) (pmk_own PySem.F.excBase_ValueError T.x_NoText.q T.x_NoText.g T.x_NoText.k (raises_own T.x_NoText.e T.x_NoText.t) (by rfl)))) pss_nil)
      (pss_cons (ps_asg (pe_split (pe_ix (ix_seqK (K := K)) (pv 1) pe_int (fun _ _ => rfl)) pe_str) (pg_lst rfl (pgs_cons (pg_name (i := 2) sc_arrow_of.nd rfl (by first | exact .inl rfl | exact .inr rfl)) (pgs_cons (pg_name (i := 3) sc_arrow_of.nd rfl (by first | exact .inl rfl | exact .inr rfl)) pgs_nil))))
      (pss_one (ps_ret (pe_tup (pa_cons (pe_callS (ok_number_of T) (hr.mono (by decide)) (by rfl) T.number_of.g T.number_of.k T.number_of.b (fun σ => passAt (takes_of rfl rfl rfl rfl) σ) (pa_cons (pv 2) pa_nil)) (pa_cons (pe_callS (ok_number_of T) (hr.mono (by decide)) (by rfl) T.number_of.g T.number_of.k T.number_of.b (fun σ => passAt (takes_of rfl rfl rfl rfl) σ) (pa_cons (pv 3) pa_nil)) (pa_cons (pe_callS (ok_number_of T) (hr.mono (by decide)) (by rfl) T.number_of.g T.number_of.k T.number_of.b (fun σ => passAt (takes_of rfl rfl rfl rfl) σ) (pa_cons (pe_ix (ix_seqK (K := K)) (pv 1) pe_int (fun _ _ => rfl)) pa_nil)) pa_nil))))))))), fin_gen (ec := ecOf T) (g := sem_arrow_of) (snd_seq (snd_set (m := true) (ltN rfl) (snd_m1 m1_split (snd_var (ltN rfl)) snd_str))
      (snd_seq (snd_if (snd_tor (snd_ts (snd_bin os_ne (snd_cb cs_len nx_fLen (snd_cons (snd_var (ltN rfl)) snd_nil)) snd_int)) (snd_ts (snd_bin os_ne (snd_cb cs_len nx_fLen (snd_cons (snd_m1 m1_split (snd_bin os_ix (snd_var (ltN rfl)) snd_int) snd_str) snd_nil)) snd_int))) (snd_raise (c := .noText)) snd_next)
      (snd_seq (snd_asg (m := true) (snd_m1 m1_split (snd_bin os_ix (snd_var (ltN rfl)) snd_int) snd_str) (sg_lst (sgs_cons (sg_name (ltN rfl)) (sgs_cons (sg_name (ltN rfl)) sgs_nil))))
      (snd_ret (m := true) (snd_tup (snd_cons (snd_call (snd_cons (snd_var (ltN rfl)) snd_nil)) (snd_cons (snd_call (snd_cons (snd_var (ltN rfl)) snd_nil)) (snd_cons (snd_call (snd_cons (snd_bin os_ix (snd_var (ltN rfl)) snd_int) snd_nil)) snd_nil)))))))) (by decide) h⟩
def ce_read_1 : Envi → R Hd :=
  (eCall fs_arrow_of (aCons (eVar 3) aNil))
theorem sc_read : FnScope ["text", "lines", "web", "line"] ["text"] (defScope s_read) := ⟨rfl, rfl, rfl, by decide +kernel, rfl, by decide +kernel, by decide +kernel⟩
def sem_read : Sem :=
  (sSeq (sIf (tsNot (tsE (eCB fIsi (aCons (eVar 0) (aCons (eC (.ty "str")) aNil))))) (sRaise .noText) sNext)
    (sSeq (sSet 1 (eM1 opSplit (eVar 0) (eC (.str "\n"))))
    (sSeq (sIf (tsOr (tsE (eBin opLtA (eCB fLen (aCons (eVar 1) aNil)) (eC (.int 2)))) (tsOr (tsE (eBin opNe (eSl opSlS (eBin opIx (eVar 1) (eC (.int 0))) pNo (pSome (eC (.int 7)))) (eC (.str "things ")))) (tsE (eBin opNe (eBin opIx (eVar 1) (eUn opNeg (eC (.int 1)))) (eC (.str "")))))) (sRaise .noText) sNext)
    (sSeq (sSet 2 (eTup (aCons (eCall fs_number_of (aCons (eSl opSlS (eBin opIx (eVar 1) (eC (.int 0))) (pSome (eC (.int 7))) pNo) aNil)) (aCons (eCB fTup (aCons (eCompX (itBy lstOf (eSl (opSl false) (eVar 1) (pSome (eC (.int 1))) (pSome (eUn opNeg (eC (.int 1)))))) (bN 3) ce_read_1 [3]) aNil)) aNil))))
    (sSeq (sIf (tsOr (tsNot (tsE (eCall fs_is_web (aCons (eVar 2) aNil)))) (tsE (eBin opNe (eCall fs_text_of (aCons (eVar 2) aNil)) (eVar 0)))) (sRaise .noText) sNext)
    (sRet (eVar 2)))))))
def fs_read : List D → Rf := fsOf 4 sem_read
theorem ok_read {P : Program} {w : World} {K : PySem.W.Frag} {mg : Str → Option Value} {base : Heap} (T : Tops K mg) : FnOk P w K mg base (L2.CX P w) 5 T.read.f T.read.fd ["text"] (spF K (ecOf T) 1 fs_read) := by
  refine T.read.F.okX sc_read (fun vs H Q E h => h.1) (fun cdv A outer s H vs Q E hr h => ?_)
  · have hu0 := hr.units0
    have hu64 := hr.units
    have hu65 := units65 hr
    have hu1 := units1 hr
    exact ⟨_, (pss_cons (ps_if (pt_not (pt_val (pe_callB call_isi (by rfl) T.n_isinstance bt_isinstance (pa_cons (pv 0) (pa_cons (pe_bltn (v := .ty "str") (by rfl) T.n_str bt_str rfl) pa_nil))))) (pss_one (ps_raise rfl (takes_of rfl rfl rfl rfl) (pmk_own PySem.F.excBase_ValueError T.x_NoText.q T.x_NoText.g T.x_NoText.k (raises_own T.x_NoText.e T.x_NoText.t) (by rfl)))) pss_nil)
      (pss_cons (ps_set (i := 1) sc_read.nd rfl (by first | exact .inl rfl | exact .inr rfl) (pe_split (pv 0) pe_str))
      (pss_cons (ps_if (PW.pt (pw_or (pt_cmpR (op_ltAll hu0) (pe_callB call_lenA (by rfl) T.n_len bt_len (pa_cons (pv 1) pa_nil)) pe_int (nomark _)) (pw_or (pt_cmpR (op_neK (K := K) hu64) (pe_slice sl_str (pe_ix (ix_seqK (K := K)) (pv 1) pe_int (fun _ _ => rfl)) po_none (po_some pe_int)) pe_str (nomark _)) (pw_or1 (pt_cmpR (op_neK (K := K) hu64) (pe_ix (ix_seqK (K := K)) (pv 1) (pe_un un_neg pe_int) (fun _ _ => rfl)) pe_str (nomark _)))))) (pss_one (ps_raise rfl (takes_of rfl rfl rfl rfl) (pmk_own PySem.F.excBase_ValueError T.x_NoText.q T.x_NoText.g T.x_NoText.k (raises_own T.x_NoText.e T.x_NoText.t) (by rfl)))) pss_nil)
      (pss_cons (ps_set (i := 2) sc_read.nd rfl (by first | exact .inl rfl | exact .inr rfl) (pe_tup (pa_cons (pe_callS (ok_number_of T) (hr.mono (by decide)) (by rfl) T.number_of.g T.number_of.k T.number_of.b (fun σ => passAt (takes_of rfl rfl rfl rfl) σ) (pa_cons (pe_slice sl_str (pe_ix (ix_seqK (K := K)) (pv 1) pe_int (fun _ _ => rfl)) (po_some pe_int) po_none) pa_nil)) (pa_cons (pe_callTy call_tuple_ofF (by rfl) T.n_tuple bt_tuple (pa_cons (pe_lcX rfl rfl (takes_of rfl rfl rfl rfl) rfl sc_read.nd (pi_list (pe_slice sl_AP (pv 1) (po_some pe_int) (po_some (pe_un un_neg pe_int)))) (blk_of (own := [("line", 3)]) (by kernel_rfl)) (fun s H C cl fp E => (pg_name (i := 3) sc_read.nd rfl (by first | exact .inl rfl | exact .inr rfl))) (fun s H C cl fp E WB hp => (pe_callS (ok_arrow_of T) (hr.mono (by decide)) (by rfl) T.arrow_of.g T.arrow_of.k T.arrow_of.b hp (pa_cons (pv 3) pa_nil)))) pa_nil)) pa_nil))))
      (pss_cons (ps_if (PW.pt (pw_or (pt_not (pt_val (pe_callS (ok_is_web T) (hr.mono (by decide)) (by rfl) T.is_web.g T.is_web.k T.is_web.b (fun σ => passAt (takes_of rfl rfl rfl rfl) σ) (pa_cons (pv 2) pa_nil)))) (pw_or1 (pt_cmpR (op_neK (K := K) hu64) (pe_callS (ok_text_of T) (hr.mono (by decide)) (by rfl) T.text_of.g T.text_of.k T.text_of.b (fun σ => passAt (takes_of rfl rfl rfl rfl) σ) (pa_cons (pv 2) pa_nil)) (pv 0) (nomark _))))) (pss_one (ps_raise rfl (takes_of rfl rfl rfl rfl) (pmk_own PySem.F.excBase_ValueError T.x_NoText.q T.x_NoText.g T.x_NoText.k (raises_own T.x_NoText.e T.x_NoText.t) (by rfl)))) pss_nil)
      (pss_one (ps_ret (pv 2)))))))), fin_gen (ec := ecOf T) (g := sem_read) (snd_seq (snd_if (snd_tnot (snd_tb (snd_cb cs_isi nx_fIsi (snd_cons (snd_var (ltN rfl)) (snd_cons snd_ty snd_nil))))) (snd_raise (c := .noText)) snd_next)
      (snd_seq (snd_set (m := true) (ltN rfl) (snd_m1 m1_split (snd_var (ltN rfl)) snd_str))
      (snd_seq (snd_if (snd_tor (snd_ts (snd_bin os_ltA (snd_cb cs_len nx_fLen (snd_cons (snd_var (ltN rfl)) snd_nil)) snd_int)) (snd_tor (snd_ts (snd_bin os_ne (snd_sl ss_S (snd_bin os_ix (snd_var (ltN rfl)) snd_int) snd_pno (snd_psome snd_int)) snd_str)) (snd_ts (snd_bin os_ne (snd_bin os_ix (snd_var (ltN rfl)) (snd_un us_neg snd_int)) snd_str)))) (snd_raise (c := .noText)) snd_next)
      (snd_seq (snd_set (m := true) (ltN rfl) (snd_tup (snd_cons (snd_call (snd_cons (snd_sl ss_S (snd_bin os_ix (snd_var (ltN rfl)) snd_int) (snd_psome snd_int) snd_pno) snd_nil)) (snd_cons (snd_cb cs_tup nx_fTup (snd_cons (snd_compX (si_list (snd_sl ss_AP (snd_var (ltN rfl)) (snd_psome snd_int) (snd_psome (snd_un us_neg snd_int)))) (sg_name (ltN rfl)) (fun WB => (snd_call (snd_cons (snd_var (ltN rfl)) snd_nil)))) snd_nil)) snd_nil))))
      (snd_seq (snd_if (snd_tor (snd_tnot (snd_tb (snd_call (snd_cons (snd_var (ltN rfl)) snd_nil)))) (snd_ts (snd_bin os_ne (snd_call (snd_cons (snd_var (ltN rfl)) snd_nil)) (snd_var (ltN rfl))))) (snd_raise (c := .noText)) snd_next)
      (snd_ret (m := true) (snd_var (ltN rfl)))))))) (by decide) h⟩
theorem sc__law_cell_at : FnScope ["_law_script", "_law_k"] ["_law_script", "_law_k"] (defScope s_L_cell_at) := ⟨rfl, rfl, rfl, by decide +kernel, rfl, by decide +kernel, by decide +kernel⟩
theorem ok_L_cell_at {P : Program} {w : World} {K : PySem.W.Frag} {mg : Str → Option Value} {base : Heap} (T : Tops K mg) : FnOk P w K mg base (L2.CX P w) 1 T.L_cell_at.f T.L_cell_at.fd ["_law_script", "_law_k"] (spF K (ecOf T) 2 fs_L_cell_at) := by
  refine T.L_cell_at.F.okX sc__law_cell_at (fun vs H Q E h => h.1) (fun cdv A outer s H vs Q E hr h => ?_)
  · have hu0 := hr.units0
    have hu64 := hr.units
    have hu65 := units65 hr
    have hu1 := units1 hr
    exact ⟨_, (pss_cons (ps_if (pt_cmpR (op_ltAll hu0) (pv 1) (pe_callB call_lenA (by rfl) T.n_len bt_len (pa_cons (pv 0) pa_nil)) (nomark _)) (pss_one (ps_ret (pe_ix (ix_seqK (K := K)) (pv 0) (pv 1) (fun _ _ => rfl)))) pss_nil)
      (pss_cons (ps_if (pt_cmpR (op_eqK (K := K) hu64) (pv 0) (pe_lst pa_nil) (nomark _)) (pss_one (ps_ret pe_int)) pss_nil)
      (pss_one (ps_ret (pe_op op_addAll (pe_op op_mulAll (pe_ix (ix_seqK (K := K)) (pv 0) (pe_op op_mod (pv 1) (pe_callB call_lenA (by rfl) T.n_len bt_len (pa_cons (pv 0) pa_nil))) (fun _ _ => rfl)) pe_int) (pv 1)))))), fin_gen (ec := ecOf T) (g := sem_L_cell_at) (snd_seq (snd_if (snd_ts (snd_bin os_ltA (snd_var (ltN rfl)) (snd_cb cs_len nx_fLen (snd_cons (snd_var (ltN rfl)) snd_nil)))) (snd_ret (m := true) (snd_bin os_ix (snd_var (ltN rfl)) (snd_var (ltN rfl)))) snd_next)
      (snd_seq (snd_if (snd_ts (snd_bin os_eq (snd_var (ltN rfl)) (snd_lst snd_nil))) (snd_ret (m := true) snd_int) snd_next)
      (snd_ret (m := true) (snd_bin os_add (snd_bin os_mul (snd_bin os_ix (snd_var (ltN rfl)) (snd_bin os_mod (snd_var (ltN rfl)) (snd_cb cs_len nx_fLen (snd_cons (snd_var (ltN rfl)) snd_nil)))) snd_int) (snd_var (ltN rfl)))))) (by decide) h⟩
theorem sc__law_mixed : FnScope ["_law_script", "_law_k", "_law_many", "_law_drawn"] ["_law_script", "_law_k", "_law_many"] (defScope s_L_mixed) := ⟨rfl, rfl, rfl, by decide +kernel, rfl, by decide +kernel, by decide +kernel⟩
theorem ok_L_mixed {P : Program} {w : World} {K : PySem.W.Frag} {mg : Str → Option Value} {base : Heap} (T : Tops K mg) : FnOk P w K mg base (L2.CX P w) 2 T.L_mixed.f T.L_mixed.fd ["_law_script", "_law_k", "_law_many"] (spF K (ecOf T) 3 fs_L_mixed) := by
  refine T.L_mixed.F.okX sc__law_mixed (fun vs H Q E h => h.1) (fun cdv A outer s H vs Q E hr h => ?_)
  · have hu0 := hr.units0
    have hu64 := hr.units
    have hu65 := units65 hr
    have hu1 := units1 hr
    exact ⟨_, (pss_cons (ps_set (i := 3) sc__law_mixed.nd rfl (by first | exact .inl rfl | exact .inr rfl) (pe_op op_mod (pe_op op_mulAll (pe_op op_addAll (pe_op op_addAll (pe_callS (ok_L_cell_at T) (hr.mono (by decide)) (by rfl) T.L_cell_at.g T.L_cell_at.k T.L_cell_at.b (fun σ => passAt (takes_of rfl rfl rfl rfl) σ) (pa_cons (pv 0) (pa_cons (pv 1) pa_nil))) (pe_op op_mulAll pe_int (pv 1))) pe_int) pe_int) pe_int))
      (pss_one (ps_ret (pe_op op_mod (pe_op op_mod (pe_op op_addAll (pe_op op_addAll (pe_op op_mulAll (pv 3) (pv 3)) (pe_op op_mulAll pe_int (pv 3))) (pv 1)) pe_int) (pv 2))))), fin_gen (ec := ecOf T) (g := sem_L_mixed) (snd_seq (snd_set (m := true) (ltN rfl) (snd_bin os_mod (snd_bin os_mul (snd_bin os_add (snd_bin os_add (snd_call (snd_cons (snd_var (ltN rfl)) (snd_cons (snd_var (ltN rfl)) snd_nil))) (snd_bin os_mul snd_int (snd_var (ltN rfl)))) snd_int) snd_int) snd_int))
      (snd_ret (m := true) (snd_bin os_mod (snd_bin os_mod (snd_bin os_add (snd_bin os_add (snd_bin os_mul (snd_var (ltN rfl)) (snd_var (ltN rfl))) (snd_bin os_mul snd_int (snd_var (ltN rfl)))) (snd_var (ltN rfl))) snd_int) (snd_var (ltN rfl))))) (by decide) h⟩
theorem sc__law_web : FnScope ["_law_script", "_law_at", "_law_most", "_law_many", "_law_thick", "_law_top", "_law_arrows", "_law_ahead", "_law_behind", "_law_cell"] ["_law_script", "_law_at", "_law_most"] (defScope s_L_web) := ⟨rfl, rfl, rfl, by decide +kernel, rfl, by decide +kernel, by decide +kernel⟩
theorem ok_L_web {P : Program} {w : World} {K : PySem.W.Frag} {mg : Str → Option Value} {base : Heap} (T : Tops K mg) : FnOk P w K mg base (L2.CX P w) 3 T.L_web.f T.L_web.fd ["_law_script", "_law_at", "_law_most"] (spF K (ecOf T) 3 fs_L_web) := by
  refine T.L_web.F.okX sc__law_web (fun vs H Q E h => h.1) (fun cdv A outer s H vs Q E hr h => ?_)
  · have hu0 := hr.units0
    have hu64 := hr.units
    have hu65 := units65 hr
    have hu1 := units1 hr
    exact ⟨_, (pss_cons (ps_set (i := 3) sc__law_web.nd rfl (by first | exact .inl rfl | exact .inr rfl) (pe_op op_addAll pe_int (pe_callS (ok_L_mixed T) (hr.mono (by decide)) (by rfl) T.L_mixed.g T.L_mixed.k T.L_mixed.b (fun σ => passAt (takes_of rfl rfl rfl rfl) σ) (pa_cons (pv 0) (pa_cons (pv 1) (pa_cons (pv 2) pa_nil))))))
      (pss_cons (ps_set (i := 4) sc__law_web.nd rfl (by first | exact .inl rfl | exact .inr rfl) (pe_op op_addAll pe_int (pe_callS (ok_L_mixed T) (hr.mono (by decide)) (by rfl) T.L_mixed.g T.L_mixed.k T.L_mixed.b (fun σ => passAt (takes_of rfl rfl rfl rfl) σ) (pa_cons (pv 0) (pa_cons (pe_op op_addAll (pv 1) pe_int) (pa_cons pe_int pa_nil))))))
      (pss_cons (ps_set (i := 5) sc__law_web.nd rfl (by first | exact .inl rfl | exact .inr rfl) (pe_ix (ix_seqK (K := K)) (pe_lst (pa_cons pe_int (pa_cons pe_int (pa_cons pe_int (pa_cons pe_int pa_nil))))) (pe_callS (ok_L_mixed T) (hr.mono (by decide)) (by rfl) T.L_mixed.g T.L_mixed.k T.L_mixed.b (fun σ => passAt (takes_of rfl rfl rfl rfl) σ) (pa_cons (pv 0) (pa_cons (pe_op op_addAll (pv 1) pe_int) (pa_cons pe_int pa_nil)))) (fun _ _ => rfl)))
      (pss_cons (ps_set (i := 6) sc__law_web.nd rfl (by first | exact .inl rfl | exact .inr rfl) (pe_lst pa_nil))
      (pss_cons (ps_for (passes_of rfl) rfl (pi_range1 (by rfl) T.n_range (pa_cons (pv 3) pa_nil)) (pg_name (i := 7) sc__law_web.nd rfl (by first | exact .inl rfl | exact .inr rfl))
      (pss_one (ps_for (passes_of rfl) rfl (pi_range1 (by rfl) T.n_range (pa_cons (pv 3) pa_nil)) (pg_name (i := 8) sc__law_web.nd rfl (by first | exact .inl rfl | exact .inr rfl))
      (pss_cons (ps_set (i := 9) sc__law_web.nd rfl (by first | exact .inl rfl | exact .inr rfl) (pe_callS (ok_L_mixed T) (hr.mono (by decide)) (by rfl) T.L_mixed.g T.L_mixed.k T.L_mixed.b (fun σ => passAt (takes_of rfl rfl rfl rfl) σ) (pa_cons (pv 0) (pa_cons (pe_op op_addAll (pe_op op_addAll (pe_op op_addAll (pv 1) pe_int) (pe_op op_mulAll pe_int (pv 7))) (pv 8)) (pa_cons (pe_op op_mulAll pe_int (pv 5)) pa_nil)))))
      (pss_one (ps_if (PW.pt (pw_and (pt_cmpR (op_neK (K := K) hu64) (pv 7) (pv 8) (nomark _)) (pw_and1 (pt_cmpR (op_ltAll hu0) (pe_op op_mod (pv 9) pe_int) (pv 4) (nomark _))))) (pss_one (ps_expr (pe_bm PySem.F.plainAttrs_list PySem.F.slot_list_append PySem.F.type_list_append mt_append (pv 6) (pa_cons (pe_tup (pa_cons (pv 7) (pa_cons (pv 8) (pa_cons (pe_op op_addAll pe_int (pe_op op_fdivW (pv 9) pe_int)) pa_nil)))) pa_nil)))) pss_nil))))))
      (pss_one (ps_ret (pe_tup (pa_cons (pv 3) (pa_cons (pe_callTy call_tuple_ofF (by rfl) T.n_tuple bt_tuple (pa_cons (pv 6) pa_nil)) pa_nil)))))))))), fin_gen (ec := ecOf T) (g := sem_L_web) (snd_seq (snd_set (m := true) (ltN rfl) (snd_bin os_add snd_int (snd_call (snd_cons (snd_var (ltN rfl)) (snd_cons (snd_var (ltN rfl)) (snd_cons (snd_var (ltN rfl)) snd_nil))))))
      (snd_seq (snd_set (m := true) (ltN rfl) (snd_bin os_add snd_int (snd_call (snd_cons (snd_var (ltN rfl)) (snd_cons (snd_bin os_add (snd_var (ltN rfl)) snd_int) (snd_cons snd_int snd_nil))))))
      (snd_seq (snd_set (m := true) (ltN rfl) (snd_bin os_ix (snd_lst (snd_cons snd_int (snd_cons snd_int (snd_cons snd_int (snd_cons snd_int snd_nil))))) (snd_call (snd_cons (snd_var (ltN rfl)) (snd_cons (snd_bin os_add (snd_var (ltN rfl)) snd_int) (snd_cons snd_int snd_nil))))))
      (snd_seq (snd_set (m := true) (ltN rfl) (snd_lst snd_nil))
      (snd_seq (snd_for (m := true) (si_rng1 (snd_cons (snd_var (ltN rfl)) snd_nil)) (sg_name (ltN rfl))
      (snd_for (m := true) (si_rng1 (snd_cons (snd_var (ltN rfl)) snd_nil)) (sg_name (ltN rfl))
      (snd_seq (snd_set (m := true) (ltN rfl) (snd_call (snd_cons (snd_var (ltN rfl)) (snd_cons (snd_bin os_add (snd_bin os_add (snd_bin os_add (snd_var (ltN rfl)) snd_int) (snd_bin os_mul snd_int (snd_var (ltN rfl)))) (snd_var (ltN rfl))) (snd_cons (snd_bin os_mul snd_int (snd_var (ltN rfl))) snd_nil)))))
      (snd_if (snd_tand (snd_ts (snd_bin os_ne (snd_var (ltN rfl)) (snd_var (ltN rfl)))) (snd_ts (snd_bin os_ltA (snd_bin os_mod (snd_var (ltN rfl)) snd_int) (snd_var (ltN rfl))))) (snd_drop (m := true) (snd_mut (sp_var (ltN rfl)) ms_append (snd_cons (snd_tup (snd_cons (snd_var (ltN rfl)) (snd_cons (snd_var (ltN rfl)) (snd_cons (snd_bin os_add snd_int (snd_bin os_div (snd_var (ltN rfl)) snd_int)) snd_nil)))) snd_nil) (.inr (ltN rfl)))) snd_next))))
      (snd_ret (m := true) (snd_tup (snd_cons (snd_var (ltN rfl)) (snd_cons (snd_cb cs_tup nx_fTup (snd_cons (snd_var (ltN rfl)) snd_nil)) snd_nil))))))))) (by decide) h⟩
def bd_L_text_1 : Sem :=
  (sSet 1 (eBin opAdd (eBin opAdd (eBin opAdd (eBin opAdd (eBin opAdd (eBin opAdd (eVar 1) (eCB fStrI (aCons (eVar 2) aNil))) (eC (.str ">"))) (eCB fStrI (aCons (eVar 3) aNil))) (eC (.str "*"))) (eCB fStrI (aCons (eVar 4) aNil))) (eC (.str "\n"))))
theorem sc__law_text : FnScope ["_law_web_here", "_law_text_here", "_law_ahead", "_law_behind", "_law_heavy"] ["_law_web_here"] (defScope s_L_text) := ⟨rfl, rfl, rfl, by decide +kernel, rfl, by decide +kernel, by decide +kernel⟩
def sem_L_text : Sem :=
  (sSeq (sSet 1 (eBin opAdd (eBin opAdd (eC (.str "things ")) (eCB fStrI (aCons (eBin opIx (eVar 0) (eC (.int 0))) aNil))) (eC (.str "\n"))))
    (sSeq (sFor (itBy tupOf (eBin opIx (eVar 0) (eC (.int 1)))) (bT 3 (bsCons (bN 2) (bsCons (bN 3) (bsCons (bN 4) bsNil)))) bd_L_text_1)
    (sRet (eVar 1))))
def fs_L_text : List D → Rf := fsOf 5 sem_L_text
theorem ok_L_text {P : Program} {w : World} {K : PySem.W.Frag} {mg : Str → Option Value} {base : Heap} (T : Tops K mg) : FnOk P w K mg base (L2.CX P w) 1 T.L_text.f T.L_text.fd ["_law_web_here"] (spF K (ecOf T) 1 fs_L_text) := by
  refine T.L_text.F.okX sc__law_text (fun vs H Q E h => h.1) (fun cdv A outer s H vs Q E hr h => ?_)
  · have hu0 := hr.units0
    have hu64 := hr.units
    have hu65 := units65 hr
    have hu1 := units1 hr
    exact ⟨_, (pss_cons (ps_set (i := 1) sc__law_text.nd rfl (by first | exact .inl rfl | exact .inr rfl) (pe_op op_addAll (pe_op op_addAll pe_str (pe_callTy call_str_int (by rfl) T.n_str bt_str (pa_cons (pe_ix (ix_seqK (K := K)) (pv 0) pe_int (fun _ _ => rfl)) pa_nil))) pe_str))
      (pss_cons (ps_for (passes_of rfl) rfl (pi_tup (pe_ix (ix_seqK (K := K)) (pv 0) pe_int (fun _ _ => rfl))) (pg_tupK (K := K) rfl (pgs_cons (pg_name (i := 2) sc__law_text.nd rfl (by first | exact .inl rfl | exact .inr rfl)) (pgs_cons (pg_name (i := 3) sc__law_text.nd rfl (by first | exact .inl rfl | exact .inr rfl)) (pgs_cons (pg_name (i := 4) sc__law_text.nd rfl (by first | exact .inl rfl | exact .inr rfl)) pgs_nil))))
      (pss_one (ps_set (i := 1) sc__law_text.nd rfl (by first | exact .inl rfl | exact .inr rfl) (pe_op op_addAll (pe_op op_addAll (pe_op op_addAll (pe_op op_addAll (pe_op op_addAll (pe_op op_addAll (pv 1) (pe_callTy call_str_int (by rfl) T.n_str bt_str (pa_cons (pv 2) pa_nil))) pe_str) (pe_callTy call_str_int (by rfl) T.n_str bt_str (pa_cons (pv 3) pa_nil))) pe_str) (pe_callTy call_str_int (by rfl) T.n_str bt_str (pa_cons (pv 4) pa_nil))) pe_str))))
      (pss_one (ps_ret (pv 1))))), fin_gen (ec := ecOf T) (g := sem_L_text) (snd_seq (snd_set (m := true) (ltN rfl) (snd_bin os_add (snd_bin os_add snd_str (snd_cb cs_strI nx_fStrI (snd_cons (snd_bin os_ix (snd_var (ltN rfl)) snd_int) snd_nil))) snd_str))
      (snd_seq (snd_for (m := true) (si_tup (snd_bin os_ix (snd_var (ltN rfl)) snd_int)) (sg_tup (sgs_cons (sg_name (ltN rfl)) (sgs_cons (sg_name (ltN rfl)) (sgs_cons (sg_name (ltN rfl)) sgs_nil))))
      (snd_set (m := true) (ltN rfl) (snd_bin os_add (snd_bin os_add (snd_bin os_add (snd_bin os_add (snd_bin os_add (snd_bin os_add (snd_var (ltN rfl)) (snd_cb cs_strI nx_fStrI (snd_cons (snd_var (ltN rfl)) snd_nil))) snd_str) (snd_cb cs_strI nx_fStrI (snd_cons (snd_var (ltN rfl)) snd_nil))) snd_str) (snd_cb cs_strI nx_fStrI (snd_cons (snd_var (ltN rfl)) snd_nil))) snd_str)))
      (snd_ret (m := true) (snd_var (ltN rfl))))) (by decide) h⟩
def ce_L_number_1 : Envi → R Hd :=
  (eCB fStrI (aCons (eVar 1) aNil))
theorem sc__law_number : FnScope ["_law_word", "_law_k"] ["_law_word"] (defScope s_L_number) := ⟨rfl, rfl, rfl, by decide +kernel, rfl, by decide +kernel, by decide +kernel⟩
def sem_L_number : Sem :=
  (sSeq (sIf (tsE (eBin opNotIn (eVar 0) (eComp (itRng1 (aCons (eC (.int 100)) aNil)) (bN 1) tTrue ce_L_number_1 [1]))) (sRet (eC .non)) sNext)
    (sRet (eCB fIntT (aCons (eVar 0) aNil))))
def fs_L_number : List D → Rf := fsOf 2 sem_L_number
theorem ok_L_number {P : Program} {w : World} {K : PySem.W.Frag} {mg : Str → Option Value} {base : Heap} (T : Tops K mg) : FnOk P w K mg base (L2.CX P w) 1 T.L_number.f T.L_number.fd ["_law_word"] (spF K (ecOf T) 1 fs_L_number) := by
  refine T.L_number.F.okX sc__law_number (fun vs H Q E h => h.1) (fun cdv A outer s H vs Q E hr h => ?_)
  · have hu0 := hr.units0
    have hu64 := hr.units
    have hu65 := units65 hr
    have hu1 := units1 hr
    exact ⟨_, (pss_cons (ps_if (pt_cmpR (op_notInA hu65) (pv 0) (pe_lc rfl sc__law_number.nd (pi_range1 (by rfl) T.n_range (pa_cons pe_int pa_nil)) (blk_of (own := [("_law_k", 1)]) (by kernel_rfl)) (fun s H C cl fp => (pg_name (i := 1) sc__law_number.nd rfl (by first | exact .inl rfl | exact .inr rfl))) (fun s H C cl fp => pts_nil) (fun s H C cl fp => (pe_callTy call_str_int (by rfl) T.n_str bt_str (pa_cons (pv 1) pa_nil)))) (by with_unfolding_all rfl)) (pss_one (ps_ret pe_non)) pss_nil)
      (pss_one (ps_ret (pe_callTy call_int_str (by rfl) T.n_int bt_int (pa_cons (pv 0) pa_nil))))), fin_gen (ec := ecOf T) (g := sem_L_number) (snd_seq (snd_if (snd_ts (snd_bin os_notIn (snd_var (ltN rfl)) (snd_comp (si_rng1 (snd_cons snd_int snd_nil)) (sg_name (ltN rfl)) snd_pts0 (snd_cb cs_strI nx_fStrI (snd_cons (snd_var (ltN rfl)) snd_nil))))) (snd_ret (m := true) snd_non) snd_next)
      (snd_ret (m := true) (snd_cb cs_intT nx_fIntT (snd_cons (snd_var (ltN rfl)) snd_nil)))) (by decide) h⟩
def bd_L_due_1 : Sem :=
  (sSeq (sSet 4 (eM1 opFind (eVar 3) (eC (.str ">"))))
    (sSeq (sSet 5 (eM1 opFind (eVar 3) (eC (.str "*"))))
    (sSeq (sIf (tsNot (tsE (eChain opLtA opLtA (eC (.int 0)) (eVar 4) (eVar 5)))) (sRet (eC .non)) sNext)
    (sDrop (eMut 2 okT "list" muAppend (aCons (eTup (aCons (eCall fs_L_number (aCons (eSl opSlS (eVar 3) pNo (pSome (eVar 4))) aNil)) (aCons (eCall fs_L_number (aCons (eSl opSlS (eVar 3) (pSome (eBin opAdd (eVar 4) (eC (.int 1)))) (pSome (eVar 5))) aNil)) (aCons (eCall fs_L_number (aCons (eSl opSlS (eVar 3) (pSome (eBin opAdd (eVar 5) (eC (.int 1)))) pNo) aNil)) aNil)))) aNil))))))
def cl_L_due_0 : Exc → Option Bool
  | .noWeb => some true
  | _ => none
def su_L_due_0 : Exc → Sem := fun _ => (sRet (eC .non))
theorem sc__law_due : FnScope ["_law_text_here", "_law_lines", "_law_arrows", "_law_line", "_law_first", "_law_last", "_law_web_here"] ["_law_text_here"] (defScope s_L_due) := ⟨rfl, rfl, rfl, by decide +kernel, rfl, by decide +kernel, by decide +kernel⟩
def sem_L_due : Sem :=
  (sSeq (sIf (tsOr (tsNot (tsE (eCB fIsi (aCons (eVar 0) (aCons (eC (.ty "str")) aNil))))) (tsOr (tsE (eBin opNe (eSl opSlS (eVar 0) (pSome (eUn opNeg (eC (.int 1)))) pNo) (eC (.str "\n")))) (tsE (eBin opNe (eSl opSlS (eVar 0) pNo (pSome (eC (.int 7)))) (eC (.str "things ")))))) (sRet (eC .non)) sNext)
    (sSeq (sSet 1 (eM1 opSplit (eSl opSlS (eVar 0) (pSome (eC (.int 7))) (pSome (eUn opNeg (eC (.int 1))))) (eC (.str "\n"))))
    (sSeq (sSet 2 (eLst aNil))
    (sSeq (sFor (itBy lstOf (eSl (opSl false) (eVar 1) (pSome (eC (.int 1))) pNo)) (bN 3) bd_L_due_1)
    (sSeq (sSet 6 (eTup (aCons (eCall fs_L_number (aCons (eBin opIx (eVar 1) (eC (.int 0))) aNil)) (aCons (eCB fTup (aCons (eVar 2) aNil)) aNil))))
    (sSeq (sTryO cl_L_due_0 (sDrop (eCall fs_checked (aCons (eVar 6) aNil))) su_L_due_0)
    (sRet (eVar 6))))))))
def fs_L_due : List D → Rf := fsOf 7 sem_L_due
theorem ok_L_due {P : Program} {w : World} {K : PySem.W.Frag} {mg : Str → Option Value} {base : Heap} (T : Tops K mg) : FnOk P w K mg base (L2.CX P w) 6 T.L_due.f T.L_due.fd ["_law_text_here"] (spF K (ecOf T) 1 fs_L_due) := by
  refine T.L_due.F.okX sc__law_due (fun vs H Q E h => h.1) (fun cdv A outer s H vs Q E hr h => ?_)
  · have hu0 := hr.units0
    have hu64 := hr.units
    have hu65 := units65 hr
    have hu1 := units1 hr
    exact ⟨_, (pss_cons (ps_if (PW.pt (pw_or (pt_not (pt_val (pe_callB call_isi (by rfl) T.n_isinstance bt_isinstance (pa_cons (pv 0) (pa_cons (pe_bltn (v := .ty "str") (by rfl) T.n_str bt_str rfl) pa_nil))))) (pw_or (pt_cmpR (op_neK (K := K) hu64) (pe_slice sl_str (pv 0) (po_some (pe_un un_neg pe_int)) po_none) pe_str (nomark _)) (pw_or1 (pt_cmpR (op_neK (K := K) hu64) (pe_slice sl_str (pv 0) po_none (po_some pe_int)) pe_str (nomark _)))))) (pss_one (ps_ret pe_non)) pss_nil)
      (pss_cons (ps_set (i := 1) sc__law_due.nd rfl (by first | exact .inl rfl | exact .inr rfl) (pe_split (pe_slice sl_str (pv 0) (po_some pe_int) (po_some (pe_un un_neg pe_int))) pe_str))
      (pss_cons (ps_set (i := 2) sc__law_due.nd rfl (by first | exact .inl rfl | exact .inr rfl) (pe_lst pa_nil))
      (pss_cons (ps_for (passes_of rfl) rfl (pi_list (pe_slice sl_AP (pv 1) (po_some pe_int) po_none)) (pg_name (i := 3) sc__law_due.nd rfl (by first | exact .inl rfl | exact .inr rfl))
      (pss_cons (ps_set (i := 4) sc__law_due.nd rfl (by first | exact .inl rfl | exact .inr rfl) (pe_m1 PySem.F.slot_str_find PySem.F.type_str_find mt_find (pv 3) pe_str))
      (pss_cons (ps_set (i := 5) sc__law_due.nd rfl (by first | exact .inl rfl | exact .inr rfl) (pe_m1 PySem.F.slot_str_find PySem.F.type_str_find mt_find (pv 3) pe_str))
      (pss_cons (ps_if (pt_not (pt_chain (op_ltAll hu0) (op_ltAll hu0) pe_int (pv 4) (pv 5))) (pss_one (ps_ret pe_non)) pss_nil)
      (pss_one (ps_expr (pe_bm PySem.F.plainAttrs_list PySem.F.slot_list_append PySem.F.type_list_append mt_append (pv 2) (pa_cons (pe_tup (pa_cons (pe_callS (ok_L_number T) (hr.mono (by decide)) (by rfl) T.L_number.g T.L_number.k T.L_number.b (fun σ => passAt (takes_of rfl rfl rfl rfl) σ) (pa_cons (pe_slice sl_str (pv 3) po_none (po_some (pv 4))) pa_nil)) (pa_cons (pe_callS (ok_L_number T) (hr.mono (by decide)) (by rfl) T.L_number.g T.L_number.k T.L_number.b (fun σ => passAt (takes_of rfl rfl rfl rfl) σ) (pa_cons (pe_slice sl_str (pv 3) (po_some (pe_op op_addAll (pv 4) pe_int)) (po_some (pv 5))) pa_nil)) (pa_cons (pe_callS (ok_L_number T) (hr.mono (by decide)) (by rfl) T.L_number.g T.L_number.k T.L_number.b (fun σ => passAt (takes_of rfl rfl rfl rfl) σ) (pa_cons (pe_slice sl_str (pv 3) (po_some (pe_op op_addAll (pv 5) pe_int)) po_none) pa_nil)) pa_nil)))) pa_nil))))))))
      (pss_cons (ps_set (i := 6) sc__law_due.nd rfl (by first | exact .inl rfl | exact .inr rfl) (pe_tup (pa_cons (pe_callS (ok_L_number T) (hr.mono (by decide)) (by rfl) T.L_number.g T.L_number.k T.L_number.b (fun σ => passAt (takes_of rfl rfl rfl rfl) σ) (pa_cons (pe_ix (ix_seqK (K := K)) (pv 1) pe_int (fun _ _ => rfl)) pa_nil)) (pa_cons (pe_callTy call_tuple_ofF (by rfl) T.n_tuple bt_tuple (pa_cons (pv 2) pa_nil)) pa_nil))))
      (pss_cons (ps_try_only (Wout := fun cls d _ H => E cls d H) rfl rfl ⟨rfl, by decide, .inl T.x_NoWeb.g⟩ (takes_of rfl rfl rfl rfl) (fun W pn xe tk pas => (pss_one (ps_expr (pe_callS (ok_checked T) (hr.mono (by decide)) (by rfl) T.checked.g T.checked.k T.checked.b (fun σ => passAt tk σ) (pa_cons (pv 6) pa_nil))))) (fun a oe cls d pn hz hf => (pss_one (ps_ret pe_non))))
      (pss_one (ps_ret (pv 6))))))))), fin_gen (ec := ecOf T) (g := sem_L_due) (snd_seq (snd_if (snd_tor (snd_tnot (snd_tb (snd_cb cs_isi nx_fIsi (snd_cons (snd_var (ltN rfl)) (snd_cons snd_ty snd_nil))))) (snd_tor (snd_ts (snd_bin os_ne (snd_sl ss_S (snd_var (ltN rfl)) (snd_psome (snd_un us_neg snd_int)) snd_pno) snd_str)) (snd_ts (snd_bin os_ne (snd_sl ss_S (snd_var (ltN rfl)) snd_pno (snd_psome snd_int)) snd_str)))) (snd_ret (m := true) snd_non) snd_next)
      (snd_seq (snd_set (m := true) (ltN rfl) (snd_m1 m1_split (snd_sl ss_S (snd_var (ltN rfl)) (snd_psome snd_int) (snd_psome (snd_un us_neg snd_int))) snd_str))
      (snd_seq (snd_set (m := true) (ltN rfl) (snd_lst snd_nil))
      (snd_seq (snd_for (m := true) (si_list (snd_sl ss_AP (snd_var (ltN rfl)) (snd_psome snd_int) snd_pno)) (sg_name (ltN rfl))
      (snd_seq (snd_set (m := true) (ltN rfl) (snd_m1 m1_find (snd_var (ltN rfl)) snd_str))
      (snd_seq (snd_set (m := true) (ltN rfl) (snd_m1 m1_find (snd_var (ltN rfl)) snd_str))
      (snd_seq (snd_if (snd_tnot (snd_ts (snd_chain os_ltA os_ltA snd_int (snd_var (ltN rfl)) (snd_var (ltN rfl))))) (snd_ret (m := true) snd_non) snd_next)
      (snd_drop (m := true) (snd_mut (sp_var (ltN rfl)) ms_append (snd_cons (snd_tup (snd_cons (snd_call (snd_cons (snd_sl ss_S (snd_var (ltN rfl)) snd_pno (snd_psome (snd_var (ltN rfl)))) snd_nil)) (snd_cons (snd_call (snd_cons (snd_sl ss_S (snd_var (ltN rfl)) (snd_psome (snd_bin os_add (snd_var (ltN rfl)) snd_int)) (snd_psome (snd_var (ltN rfl)))) snd_nil)) (snd_cons (snd_call (snd_cons (snd_sl ss_S (snd_var (ltN rfl)) (snd_psome (snd_bin os_add (snd_var (ltN rfl)) snd_int)) snd_pno) snd_nil)) snd_nil)))) snd_nil) (.inr (ltN rfl))))))))
      (snd_seq (snd_set (m := true) (ltN rfl) (snd_tup (snd_cons (snd_call (snd_cons (snd_bin os_ix (snd_var (ltN rfl)) snd_int) snd_nil)) (snd_cons (snd_cb cs_tup nx_fTup (snd_cons (snd_var (ltN rfl)) snd_nil)) snd_nil))))
      (snd_seq (snd_tryO (su := su_L_due_0) cl_L_due_0 (fun c b e => by cases c <;> first | (cases e; first | exact T.xm_NoWeb_NoWeb) | cases e) (fun W => (snd_drop (m := true) (snd_call (snd_cons (snd_var (ltN rfl)) snd_nil)))) (fun a c hc => (snd_ret (m := true) snd_non)))
      (snd_ret (m := true) (snd_var (ltN rfl))))))))) (by decide) h⟩
theorem sc__law_spoilt : FnScope ["_law_text_here", "_law_cell", "_law_more", "_law_at", "_law_sign", "_law_way"] ["_law_text_here", "_law_cell", "_law_more"] (defScope s_L_spoilt) := ⟨rfl, rfl, rfl, by decide +kernel, rfl, by decide +kernel, by decide +kernel⟩
def sem_L_spoilt (rec : List D → Rf) : Sem :=
  (sSeq (sSet 3 (eBin opMod (eVar 1) (eBin opAdd (eCB fLen (aCons (eVar 0) aNil)) (eC (.int 1)))))
    (sSeq (sSet 4 (eBin opIx (eC (.str " >*\nthings0123456789-A")) (eBin opMod (eBin opDiv (eVar 1) (eC (.int 1000))) (eC (.int 22)))))
    (sSeq (sSet 5 (eBin opMod (eBin opDiv (eVar 1) (eC (.int 40000))) (eC (.int 6))))
    (sSeq (sIf (tsE (eBin opEq (eVar 5) (eC (.int 0)))) (sRet (eBin opAdd (eBin opAdd (eSl opSlS (eVar 0) pNo (pSome (eVar 3))) (eVar 4)) (eSl opSlS (eVar 0) (pSome (eVar 3)) pNo))) sNext)
    (sSeq (sIf (tsE (eBin opEq (eVar 5) (eC (.int 1)))) (sRet (eBin opAdd (eSl opSlS (eVar 0) pNo (pSome (eVar 3))) (eSl opSlS (eVar 0) (pSome (eBin opAdd (eVar 3) (eC (.int 1)))) pNo))) sNext)
    (sSeq (sIf (tsE (eBin opEq (eVar 5) (eC (.int 2)))) (sRet (eBin opAdd (eBin opAdd (eSl opSlS (eVar 0) pNo (pSome (eVar 3))) (eVar 4)) (eSl opSlS (eVar 0) (pSome (eBin opAdd (eVar 3) (eC (.int 1)))) pNo))) sNext)
    (sSeq (sIf (tsE (eBin opEq (eVar 5) (eC (.int 3)))) (sRet (eBin opAdd (eSl opSlS (eVar 0) pNo (pSome (eVar 3))) (eSl opSlS (eVar 0) (pSome (eBin opAdd (eVar 3) (eBin opMod (eBin opDiv (eVar 1) (eC (.int 7))) (eC (.int 9))))) pNo))) sNext)
    (sSeq (sIf (tsE (eBin opEq (eVar 5) (eC (.int 4)))) (sRet (eBin opIx (eLst (aCons (eBin opAdd (eVar 0) (eVar 0)) (aCons (eBin opAdd (eSl opSlS (eVar 0) (pSome (eVar 3)) pNo) (eSl opSlS (eVar 0) pNo (pSome (eVar 3)))) (aCons (eBin opAdd (eC (.str " ")) (eVar 0)) (aCons (eBin opAdd (eVar 0) (eC (.str " "))) aNil))))) (eBin opMod (eVar 1) (eC (.int 4))))) sNext)
    (sRet (eBin opIx (eBin opAdd (eVar 2) (eLst (aCons (eC .non) (aCons (eC (.int 5)) (aCons (eLst (aCons (eVar 0) aNil)) (aCons (eC (.str "")) aNil)))))) (eBin opMod (eVar 1) (eBin opAdd (eCB fLen (aCons (eVar 2) aNil)) (eC (.int 4))))))))))))))
def fs_L_spoilt : Nat → List D → Rf
  | 0 => fun _ => .stuck
  | n + 1 => fsOf 6 (sem_L_spoilt (fs_L_spoilt n))
theorem ok_L_spoilt0 {P : Program} {w : World} {K : PySem.W.Frag} {mg : Str → Option Value} {base : Heap} (T : Tops K mg) : ∀ n : Nat, FnOk P w K mg base (L2.CX P w) (n + 1) T.L_spoilt.f T.L_spoilt.fd ["_law_text_here", "_law_cell", "_law_more"] (spF K (ecOf T) 3 (fs_L_spoilt n))
  | 0 => ⟨fun vs H Q E h => h.1, fun A outer s H args us vs Q E hr he hb hv h => by obtain ⟨_, F, ds, _, _, h⟩ := h; exact h.elim⟩
  | n + 1 => by
    have ih := ok_L_spoilt0 (P := P) (w := w) (base := base) T n
    rw [show n + 1 + 1 = n + 1 + 1 from by omega]
    refine T.L_spoilt.F.okX sc__law_spoilt (fun vs H Q E h => h.1) (fun cdv A outer s H vs Q E hr h => ?_)
    have hu0 := hr.units0
    have hu64 := hr.units
    have hu65 := units65 hr
    have hu1 := units1 hr
    exact ⟨_, (pss_cons (ps_set (i := 3) sc__law_spoilt.nd rfl (by first | exact .inl rfl | exact .inr rfl) (pe_op op_mod (pv 1) (pe_op op_addAll (pe_callB call_lenA (by rfl) T.n_len bt_len (pa_cons (pv 0) pa_nil)) pe_int)))
      (pss_cons (ps_set (i := 4) sc__law_spoilt.nd rfl (by first | exact .inl rfl | exact .inr rfl) (pe_ix (ix_seqK (K := K)) pe_str (pe_op op_mod (pe_op op_fdivW (pv 1) pe_int) pe_int) (fun _ _ => rfl)))
      (pss_cons (ps_set (i := 5) sc__law_spoilt.nd rfl (by first | exact .inl rfl | exact .inr rfl) (pe_op op_mod (pe_op op_fdivW (pv 1) pe_int) pe_int))
      (pss_cons (ps_if (pt_cmpR (op_eqK (K := K) hu64) (pv 5) pe_int (nomark _)) (pss_one (ps_ret (pe_op op_addAll (pe_op op_addAll (pe_slice sl_str (pv 0) po_none (po_some (pv 3))) (pv 4)) (pe_slice sl_str (pv 0) (po_some (pv 3)) po_none)))) pss_nil)
      (pss_cons (ps_if (pt_cmpR (op_eqK (K := K) hu64) (pv 5) pe_int (nomark _)) (pss_one (ps_ret (pe_op op_addAll (pe_slice sl_str (pv 0) po_none (po_some (pv 3))) (pe_slice sl_str (pv 0) (po_some (pe_op op_addAll (pv 3) pe_int)) po_none)))) pss_nil)
      (pss_cons (ps_if (pt_cmpR (op_eqK (K := K) hu64) (pv 5) pe_int (nomark _)) (pss_one (ps_ret (pe_op op_addAll (pe_op op_addAll (pe_slice sl_str (pv 0) po_none (po_some (pv 3))) (pv 4)) (pe_slice sl_str (pv 0) (po_some (pe_op op_addAll (pv 3) pe_int)) po_none)))) pss_nil)
      (pss_cons (ps_if (pt_cmpR (op_eqK (K := K) hu64) (pv 5) pe_int (nomark _)) (pss_one (ps_ret (pe_op op_addAll (pe_slice sl_str (pv 0) po_none (po_some (pv 3))) (pe_slice sl_str (pv 0) (po_some (pe_op op_addAll (pv 3) (pe_op op_mod (pe_op op_fdivW (pv 1) pe_int) pe_int))) po_none)))) pss_nil)
      (pss_cons (ps_if (pt_cmpR (op_eqK (K := K) hu64) (pv 5) pe_int (nomark _)) (pss_one (ps_ret (pe_ix (ix_seqK (K := K)) (pe_lst (pa_cons (pe_op op_addAll (pv 0) (pv 0)) (pa_cons (pe_op op_addAll (pe_slice sl_str (pv 0) (po_some (pv 3)) po_none) (pe_slice sl_str (pv 0) po_none (po_some (pv 3)))) (pa_cons (pe_op op_addAll pe_str (pv 0)) (pa_cons (pe_op op_addAll (pv 0) pe_str) pa_nil))))) (pe_op op_mod (pv 1) pe_int) (fun _ _ => rfl)))) pss_nil)
      (pss_one (ps_ret (pe_ix (ix_seqK (K := K)) (pe_op op_addAll (pv 2) (pe_lst (pa_cons pe_non (pa_cons pe_int (pa_cons (pe_lst (pa_cons (pv 0) pa_nil)) (pa_cons pe_str pa_nil)))))) (pe_op op_mod (pv 1) (pe_op op_addAll (pe_callB call_lenA (by rfl) T.n_len bt_len (pa_cons (pv 2) pa_nil)) pe_int)) (fun _ _ => rfl)))))))))))), fin_gen (g := sem_L_spoilt (fs_L_spoilt n)) (snd_seq (snd_set (m := true) (ltN rfl) (snd_bin os_mod (snd_var (ltN rfl)) (snd_bin os_add (snd_cb cs_len nx_fLen (snd_cons (snd_var (ltN rfl)) snd_nil)) snd_int)))
      (snd_seq (snd_set (m := true) (ltN rfl) (snd_bin os_ix snd_str (snd_bin os_mod (snd_bin os_div (snd_var (ltN rfl)) snd_int) snd_int)))
      (snd_seq (snd_set (m := true) (ltN rfl) (snd_bin os_mod (snd_bin os_div (snd_var (ltN rfl)) snd_int) snd_int))
      (snd_seq (snd_if (snd_ts (snd_bin os_eq (snd_var (ltN rfl)) snd_int)) (snd_ret (m := true) (snd_bin os_add (snd_bin os_add (snd_sl ss_S (snd_var (ltN rfl)) snd_pno (snd_psome (snd_var (ltN rfl)))) (snd_var (ltN rfl))) (snd_sl ss_S (snd_var (ltN rfl)) (snd_psome (snd_var (ltN rfl))) snd_pno))) snd_next)
      (snd_seq (snd_if (snd_ts (snd_bin os_eq (snd_var (ltN rfl)) snd_int)) (snd_ret (m := true) (snd_bin os_add (snd_sl ss_S (snd_var (ltN rfl)) snd_pno (snd_psome (snd_var (ltN rfl)))) (snd_sl ss_S (snd_var (ltN rfl)) (snd_psome (snd_bin os_add (snd_var (ltN rfl)) snd_int)) snd_pno))) snd_next)
      (snd_seq (snd_if (snd_ts (snd_bin os_eq (snd_var (ltN rfl)) snd_int)) (snd_ret (m := true) (snd_bin os_add (snd_bin os_add (snd_sl ss_S (snd_var (ltN rfl)) snd_pno (snd_psome (snd_var (ltN rfl)))) (snd_var (ltN rfl))) (snd_sl ss_S (snd_var (ltN rfl)) (snd_psome (snd_bin os_add (snd_var (ltN rfl)) snd_int)) snd_pno))) snd_next)
      (snd_seq (snd_if (snd_ts (snd_bin os_eq (snd_var (ltN rfl)) snd_int)) (snd_ret (m := true) (snd_bin os_add (snd_sl ss_S (snd_var (ltN rfl)) snd_pno (snd_psome (snd_var (ltN rfl)))) (snd_sl ss_S (snd_var (ltN rfl)) (snd_psome (snd_bin os_add (snd_var (ltN rfl)) (snd_bin os_mod (snd_bin os_div (snd_var (ltN rfl)) snd_int) snd_int))) snd_pno))) snd_next)
      (snd_seq (snd_if (snd_ts (snd_bin os_eq (snd_var (ltN rfl)) snd_int)) (snd_ret (m := true) (snd_bin os_ix (snd_lst (snd_cons (snd_bin os_add (snd_var (ltN rfl)) (snd_var (ltN rfl))) (snd_cons (snd_bin os_add (snd_sl ss_S (snd_var (ltN rfl)) (snd_psome (snd_var (ltN rfl))) snd_pno) (snd_sl ss_S (snd_var (ltN rfl)) snd_pno (snd_psome (snd_var (ltN rfl))))) (snd_cons (snd_bin os_add snd_str (snd_var (ltN rfl))) (snd_cons (snd_bin os_add (snd_var (ltN rfl)) snd_str) snd_nil))))) (snd_bin os_mod (snd_var (ltN rfl)) snd_int))) snd_next)
      (snd_ret (m := true) (snd_bin os_ix (snd_bin os_add (snd_var (ltN rfl)) (snd_lst (snd_cons snd_non (snd_cons snd_int (snd_cons (snd_lst (snd_cons (snd_var (ltN rfl)) snd_nil)) (snd_cons snd_str snd_nil)))))) (snd_bin os_mod (snd_var (ltN rfl)) (snd_bin os_add (snd_cb cs_len nx_fLen (snd_cons (snd_var (ltN rfl)) snd_nil)) snd_int)))))))))))) (by decide) h⟩
theorem ok_L_spoilt {P : Program} {w : World} {K : PySem.W.Frag} {mg : Str → Option Value} {base : Heap} (T : Tops K mg) : FnOk P w K mg base (L2.CX P w) 21 T.L_spoilt.f T.L_spoilt.fd ["_law_text_here", "_law_cell", "_law_more"] (spF K (ecOf T) 3 (fs_L_spoilt 20)) := ok_L_spoilt0 T 20
def cl_law_0 : Exc → Option Bool
  | .noText => some true
  | _ => none
def su_law_0 (a : Addr) : Exc → Sem
  | .noText => (sIf (tsOr (tsNot (tsE (eIsX 5 a true))) (tsOr (tsNot (tsE (eIsX 5 a true))) (tsE (eIsX 5 a false)))) (sRet (eC (.bl false))) sNext)
  | _ => fun _ => .stuck
theorem ind_law_0 (a : Addr) (c : Exc) (ρ : Envi) : clr 5 (su_law_0 a c (ρ.set 5 (.fz (.adr a)))) = clr 5 (su_law_0 0 c (ρ.set 5 (.fz (.adr 0)))) := by
  by_cases h : 5 < ρ.length <;> cases c <;> simp [su_law_0, sRet, sSeq, sIf, sNext, eIf, eMat, mat, eBin, eCB, aCons, aNil, R.bind, derefAll, tsE, eOfT, tsNot, tsAnd, tsOr, eIsX_set, eC, R.toFl, R.frz, deref, ofBl, retH, clr, h]
theorem sc_law : FnScope ["_law_script", "_law_web_here", "_law_text_here", "_law_more", "_law_answer", "e"] ["_law_script"] (defScope s_law) := ⟨rfl, rfl, rfl, by decide +kernel, rfl, by decide +kernel, by decide +kernel⟩
def sem_law : Sem :=
  (sSeq (sSet 1 (eCall fs_L_web (aCons (eVar 0) (aCons (eC (.int 2)) (aCons (eC (.int 5)) aNil)))))
    (sSeq (sSet 2 (eCall fs_shown (aCons (eVar 1) aNil)))
    (sSeq (sIf (tsOr (tsNot (tsE (eCB fIsi (aCons (eVar 2) (aCons (eC (.ty "str")) aNil))))) (tsOr (tsE (eBin opNe (eVar 2) (eCall fs_L_text (aCons (eVar 1) aNil)))) (tsE (eBin opNe (eCall fs_read (aCons (eVar 2) aNil)) (eVar 1))))) (sRet (eC (.bl false))) sNext)
    (sSeq (sSet 3 (eLst (aCons (eC (.str "things 8\n")) (aCons (eC (.str "things 02\n")) (aCons (eC (.str "things 2\n0>1*05\n")) (aCons (eC (.str "things 2\n0>0*1\n")) aNil))))))
    (sSeq (sDrop (eMut 3 okT "list" muExtend (aCons (eLst (aCons (eC (.str "things 2\n1>0*1\n0>1*1\n")) (aCons (eC (.str "things")) aNil))) aNil)))
    (sSeq (sDrop (eMut 3 okT "list" muExtend (aCons (eLst (aCons (eC (.str "things 2\n0>1*100\n")) (aCons (eC (.str "things 2\n0>1\n")) (aCons (eC (.str "things 2\n\n")) (aCons (eC (.str "things 2\n0>1*1*1\n")) aNil))))) aNil)))
    (sSeq (sDrop (eMut 3 okT "list" muAppend (aCons (eC (.str "things 2\n0*1>1\n")) aNil)))
    (sSeq (sSet 2 (eCall (fs_L_spoilt 20) (aCons (eVar 2) (aCons (eCall fs_L_mixed (aCons (eVar 0) (aCons (eC (.int 0)) (aCons (eBin opPow (eC (.int 10)) (eC (.int 7))) aNil)))) (aCons (eVar 3) aNil)))))
    (sSeq (sSet 4 (eC .non))
    (sSeq (sTry 5 cl_law_0 (sSet 4 (eCall fs_read (aCons (eVar 2) aNil))) (su_law_0 0))
    (sRet (eBin opEq (eVar 4) (eCall fs_L_due (aCons (eVar 2) aNil))))))))))))))
def fs_law : List D → Rf := fsOf 6 sem_law
theorem ok_law {P : Program} {w : World} {K : PySem.W.Frag} {mg : Str → Option Value} {base : Heap} (T : Tops K mg) : FnOk P w K mg base CX0 22 T.law.f T.law.fd ["_law_script"] (fun vs H Q _ => ∃ F ds, Same F H ∧ Reps K F vs ds ∧ vs.length = 1 ∧ fs_law ds = .fz (.bl true) ∧ ∀ H', Q (.bl true) H') := by
  refine T.law.F.ok sc_law (fun vs H Q E h => ?_) (fun cdv A outer s H vs Q E hr h => ?_)
  · obtain ⟨F, ds, _, _, h, _⟩ := h
    exact h
  · have hu0 := hr.units0
    have hu64 := hr.units
    have hu65 := units65 hr
    have hu1 := units1 hr
    obtain ⟨F, ds, hs, hrp, hl, hq, hk⟩ := h
    exact ⟨_, (pss_cons (ps_set (i := 1) sc_law.nd rfl (by first | exact .inl rfl | exact .inr rfl) (pe_callS (ok_L_web T) (hr.mono (by decide)) (by rfl) T.L_web.g T.L_web.k T.L_web.b (fun σ => passAt takes0 σ) (pa_cons (pv 0) (pa_cons pe_int (pa_cons pe_int pa_nil)))))
      (pss_cons (ps_set (i := 2) sc_law.nd rfl (by first | exact .inl rfl | exact .inr rfl) (pe_callS (ok_shown T) (hr.mono (by decide)) (by rfl) T.shown.g T.shown.k T.shown.b (fun σ => passAt takes0 σ) (pa_cons (pv 1) pa_nil)))
      (pss_cons (ps_if (PW.pt (pw_or (pt_not (pt_val (pe_callB call_isi (by rfl) T.n_isinstance bt_isinstance (pa_cons (pv 2) (pa_cons (pe_bltn (v := .ty "str") (by rfl) T.n_str bt_str rfl) pa_nil))))) (pw_or (pt_cmpR (op_neK (K := K) hu64) (pv 2) (pe_callS (ok_L_text T) (hr.mono (by decide)) (by rfl) T.L_text.g T.L_text.k T.L_text.b (fun σ => passAt takes0 σ) (pa_cons (pv 1) pa_nil)) (nomark _)) (pw_or1 (pt_cmpR (op_neK (K := K) hu64) (pe_callS (ok_read T) (hr.mono (by decide)) (by rfl) T.read.g T.read.k T.read.b (fun σ => passAt takes0 σ) (pa_cons (pv 2) pa_nil)) (pv 1) (nomark _)))))) (pss_one (ps_ret pe_bl)) pss_nil)
      (pss_cons (ps_set (i := 3) sc_law.nd rfl (by first | exact .inl rfl | exact .inr rfl) (pe_lst (pa_cons pe_str (pa_cons pe_str (pa_cons pe_str (pa_cons pe_str pa_nil))))))
      (pss_cons (ps_expr (pe_bm PySem.F.plainAttrs_list PySem.F.slot_list_extend PySem.F.type_list_extend mt_extend (pv 3) (pa_cons (pe_lst (pa_cons pe_str (pa_cons pe_str pa_nil))) pa_nil)))
      (pss_cons (ps_expr (pe_bm PySem.F.plainAttrs_list PySem.F.slot_list_extend PySem.F.type_list_extend mt_extend (pv 3) (pa_cons (pe_lst (pa_cons pe_str (pa_cons pe_str (pa_cons pe_str (pa_cons pe_str pa_nil))))) pa_nil)))
      (pss_cons (ps_expr (pe_bm PySem.F.plainAttrs_list PySem.F.slot_list_append PySem.F.type_list_append mt_append (pv 3) (pa_cons pe_str pa_nil)))
      (pss_cons (ps_set (i := 2) sc_law.nd rfl (by first | exact .inl rfl | exact .inr rfl) (pe_callS (ok_L_spoilt T) (hr.mono (by decide)) (by rfl) T.L_spoilt.g T.L_spoilt.k T.L_spoilt.b (fun σ => passAt takes0 σ) (pa_cons (pv 2) (pa_cons (pe_callS (ok_L_mixed T) (hr.mono (by decide)) (by rfl) T.L_mixed.g T.L_mixed.k T.L_mixed.b (fun σ => passAt takes0 σ) (pa_cons (pv 0) (pa_cons pe_int (pa_cons (pe_op op_pow pe_int pe_int) pa_nil)))) (pa_cons (pv 3) pa_nil)))))
      (pss_cons (ps_set (i := 4) sc_law.nd rfl (by first | exact .inl rfl | exact .inr rfl) pe_non)
      (pss_cons (ps_try_as (i := 5) (Wout := W0) rfl rfl sc_law.nd rfl rfl ⟨rfl, by decide, .inl T.x_NoText.g⟩ takes0 (fun W pn xe tk pas => (pss_one (ps_set (i := 4) sc_law.nd rfl (by first | exact .inl rfl | exact .inr rfl) (pe_callS (ok_read T) (hr.mono (by decide)) (by rfl) T.read.g T.read.k T.read.b (fun σ => passAt tk σ) (pa_cons (pv 2) pa_nil))))) (fun a oe cls d pn hz hf => (pss_one (ps_if (PW.pt (pw_or (pt_not (pt_val (pe_callB (call_isX hz hf) (by rfl) T.n_isinstance bt_isinstance (pa_cons (pv 5) (pa_cons (pe_glob (v := .ref T.x_TurnError.C) (by rfl) T.x_TurnError.g rfl) pa_nil))))) (pw_or (pt_not (pt_val (pe_callB (call_isX hz hf) (by rfl) T.n_isinstance bt_isinstance (pa_cons (pv 5) (pa_cons (pe_bltn (v := .ty "ValueError") (by rfl) T.n_ValueError bt_ValueError rfl) pa_nil))))) (pw_or1 (pt_val (pe_callB (call_isX hz hf) (by rfl) T.n_isinstance bt_isinstance (pa_cons (pv 5) (pa_cons (pe_glob (v := .ref T.x_NoWeb.C) (by rfl) T.x_NoWeb.g rfl) pa_nil)))))))) (pss_one (ps_ret pe_bl)) pss_nil))))
      (pss_one (ps_ret (pe_cmpR (op_eqK (K := K) hu64) (pv 4) (pe_callS (ok_L_due T) (hr.mono (by decide)) (by rfl) T.L_due.g T.L_due.k T.L_due.b (fun σ => passAt takes0 σ) (pa_cons (pv 2) pa_nil)) (nomark _)))))))))))))), fin_law (ec := ecOf T) (g := sem_law) (snd_seq (snd_set (m := true) (ltN rfl) (snd_call (snd_cons (snd_var (ltN rfl)) (snd_cons snd_int (snd_cons snd_int snd_nil)))))
      (snd_seq (snd_set (m := true) (ltN rfl) (snd_call (snd_cons (snd_var (ltN rfl)) snd_nil)))
      (snd_seq (snd_if (snd_tor (snd_tnot (snd_tb (snd_cb cs_isi nx_fIsi (snd_cons (snd_var (ltN rfl)) (snd_cons snd_ty snd_nil))))) (snd_tor (snd_ts (snd_bin os_ne (snd_var (ltN rfl)) (snd_call (snd_cons (snd_var (ltN rfl)) snd_nil)))) (snd_ts (snd_bin os_ne (snd_call (snd_cons (snd_var (ltN rfl)) snd_nil)) (snd_var (ltN rfl)))))) (snd_ret (m := true) snd_bl) snd_next)
      (snd_seq (snd_set (m := true) (ltN rfl) (snd_lst (snd_cons snd_str (snd_cons snd_str (snd_cons snd_str (snd_cons snd_str snd_nil))))))
      (snd_seq (snd_drop (m := true) (snd_mut (sp_var (ltN rfl)) ms_extend (snd_cons (snd_lst (snd_cons snd_str (snd_cons snd_str snd_nil))) snd_nil) (.inr (ltN rfl))))
      (snd_seq (snd_drop (m := true) (snd_mut (sp_var (ltN rfl)) ms_extend (snd_cons (snd_lst (snd_cons snd_str (snd_cons snd_str (snd_cons snd_str (snd_cons snd_str snd_nil))))) snd_nil) (.inr (ltN rfl))))
      (snd_seq (snd_drop (m := true) (snd_mut (sp_var (ltN rfl)) ms_append (snd_cons snd_str snd_nil) (.inr (ltN rfl))))
      (snd_seq (snd_set (m := true) (ltN rfl) (snd_call (snd_cons (snd_var (ltN rfl)) (snd_cons (snd_call (snd_cons (snd_var (ltN rfl)) (snd_cons snd_int (snd_cons (snd_bin os_pow snd_int snd_int) snd_nil)))) (snd_cons (snd_var (ltN rfl)) snd_nil)))))
      (snd_seq (snd_set (m := true) (ltN rfl) snd_non)
      (snd_seq (snd_try (su := su_law_0) cl_law_0 (ltN rfl) (fun c b e => by cases c <;> first | (cases e; first | exact T.xm_NoText_NoText) | cases e) (fun W => (snd_set (m := true) (ltN rfl) (snd_call (snd_cons (snd_var (ltN rfl)) snd_nil)))) (fun a c hc => match c, hc with | .noText, _ => (snd_if (snd_tor (snd_tnot (snd_tb (snd_isX (c := .noText) (b := true) (ltN rfl) ⟨T.x_NoText.C, _, rfl, T.i_NoText, relv_ref, T.kx_NoText_TurnError⟩))) (snd_tor (snd_tnot (snd_tb (snd_isX (c := .noText) (b := true) (ltN rfl) ⟨T.x_NoText.C, _, rfl, T.i_NoText, relv_ty, T.kx_NoText_ValueError⟩))) (snd_tb (snd_isX (c := .noText) (b := false) (ltN rfl) ⟨T.x_NoText.C, _, rfl, T.i_NoText, relv_ref, T.kx_NoText_NoWeb⟩)))) (snd_ret (m := true) snd_bl) snd_next)) ind_law_0)
      (snd_ret (m := true) (snd_bin os_eq (snd_var (ltN rfl)) (snd_call (snd_cons (snd_var (ltN rfl)) snd_nil)))))))))))))) (by rw [hl]; decide) hs hrp hq hk⟩
def spL (K : PySem.W.Frag) : L2.Sp := (fun vs H Q _ => ∃ F ds, Same F H ∧ Reps K F vs ds ∧ vs.length = 1 ∧ fs_law ds = .fz (.bl true) ∧ ∀ H', Q (.bl true) H')
theorem all_mk {P : Program} {w : World} {K : PySem.W.Frag} {h : Heap} {mg : Str → Option Value} {fa : Addr} (X : K.In h) (G : h.Ns mainGlobals mg) (hfa : mg "law" = some (.ref fa))
    {f0 : Addr} {oc0 kV0 dc0 pm0 cd0 ct0 : Value} {od0 an0 : Option Addr} {sl0 : Array (Option Value)}
    {f1 : Addr} {oc1 kV1 dc1 pm1 cd1 ct1 : Value} {od1 an1 : Option Addr} {sl1 : Array (Option Value)}
    {f2 : Addr} {oc2 kV2 dc2 pm2 cd2 ct2 : Value} {od2 an2 : Option Addr} {sl2 : Array (Option Value)}
    {f3 : Addr} {oc3 kV3 dc3 pm3 cd3 ct3 : Value} {od3 an3 : Option Addr} {sl3 : Array (Option Value)}
    {f4 : Addr} {oc4 kV4 dc4 pm4 cd4 ct4 : Value} {od4 an4 : Option Addr} {sl4 : Array (Option Value)}
    {f5 : Addr} {oc5 kV5 dc5 pm5 cd5 ct5 : Value} {od5 an5 : Option Addr} {sl5 : Array (Option Value)}
    {f6 : Addr} {oc6 kV6 dc6 pm6 cd6 ct6 : Value} {od6 an6 : Option Addr} {sl6 : Array (Option Value)}
    {f7 : Addr} {oc7 kV7 dc7 pm7 cd7 ct7 : Value} {od7 an7 : Option Addr} {sl7 : Array (Option Value)}
    {f8 : Addr} {oc8 kV8 dc8 pm8 cd8 ct8 : Value} {od8 an8 : Option Addr} {sl8 : Array (Option Value)}
    {f9 : Addr} {oc9 kV9 dc9 pm9 cd9 ct9 : Value} {od9 an9 : Option Addr} {sl9 : Array (Option Value)}
    {f10 : Addr} {oc10 kV10 dc10 pm10 cd10 ct10 : Value} {od10 an10 : Option Addr} {sl10 : Array (Option Value)}
    {f11 : Addr} {oc11 kV11 dc11 pm11 cd11 ct11 : Value} {od11 an11 : Option Addr} {sl11 : Array (Option Value)}
    {f12 : Addr} {oc12 kV12 dc12 pm12 cd12 ct12 : Value} {od12 an12 : Option Addr} {sl12 : Array (Option Value)}
    {f13 : Addr} {oc13 kV13 dc13 pm13 cd13 ct13 : Value} {od13 an13 : Option Addr} {sl13 : Array (Option Value)}
    {f14 : Addr} {oc14 kV14 dc14 pm14 cd14 ct14 : Value} {od14 an14 : Option Addr} {sl14 : Array (Option Value)}
    {f15 : Addr} {oc15 kV15 dc15 pm15 cd15 ct15 : Value} {od15 an15 : Option Addr} {sl15 : Array (Option Value)}
    {f16 : Addr} {oc16 kV16 dc16 pm16 cd16 ct16 : Value} {od16 an16 : Option Addr} {sl16 : Array (Option Value)}
    {f17 : Addr} {oc17 kV17 dc17 pm17 cd17 ct17 : Value} {od17 an17 : Option Addr} {sl17 : Array (Option Value)}
    {CTurnError : Addr}
    {CNoWeb : Addr}
    {CNoText : Addr}
    {tTHINGS : Tok}
    {tWEIGHT : Tok}
    (a0 : PySem.W.nsIn K mainGlobals "is_whole" = some (some (.ref f0))) (l0 : K.lookup f0 = some ⟨oc0, od0, .func (PySem.W.fnOf "is_whole" "is_whole" (defArgs s_is_whole) (defBody s_is_whole) (defScope s_is_whole) .none kV0 dc0 pm0 an0 cd0 ct0), sl0⟩) (c0 : PySem.W.codeIn K cd0 "is_whole" = true) (k0 : PySem.W.keepIn K (.ref f0) = true)
    (a1 : PySem.W.nsIn K mainGlobals "between" = some (some (.ref f1))) (l1 : K.lookup f1 = some ⟨oc1, od1, .func (PySem.W.fnOf "between" "between" (defArgs s_between) (defBody s_between) (defScope s_between) .none kV1 dc1 pm1 an1 cd1 ct1), sl1⟩) (c1 : PySem.W.codeIn K cd1 "between" = true) (k1 : PySem.W.keepIn K (.ref f1) = true)
    (a2 : PySem.W.nsIn K mainGlobals "is_arrow" = some (some (.ref f2))) (l2 : K.lookup f2 = some ⟨oc2, od2, .func (PySem.W.fnOf "is_arrow" "is_arrow" (defArgs s_is_arrow) (defBody s_is_arrow) (defScope s_is_arrow) .none kV2 dc2 pm2 an2 cd2 ct2), sl2⟩) (c2 : PySem.W.codeIn K cd2 "is_arrow" = true) (k2 : PySem.W.keepIn K (.ref f2) = true)
    (a3 : PySem.W.nsIn K mainGlobals "is_web" = some (some (.ref f3))) (l3 : K.lookup f3 = some ⟨oc3, od3, .func (PySem.W.fnOf "is_web" "is_web" (defArgs s_is_web) (defBody s_is_web) (defScope s_is_web) .none kV3 dc3 pm3 an3 cd3 ct3), sl3⟩) (c3 : PySem.W.codeIn K cd3 "is_web" = true) (k3 : PySem.W.keepIn K (.ref f3) = true)
    (a4 : PySem.W.nsIn K mainGlobals "checked" = some (some (.ref f4))) (l4 : K.lookup f4 = some ⟨oc4, od4, .func (PySem.W.fnOf "checked" "checked" (defArgs s_checked) (defBody s_checked) (defScope s_checked) .none kV4 dc4 pm4 an4 cd4 ct4), sl4⟩) (c4 : PySem.W.codeIn K cd4 "checked" = true) (k4 : PySem.W.keepIn K (.ref f4) = true)
    (a5 : PySem.W.nsIn K mainGlobals "text_of" = some (some (.ref f5))) (l5 : K.lookup f5 = some ⟨oc5, od5, .func (PySem.W.fnOf "text_of" "text_of" (defArgs s_text_of) (defBody s_text_of) (defScope s_text_of) .none kV5 dc5 pm5 an5 cd5 ct5), sl5⟩) (c5 : PySem.W.codeIn K cd5 "text_of" = true) (k5 : PySem.W.keepIn K (.ref f5) = true)
    (a6 : PySem.W.nsIn K mainGlobals "shown" = some (some (.ref f6))) (l6 : K.lookup f6 = some ⟨oc6, od6, .func (PySem.W.fnOf "shown" "shown" (defArgs s_shown) (defBody s_shown) (defScope s_shown) .none kV6 dc6 pm6 an6 cd6 ct6), sl6⟩) (c6 : PySem.W.codeIn K cd6 "shown" = true) (k6 : PySem.W.keepIn K (.ref f6) = true)
    (a7 : PySem.W.nsIn K mainGlobals "number_of" = some (some (.ref f7))) (l7 : K.lookup f7 = some ⟨oc7, od7, .func (PySem.W.fnOf "number_of" "number_of" (defArgs s_number_of) (defBody s_number_of) (defScope s_number_of) .none kV7 dc7 pm7 an7 cd7 ct7), sl7⟩) (c7 : PySem.W.codeIn K cd7 "number_of" = true) (k7 : PySem.W.keepIn K (.ref f7) = true)
    (a8 : PySem.W.nsIn K mainGlobals "arrow_of" = some (some (.ref f8))) (l8 : K.lookup f8 = some ⟨oc8, od8, .func (PySem.W.fnOf "arrow_of" "arrow_of" (defArgs s_arrow_of) (defBody s_arrow_of) (defScope s_arrow_of) .none kV8 dc8 pm8 an8 cd8 ct8), sl8⟩) (c8 : PySem.W.codeIn K cd8 "arrow_of" = true) (k8 : PySem.W.keepIn K (.ref f8) = true)
    (a9 : PySem.W.nsIn K mainGlobals "read" = some (some (.ref f9))) (l9 : K.lookup f9 = some ⟨oc9, od9, .func (PySem.W.fnOf "read" "read" (defArgs s_read) (defBody s_read) (defScope s_read) .none kV9 dc9 pm9 an9 cd9 ct9), sl9⟩) (c9 : PySem.W.codeIn K cd9 "read" = true) (k9 : PySem.W.keepIn K (.ref f9) = true)
    (a10 : PySem.W.nsIn K mainGlobals "_law_cell_at" = some (some (.ref f10))) (l10 : K.lookup f10 = some ⟨oc10, od10, .func (PySem.W.fnOf "_law_cell_at" "_law_cell_at" (defArgs s_L_cell_at) (defBody s_L_cell_at) (defScope s_L_cell_at) .none kV10 dc10 pm10 an10 cd10 ct10), sl10⟩) (c10 : PySem.W.codeIn K cd10 "_law_cell_at" = true) (k10 : PySem.W.keepIn K (.ref f10) = true)
    (a11 : PySem.W.nsIn K mainGlobals "_law_mixed" = some (some (.ref f11))) (l11 : K.lookup f11 = some ⟨oc11, od11, .func (PySem.W.fnOf "_law_mixed" "_law_mixed" (defArgs s_L_mixed) (defBody s_L_mixed) (defScope s_L_mixed) .none kV11 dc11 pm11 an11 cd11 ct11), sl11⟩) (c11 : PySem.W.codeIn K cd11 "_law_mixed" = true) (k11 : PySem.W.keepIn K (.ref f11) = true)
    (a12 : PySem.W.nsIn K mainGlobals "_law_web" = some (some (.ref f12))) (l12 : K.lookup f12 = some ⟨oc12, od12, .func (PySem.W.fnOf "_law_web" "_law_web" (defArgs s_L_web) (defBody s_L_web) (defScope s_L_web) .none kV12 dc12 pm12 an12 cd12 ct12), sl12⟩) (c12 : PySem.W.codeIn K cd12 "_law_web" = true) (k12 : PySem.W.keepIn K (.ref f12) = true)
    (a13 : PySem.W.nsIn K mainGlobals "_law_text" = some (some (.ref f13))) (l13 : K.lookup f13 = some ⟨oc13, od13, .func (PySem.W.fnOf "_law_text" "_law_text" (defArgs s_L_text) (defBody s_L_text) (defScope s_L_text) .none kV13 dc13 pm13 an13 cd13 ct13), sl13⟩) (c13 : PySem.W.codeIn K cd13 "_law_text" = true) (k13 : PySem.W.keepIn K (.ref f13) = true)
    (a14 : PySem.W.nsIn K mainGlobals "_law_number" = some (some (.ref f14))) (l14 : K.lookup f14 = some ⟨oc14, od14, .func (PySem.W.fnOf "_law_number" "_law_number" (defArgs s_L_number) (defBody s_L_number) (defScope s_L_number) .none kV14 dc14 pm14 an14 cd14 ct14), sl14⟩) (c14 : PySem.W.codeIn K cd14 "_law_number" = true) (k14 : PySem.W.keepIn K (.ref f14) = true)
    (a15 : PySem.W.nsIn K mainGlobals "_law_due" = some (some (.ref f15))) (l15 : K.lookup f15 = some ⟨oc15, od15, .func (PySem.W.fnOf "_law_due" "_law_due" (defArgs s_L_due) (defBody s_L_due) (defScope s_L_due) .none kV15 dc15 pm15 an15 cd15 ct15), sl15⟩) (c15 : PySem.W.codeIn K cd15 "_law_due" = true) (k15 : PySem.W.keepIn K (.ref f15) = true)
    (a16 : PySem.W.nsIn K mainGlobals "_law_spoilt" = some (some (.ref f16))) (l16 : K.lookup f16 = some ⟨oc16, od16, .func (PySem.W.fnOf "_law_spoilt" "_law_spoilt" (defArgs s_L_spoilt) (defBody s_L_spoilt) (defScope s_L_spoilt) .none kV16 dc16 pm16 an16 cd16 ct16), sl16⟩) (c16 : PySem.W.codeIn K cd16 "_law_spoilt" = true) (k16 : PySem.W.keepIn K (.ref f16) = true)
    (a17 : PySem.W.nsIn K mainGlobals "law" = some (some (.ref f17))) (l17 : K.lookup f17 = some ⟨oc17, od17, .func (PySem.W.fnOf "law" "law" (defArgs s_law) (defBody s_law) (defScope s_law) .none kV17 dc17 pm17 an17 cd17 ct17), sl17⟩) (c17 : PySem.W.codeIn K cd17 "law" = true) (k17 : PySem.W.keepIn K (.ref f17) = true)
    (gTurnError : PySem.W.nsIn K mainGlobals "TurnError" = some (some (.ref CTurnError))) (kTurnError : PySem.W.keepIn K (.ref CTurnError) = true) (qTurnError : PySem.W.excIn K CTurnError [.type "ValueError", .type "Exception", .type "BaseException", .type "object"] "ValueError.__new__" = true) (eTurnError : PySem.W.subIn K (.ref CTurnError) (.type "BaseException") = some true) (tTurnError : PySem.W.typeIn K (.ref CTurnError) = some (.type "type"))
    (gNoWeb : PySem.W.nsIn K mainGlobals "NoWeb" = some (some (.ref CNoWeb))) (kNoWeb : PySem.W.keepIn K (.ref CNoWeb) = true) (qNoWeb : PySem.W.excIn K CNoWeb [.type "ValueError", .type "Exception", .type "BaseException", .type "object"] "ValueError.__new__" = true) (eNoWeb : PySem.W.subIn K (.ref CNoWeb) (.type "BaseException") = some true) (tNoWeb : PySem.W.typeIn K (.ref CNoWeb) = some (.type "type"))
    (gNoText : PySem.W.nsIn K mainGlobals "NoText" = some (some (.ref CNoText))) (kNoText : PySem.W.keepIn K (.ref CNoText) = true) (qNoText : PySem.W.excIn K CNoText [.type "ValueError", .type "Exception", .type "BaseException", .type "object"] "ValueError.__new__" = true) (eNoText : PySem.W.subIn K (.ref CNoText) (.type "BaseException") = some true) (tNoText : PySem.W.typeIn K (.ref CNoText) = some (.type "type"))
    (hgNoText : PySem.W.findIn K (.ref CNoText) "__getattribute__" = some (some (.builtin "BaseException.__getattribute__"))) (hkNoText : PySem.W.findIn K (.ref CNoText) "__getattr__" = some none) (hdNoText : PySem.W.hasDictIn K CNoText = true) (haNoText : PySem.W.findIn K (.ref CNoText) "__class__" = some (some (.builtin "object.__class__"))) (hnNoText : PySem.W.specialIn K (.builtin "object.__class__") "__get__" = some (some (.builtin "getset_descriptor.__get__"))) (htNoText : PySem.W.takesIn K (.builtin "object.__class__") = some true) (hmNoText : PySem.W.mroIn K CNoText (.type "object") = some true)
    (kxNoTextNoWeb : PySem.W.kitOne K (.ref CNoText) (.ref CNoWeb) = some false)
    (kxNoTextTurnError : PySem.W.kitOne K (.ref CNoText) (.ref CTurnError) = some true)
    (kxNoTextValueError : PySem.W.kitOne K (.ref CNoText) (.type "ValueError") = some true)
    (xmNoTextNoText : PySem.W.exmOne K (.ref CNoText) (.ref CNoText) = some true)
    (xmNoWebNoWeb : PySem.W.exmOne K (.ref CNoWeb) (.ref CNoWeb) = some true)
    (zValueError : PySem.W.nsIn K mainGlobals "ValueError" = some none)
    (zall : PySem.W.nsIn K mainGlobals "all" = some none)
    (zbool : PySem.W.nsIn K mainGlobals "bool" = some none)
    (zint : PySem.W.nsIn K mainGlobals "int" = some none)
    (zisinstance : PySem.W.nsIn K mainGlobals "isinstance" = some none)
    (zlen : PySem.W.nsIn K mainGlobals "len" = some none)
    (zrange : PySem.W.nsIn K mainGlobals "range" = some none)
    (zstr : PySem.W.nsIn K mainGlobals "str" = some none)
    (ztuple : PySem.W.nsIn K mainGlobals "tuple" = some none)
    (vTHINGS : PySem.W.nsIn K mainGlobals "THINGS" = some (some (.int 7 tTHINGS)))
    (vWEIGHT : PySem.W.nsIn K mainGlobals "WEIGHT" = some (some (.int 99 tWEIGHT)))
    : ∃ fd : FuncData, (∀ (s : Shared) (u : Value), BindsTo s fd ⟨[u], []⟩ [("_law_script", u)]) ∧ ∀ base : Heap, K.In base → base.Ns mainGlobals mg → FnOk P w K mg base CX0 22 fa fd ["_law_script"] (spL K) := by
  have e := hfa.symm.trans (PySem.W.mg_of X G a17)
  cases e
  let T : Tops K mg := {
    is_whole := ⟨f0, _, PySem.W.mg_of X G a0, k0, fun_mk l0 c0 k0, (fun_mk (st := s_is_whole) l0 c0 k0).binds (fun _ _ _ _ _ _ us hl => match us, hl with | [_], _ => rfl)⟩,
    between := ⟨f1, _, PySem.W.mg_of X G a1, k1, fun_mk l1 c1 k1, (fun_mk (st := s_between) l1 c1 k1).binds (fun _ _ _ _ _ _ us hl => match us, hl with | [_, _, _], _ => rfl)⟩,
    is_arrow := ⟨f2, _, PySem.W.mg_of X G a2, k2, fun_mk l2 c2 k2, (fun_mk (st := s_is_arrow) l2 c2 k2).binds (fun _ _ _ _ _ _ us hl => match us, hl with | [_, _], _ => rfl)⟩,
    is_web := ⟨f3, _, PySem.W.mg_of X G a3, k3, fun_mk l3 c3 k3, (fun_mk (st := s_is_web) l3 c3 k3).binds (fun _ _ _ _ _ _ us hl => match us, hl with | [_], _ => rfl)⟩,
    checked := ⟨f4, _, PySem.W.mg_of X G a4, k4, fun_mk l4 c4 k4, (fun_mk (st := s_checked) l4 c4 k4).binds (fun _ _ _ _ _ _ us hl => match us, hl with | [_], _ => rfl)⟩,
    text_of := ⟨f5, _, PySem.W.mg_of X G a5, k5, fun_mk l5 c5 k5, (fun_mk (st := s_text_of) l5 c5 k5).binds (fun _ _ _ _ _ _ us hl => match us, hl with | [_], _ => rfl)⟩,
    shown := ⟨f6, _, PySem.W.mg_of X G a6, k6, fun_mk l6 c6 k6, (fun_mk (st := s_shown) l6 c6 k6).binds (fun _ _ _ _ _ _ us hl => match us, hl with | [_], _ => rfl)⟩,
    number_of := ⟨f7, _, PySem.W.mg_of X G a7, k7, fun_mk l7 c7 k7, (fun_mk (st := s_number_of) l7 c7 k7).binds (fun _ _ _ _ _ _ us hl => match us, hl with | [_], _ => rfl)⟩,
    arrow_of := ⟨f8, _, PySem.W.mg_of X G a8, k8, fun_mk l8 c8 k8, (fun_mk (st := s_arrow_of) l8 c8 k8).binds (fun _ _ _ _ _ _ us hl => match us, hl with | [_], _ => rfl)⟩,
    read := ⟨f9, _, PySem.W.mg_of X G a9, k9, fun_mk l9 c9 k9, (fun_mk (st := s_read) l9 c9 k9).binds (fun _ _ _ _ _ _ us hl => match us, hl with | [_], _ => rfl)⟩,
    L_cell_at := ⟨f10, _, PySem.W.mg_of X G a10, k10, fun_mk l10 c10 k10, (fun_mk (st := s_L_cell_at) l10 c10 k10).binds (fun _ _ _ _ _ _ us hl => match us, hl with | [_, _], _ => rfl)⟩,
    L_mixed := ⟨f11, _, PySem.W.mg_of X G a11, k11, fun_mk l11 c11 k11, (fun_mk (st := s_L_mixed) l11 c11 k11).binds (fun _ _ _ _ _ _ us hl => match us, hl with | [_, _, _], _ => rfl)⟩,
    L_web := ⟨f12, _, PySem.W.mg_of X G a12, k12, fun_mk l12 c12 k12, (fun_mk (st := s_L_web) l12 c12 k12).binds (fun _ _ _ _ _ _ us hl => match us, hl with | [_, _, _], _ => rfl)⟩,
    L_text := ⟨f13, _, PySem.W.mg_of X G a13, k13, fun_mk l13 c13 k13, (fun_mk (st := s_L_text) l13 c13 k13).binds (fun _ _ _ _ _ _ us hl => match us, hl with | [_], _ => rfl)⟩,
    L_number := ⟨f14, _, PySem.W.mg_of X G a14, k14, fun_mk l14 c14 k14, (fun_mk (st := s_L_number) l14 c14 k14).binds (fun _ _ _ _ _ _ us hl => match us, hl with | [_], _ => rfl)⟩,
    L_due := ⟨f15, _, PySem.W.mg_of X G a15, k15, fun_mk l15 c15 k15, (fun_mk (st := s_L_due) l15 c15 k15).binds (fun _ _ _ _ _ _ us hl => match us, hl with | [_], _ => rfl)⟩,
    L_spoilt := ⟨f16, _, PySem.W.mg_of X G a16, k16, fun_mk l16 c16 k16, (fun_mk (st := s_L_spoilt) l16 c16 k16).binds (fun _ _ _ _ _ _ us hl => match us, hl with | [_, _, _], _ => rfl)⟩,
    law := ⟨fa, _, PySem.W.mg_of X G a17, k17, fun_mk l17 c17 k17, (fun_mk (st := s_law) l17 c17 k17).binds (fun _ _ _ _ _ _ us hl => match us, hl with | [_], _ => rfl)⟩,
    x_TurnError := ⟨CTurnError, PySem.W.mg_of X G gTurnError, kTurnError, qTurnError, eTurnError, tTurnError⟩,
    x_NoWeb := ⟨CNoWeb, PySem.W.mg_of X G gNoWeb, kNoWeb, qNoWeb, eNoWeb, tNoWeb⟩,
    x_NoText := ⟨CNoText, PySem.W.mg_of X G gNoText, kNoText, qNoText, eNoText, tNoText⟩,
    i_NoText := ⟨hgNoText, hkNoText, eNoText, hdNoText, haNoText, hnNoText, htNoText, hmNoText⟩,
    kx_NoText_NoWeb := kxNoTextNoWeb,
    kx_NoText_TurnError := kxNoTextTurnError,
    kx_NoText_ValueError := kxNoTextValueError,
    xm_NoText_NoText := xmNoTextNoText,
    xm_NoWeb_NoWeb := xmNoWebNoWeb,
    n_ValueError := PySem.W.mg_none_of X G zValueError,
    n_all := PySem.W.mg_none_of X G zall,
    n_bool := PySem.W.mg_none_of X G zbool,
    n_int := PySem.W.mg_none_of X G zint,
    n_isinstance := PySem.W.mg_none_of X G zisinstance,
    n_len := PySem.W.mg_none_of X G zlen,
    n_range := PySem.W.mg_none_of X G zrange,
    n_str := PySem.W.mg_none_of X G zstr,
    n_tuple := PySem.W.mg_none_of X G ztuple,
    c_THINGS := ⟨tTHINGS, PySem.W.mg_of X G vTHINGS⟩,
    c_WEIGHT := ⟨tWEIGHT, PySem.W.mg_of X G vWEIGHT⟩ }
  exact ⟨PySem.W.fnOf "law" "law" (defArgs s_law) (defBody s_law) (defScope s_law) .none kV17 dc17 pm17 an17 cd17 ct17, fun s u => .of_eq rfl, fun base _ _ => ok_law T⟩
end K23

set_option maxHeartbeats 2000000
namespace K23
open PySem PySem.Spec PyProof.Rows L2 Pv Fw
open PySem.W (Datum DatumOrd Tup T3 T4)
/-! texts -/
open SX (S)
def thL : List Nat := [116, 104, 105, 110, 103, 115, 32]
theorem q_st : Str.ofString "*" = S [42] := by decide +kernel
theorem q_gt : Str.ofString ">" = S [62] := by decide +kernel
theorem q_nl : Str.ofString "\n" = S [10] := by decide +kernel
theorem q_e : Str.ofString "" = S [] := by decide +kernel
theorem q_sp : Str.ofString " " = S [32] := by decide +kernel
theorem q_th : Str.ofString "things " = S thL := by decide +kernel
theorem q_dg : Str.ofString "0123456789" = S [48, 49, 50, 51, 52, 53, 54, 55, 56, 57] := by decide +kernel
def strS (l : List Nat) : D := .str (S l)
def okT (l : List Nat) : Prop := ∀ c ∈ l, c < 1114112
theorem strOk_S {l : List Nat} (h : okT l) : PyData.strOk (S l) = true := by
  unfold PyData.strOk
  rw [← Array.all_toList]
  exact List.all_eq_true.mpr fun c hc => decide_eq_true (h c hc)
theorem opNe_S {x y : List Nat} (hx : okT x) (hy : okT y) : opNe (.str (S x)) (.str (S y)) = some (.bl (!decide (x = y))) := by
  unfold opNe eqD
  simp only [toPy, SeqAt.shaped, PyData.canLay0, PyData.depth, strOk_S hx, strOk_S hy, PyData.eqv, SX.S_beq_eq]
  rfl
theorem len_S {l : List Nat} (h : l.length ≤ 1000000) : fLen [.str (S l)] = .fz (.int (l.length : Nat)) := by
  have h1 : (S l).length ≤ big := by rw [SX.S_len]; unfold big; omega
  show ofOpt (if (S l).length ≤ big then some (D.int ((S l).length : Nat)) else none) = _
  rw [if_pos h1, SX.S_len]
  rfl
theorem signs_S {l : List Nat} (h : l.length ≤ 1000000) : signsD (.str (S l)) = some (l.map fun c => .str (S [c])) := by
  show (if (S l).length ≤ big then some ((S l).cps.toList.map fun c => D.str ⟨#[c]⟩) else none) = _
  rw [if_pos (by rw [SX.S_len]; unfold big; omega)]
theorem in_dg (c : Nat) : opInS (.str (S [c])) (.str (S [48, 49, 50, 51, 52, 53, 54, 55, 56, 57])) = some (.bl (decide (48 ≤ c) && decide (c ≤ 57))) := by
  show some (D.bl (!(Builtin.Str.occurrences (S [48, 49, 50, 51, 52, 53, 54, 55, 56, 57]) (S [c]) 0 (S [48, 49, 50, 51, 52, 53, 54, 55, 56, 57]).length 1).isEmpty)) = _
  rw [SX.in_one]
  congr 2
  rw [Bool.eq_iff_iff]
  simp
  omega
def numR (w : List Nat) : Rf := if isNum w = true then .fz (.int (NumText.digitsVal w : Nat)) else .exc .noText
theorem fs_number_of_eq {w : List Nat} (h : w.length ≤ 1000000) : fs_number_of [.str (S w)] = numR w := by
  have h1 := len_S h
  have h2 := signs_S h
  have h3 : runComp (bN 1) tTrue ce_number_of_1 [1] (w.map fun c => .str (S [c])) [.fz (.str (S w)), .un] = some ((w.map fun c => decide (48 ≤ c) && decide (c ≤ 57)).map D.bl, [.fz (.str (S w)), .un]) := by
    rw [runComp_map (enc := fun c : Nat => D.str (S [c])) (F := fun c => some (.bl (decide (48 ≤ c) && decide (c ≤ 57))))]
    · rw [List.filterMap_eq_map', List.map_map]; rfl
    · intro c hc
      refine ⟨_, rfl, .inr ⟨rfl, .bl (decide (48 ≤ c) && decide (c ≤ 57)), [.fz (.str (S w)), .fz (.str (S [c]))], ?_, rfl, rfl⟩⟩
      have := in_dg c
      generalize S [c] = y at *
      simp only [ce_number_of_1, q_dg]
      generalize S [48, 49, 50, 51, 52, 53, 54, 55, 56, 57] = z at *
      simp [this]
  have h4 := fAll_bls (w.map fun c => decide (48 ≤ c) && decide (c ≤ 57))
  have h5 : isNum w = true → fIntT [.str (S w)] = .fz (.int (NumText.digitsVal w : Nat)) := fun hn => by
    have e := dig_val hn
    have hl : (S w).length ≤ 640 := by
      rw [SX.S_len]
      unfold isNum at hn
      simp only [Bool.and_eq_true, decide_eq_true_eq] at hn
      omega
    simp only [fIntT, e, if_pos hl]
  have h6 : (w.map fun c => decide (48 ≤ c) && decide (c ≤ 57)).all id = w.all fun c => decide (48 ≤ c) && decide (c ≤ 57) := by rw [List.all_map]; rfl
  rw [h6] at h4
  unfold numR
  have hn : isNum w = (decide (1 ≤ w.length) && decide (w.length ≤ 2) && w.all fun c => decide (48 ≤ c) && decide (c ≤ 57)) := rfl
  generalize (w.map fun c => decide (48 ≤ c) && decide (c ≤ 57)).map D.bl = bl at *
  generalize (w.map fun c => D.str (S [c])) = sg at *
  generalize S w = x at *
  generalize (w.all fun c => decide (48 ≤ c) && decide (c ≤ 57)) = dg at *
  generalize hk : w.length = k at *
  by_cases c1 : 1 ≤ k
  · by_cases c2 : k ≤ 2
    · have c1' : (1 : Int) ≤ (k : Int) := by omega
      have c2' : (k : Int) ≤ 2 := by omega
      cases dg with
      | true =>
        have hn : isNum w = true := by simp [hn, c1, c2]
        have h5 := h5 hn
        simp [fs_number_of, fsOf, sem_number_of, initE, h1, h2, h3, h4, h5, hn, c1', c2']
      | false =>
        have hn : isNum w = false := by simp [hn]
        simp [fs_number_of, fsOf, sem_number_of, initE, h1, h2, h3, h4, hn, c1', c2']
    · have c1' : (1 : Int) ≤ (k : Int) := by omega
      have c2' : ¬ (k : Int) ≤ 2 := by omega
      have hn : isNum w = false := by simp [hn, c2]
      simp [fs_number_of, fsOf, sem_number_of, initE, h1, h2, h3, h4, hn, c1', c2']
  · have c1' : ¬ (1 : Int) ≤ (k : Int) := by omega
    have hn : isNum w = false := by simp [hn, c1]
    simp [fs_number_of, fsOf, sem_number_of, initE, h1, h2, h3, h4, hn, c1']
theorem split_at {c : Nat} (hc : c < 256) {l : List Nat} (h : l.length ≤ 1000000) : opSplit (S l) (.str (S [c])) = some (.lst ((TL.spl [c] 0 [] l).map strS)) := by
  have h1 : (S [c]).length ≠ 0 ∧ (S l).length ≤ 1000000 := by rw [SX.S_len, SX.S_len]; exact ⟨by simp, h⟩
  show (if (S [c]).length ≠ 0 ∧ (S l).length ≤ 1000000 then some (D.lst ((Txt.split (S l) (S [c])).map .str)) else none) = _
  rw [if_pos h1, SX.split_S (by simp) (by simp [hc]), List.map_map]
  rfl
@[simp] theorem y_bL' {bs : Bnds} {n : Nat} {ds : List D} {ρ : Envi} : bL n bs (.lst ds) ρ = if ds.length = n then bs ds ρ else none := id rfl
def arR (l : List Nat) : Option Ar := match TL.spl [42] 0 [] l with
  | [p, r] => match TL.spl [62] 0 [] p with
    | [x, y] => if (isNum x && isNum y && isNum r) = true then some ⟨(NumText.digitsVal x : Nat), (NumText.digitsVal y : Nat), (NumText.digitsVal r : Nat)⟩ else none
    | _ => none
  | _ => none
theorem fs_arrow_of_eq {l : List Nat} (h : l.length ≤ 1000000) : fs_arrow_of [.str (S l)] = (match arR l with | some x => .fz (arD x) | none => .exc .noText) := by
  have h1 := split_at (c := 42) (by decide) h
  obtain ⟨k1, -, -, -, k2⟩ := spl_all 42 l
  unfold arR
  generalize TL.spl [42] 0 [] l = ps at *
  match ps, k1, k2, h1 with
  | [], k1, _, _ => exact absurd rfl k1
  | [p], _, _, h1 =>
    simp only [fs_arrow_of, fsOf, sem_arrow_of, initE, q_st, q_gt]
    generalize S l = x at *
    generalize S [42] = y at *
    simp [h1]
  | p :: r :: z :: t, _, _, h1 =>
    have e : ¬ ((t.length : Int) + 1 + 1 + 1 = 2) := by omega
    simp only [fs_arrow_of, fsOf, sem_arrow_of, initE, q_st, q_gt]
    generalize S l = x at *
    generalize S [42] = y at *
    simp [h1, e]
  | [p, r], _, k2, h1 =>
    have lp := (k2 p (by simp)).1
    have lr := (k2 r (by simp)).1
    have h2 := split_at (c := 62) (by decide) (l := p) (by omega)
    obtain ⟨j1, -, -, -, j2⟩ := spl_all 62 p
    have n3 := fs_number_of_eq (w := r) (by omega)
    show _ = (match (match TL.spl [62] 0 [] p with
      | [x, y] => if (isNum x && isNum y && isNum r) = true then some (⟨(NumText.digitsVal x : Nat), (NumText.digitsVal y : Nat), (NumText.digitsVal r : Nat)⟩ : Ar) else none
      | _ => none) with | some x => Rf.fz (arD x) | none => Rf.exc .noText)
    generalize TL.spl [62] 0 [] p = qs at *
    have h1 : opSplit (S l) (.str (S [42])) = some (.lst [.str (S p), .str (S r)]) := h1
    match qs, j1, j2, h2 with
    | [], j1, _, _ => exact absurd rfl j1
    | [a], _, _, h2 =>
      simp only [fs_arrow_of, fsOf, sem_arrow_of, initE, q_st, q_gt]
      generalize S l = xl at *
      generalize S [42] = y at *
      generalize S [62] = y2 at *
      generalize S p = xp at *
      generalize S r = xr at *
      simp [h1, h2]
    | a :: b :: z :: t, _, _, h2 =>
      have e : ¬ ((t.length : Int) + 1 + 1 + 1 = 2) := by omega
      simp only [fs_arrow_of, fsOf, sem_arrow_of, initE, q_st, q_gt]
      generalize S l = xl at *
      generalize S [42] = y at *
      generalize S [62] = y2 at *
      generalize S p = xp at *
      generalize S r = xr at *
      simp [h1, h2, e]
    | [a, b], _, j2, h2 =>
      have la := (j2 a (by simp)).1
      have lb := (j2 b (by simp)).1
      have n1 := fs_number_of_eq (w := a) (by omega)
      have n2 := fs_number_of_eq (w := b) (by omega)
      have h2 : opSplit (S p) (.str (S [62])) = some (.lst [.str (S a), .str (S b)]) := h2
      simp only [fs_arrow_of, fsOf, sem_arrow_of, initE, q_st, q_gt]
      generalize S l = xl at *
      generalize S [42] = y at *
      generalize S [62] = y2 at *
      generalize S p = xp at *
      generalize S r = xr at *
      generalize S a = xa at *
      generalize S b = xb at *
      unfold numR at n1 n2 n3
      show _ = (match (if (isNum a && isNum b && isNum r) = true then some (⟨(NumText.digitsVal a : Nat), (NumText.digitsVal b : Nat), (NumText.digitsVal r : Nat)⟩ : Ar) else none) with | some x => Rf.fz (arD x) | none => Rf.exc .noText)
      generalize NumText.digitsVal a = va at *
      generalize NumText.digitsVal b = vb at *
      generalize NumText.digitsVal r = vr at *
      cases q1 : isNum a <;> cases q2 : isNum b <;> cases q3 : isNum r <;> simp [h1, h2, n1, n2, n3, q1, q2, q3, arD]

/-! webs of things that may be none -/
def oD : Option Int → D
  | none => .non
  | some i => .int i
structure Tr where
  a : Option Int
  b : Option Int
  c : Option Int
def trD (t : Tr) : D := .tup [oD t.a, oD t.b, oD t.c]
def oAr (x : Ar) : Tr := ⟨some x.a, some x.b, some x.c⟩
theorem trD_oAr (x : Ar) : trD (oAr x) = arD x := rfl
def owD (n : Option Int) (ts : List Tr) : D := .tup [oD n, .ktup (ts.map trD)]
def inO (x : Option Int) (lo hi : Int) : Bool := match x with
  | none => false
  | some i => decide (lo ≤ i ∧ i ≤ hi)
theorem fs_is_whole_non : fs_is_whole [.non] = .fz (.bl false) := rfl
theorem fs_between_o (x : Option Int) (lo hi : Int) : fs_between [oD x, .int lo, .int hi] = .fz (.bl (inO x lo hi)) := by
  cases x with
  | none => simp [fs_between, fsOf, sem_between, initE, fs_is_whole_non, oD, inO]
  | some i => exact fs_between_int i lo hi
def okA (t : Tr) (N : Int) : Bool := inO t.a 0 (N - 1) && inO t.b 0 (N - 1) && !decide (t.a = t.b) && inO t.c 1 99
theorem fs_is_arrow_o (t : Tr) (N : Int) : fs_is_arrow [trD t, .int N] = .fz (.bl (okA t N)) := by
  obtain ⟨a, b, c⟩ := t
  have h1 := fs_between_o a 0 (N - 1)
  have h2 := fs_between_o b 0 (N - 1)
  have h3 := fs_between_o c 1 99
  unfold okA trD
  dsimp only
  cases q1 : inO a 0 (N - 1) with
  | false => simp [fs_is_arrow, fsOf, sem_is_arrow, initE, isi_tup, h1, q1]
  | true =>
    cases q2 : inO b 0 (N - 1) with
    | false => simp [fs_is_arrow, fsOf, sem_is_arrow, initE, isi_tup, h1, q1, h2, q2]
    | true =>
      cases a with
      | none => cases q1
      | some i =>
        cases b with
        | none => cases q2
        | some j =>
          have h1 : fs_between [.int i, .int 0, .int (N - 1)] = _ := h1
          have h2 : fs_between [.int j, .int 0, .int (N - 1)] = _ := h2
          rw [q1] at h1
          rw [q2] at h2
          by_cases e : i = j
          · subst e
            simp [fs_is_arrow, fsOf, sem_is_arrow, initE, isi_tup, h1, h2, oD]
          · simp [fs_is_arrow, fsOf, sem_is_arrow, initE, isi_tup, h1, h2, oD]
            simp only [oD] at h3
            simp [e, h3]
def toA (t : Tr) : Ar := ⟨t.a.getD 0, t.b.getD 0, t.c.getD 0⟩
theorem okA_ar {t : Tr} {N : Int} (h : okA t N = true) : t = oAr (toA t) ∧ 0 ≤ (toA t).a ∧ (toA t).a < N ∧ 0 ≤ (toA t).b ∧ (toA t).b < N ∧ (toA t).a ≠ (toA t).b ∧ 1 ≤ (toA t).c ∧ (toA t).c ≤ 99 := by
  obtain ⟨a, b, c⟩ := t
  unfold okA at h
  cases a with
  | none => simp [inO] at h
  | some i =>
    cases b with
    | none => simp [inO] at h
    | some j =>
      cases c with
      | none => simp [inO] at h
      | some k =>
        simp [inO] at h
        obtain ⟨⟨⟨⟨h1, h2⟩, h3, h4⟩, h5⟩, h6, h7⟩ := h
        refine ⟨rfl, h1, ?_, h3, ?_, h5, h6, h7⟩
        · show i < N; omega
        · show j < N; omega
def ltk (as : List Ar) (k : Nat) : Bool := match as[k]?, as[k + 1]? with
  | some x, some y => HT.lexLt [x.a, x.b] [y.a, y.b]
  | _, _ => false
theorem lex_lt {x y : Ar} (h : HT.lexLt [x.a, x.b] [y.a, y.b] = true) : arLt x y := by
  unfold arLt
  rw [HT.lexLt_cons] at h
  split at h
  · rename_i e
    rw [HT.lexLt_cons] at h
    split at h
    · cases h
    · exact .inr ⟨e, of_decide_eq_true h⟩
  · exact .inl (of_decide_eq_true h)
theorem arLt_trans {x y z : Ar} (h : arLt x y) (g : arLt y z) : arLt x z := by unfold arLt at *; omega
theorem ltk_so {as : List Ar} (h : (List.range (as.length - 1)).all (ltk as) = true) : as.Pairwise arLt := by
  rw [List.all_eq_true] at h
  have h1 : ∀ k, (hk : k + 1 < as.length) → arLt as[k] as[k + 1] := fun k hk => by
    have := h k (List.mem_range.mpr (by omega))
    unfold ltk at this
    rw [List.getElem?_eq_getElem (by omega), List.getElem?_eq_getElem hk] at this
    exact lex_lt this
  have h2 : ∀ d i, (hk : i + d + 1 < as.length) → arLt as[i] as[i + d + 1] := fun d => by
    induction d with
    | zero => exact fun i hk => h1 i hk
    | succ d ih => exact fun i hk => arLt_trans (ih i (by omega)) (h1 (i + d + 1) hk)
  rw [List.pairwise_iff_getElem]
  intro i j hi hj hij
  obtain ⟨d, rfl⟩ : ∃ d, j = i + d + 1 := ⟨j - i - 1, by omega⟩
  exact h2 d i hj
theorem so_len {as : List Ar} {n : Nat} (h7 : n ≤ 7) (har : ∀ x ∈ as, 0 ≤ x.a ∧ x.a < n ∧ 0 ≤ x.b ∧ x.b < n ∧ x.a ≠ x.b ∧ 1 ≤ x.c ∧ x.c ≤ 99) (hs : as.Pairwise arLt) : as.length ≤ 1000 := by
  have h1 : (as.map fun x => (x.a * 7 + x.b).toNat).Pairwise (· < ·) := by
    rw [List.pairwise_map]
    refine hs.imp_of_mem fun {x y} hx hy hxy => ?_
    have := har x hx
    have := har y hy
    unfold arLt at hxy
    omega
  have h2 := incr_len (m := 49) _ 0 h1 fun v hv => by
    obtain ⟨x, hx, rfl⟩ := List.mem_map.mp hv
    have := har x hx
    omega
  rw [List.length_map] at h2
  omega
theorem fs_is_web_o (n : Option Int) (ts : List Tr) (hl : ts.length ≤ 2000000) : ∃ b, fs_is_web [owD n ts] = .fz (.bl b) ∧ (b = true → ∃ (N : Nat) (as : List Ar), WebOk N as ∧ n = some (N : Int) ∧ ts = as.map oAr ∧ owD n ts = webD N as) := by
  have g1 := fs_between_o n 1 7
  cases hN : inO n 1 7 with
  | false =>
    rw [hN] at g1
    refine ⟨false, ?_, fun h => nomatch h⟩
    unfold owD
    simp [fs_is_web, fsOf, sem_is_web, initE, isi_tup, g1]
  | true =>
    rw [hN] at g1
    cases n with
    | none => cases hN
    | some N =>
      have hN2 : 1 ≤ N ∧ N ≤ 7 := of_decide_eq_true hN
      have g1 : fs_between [.int N, .int 1, .int 7] = .fz (.bl true) := g1
      have c1 : runComp (bN 2) tTrue ce_is_web_1 [2] (ts.map trD) [.fz (owD (some N) ts), .fz (.ktup (ts.map trD)), .un, .un] = some ((ts.map fun t => okA t N).map .bl, [.fz (owD (some N) ts), .fz (.ktup (ts.map trD)), .un, .un]) := by
        rw [runComp_map (enc := trD) (F := fun t => some (D.bl (okA t N)))]
        · rw [List.filterMap_eq_map', List.map_map]; rfl
        · intro t ht
          have := fs_is_arrow_o t N
          refine ⟨_, rfl, .inr ⟨rfl, .bl (okA t N), [.fz (owD (some N) ts), .fz (.ktup (ts.map trD)), .fz (trD t), .un], ?_, rfl, rfl⟩⟩
          simp [ce_is_web_1, owD, oD, this]
      have a1 := fAll_bls (ts.map fun t => okA t N)
      have e1 : (ts.map fun t => okA t N).all id = ts.all fun t => okA t N := by rw [List.all_map]; rfl
      rw [e1] at a1
      cases hA : ts.all fun t => okA t N with
      | false =>
        rw [hA] at a1
        refine ⟨false, ?_, fun h => nomatch h⟩
        have hW : owD (some N) ts = .tup [.int N, .ktup (ts.map trD)] := rfl
        rw [hW] at c1 ⊢
        generalize (ts.map fun t => okA t N).map D.bl = z1 at *
        simp [fs_is_web, fsOf, sem_is_web, initE, isi_tup, isi_ktup, g1, c1, a1]
      | true =>
        rw [hA] at a1
        rw [List.all_eq_true] at hA
        obtain ⟨m, rfl⟩ : ∃ m : Nat, N = (m : Int) := ⟨N.toNat, by omega⟩
        obtain ⟨as, has⟩ : ∃ as, as = ts.map toA := ⟨_, rfl⟩
        have hts : ts = as.map oAr := by
          rw [has, List.map_map]
          conv => lhs; rw [← List.map_id ts]
          exact List.map_congr_left fun t ht => (okA_ar (hA t ht)).1
        have har : ∀ x ∈ as, 0 ≤ x.a ∧ x.a < (m : Int) ∧ 0 ≤ x.b ∧ x.b < (m : Int) ∧ x.a ≠ x.b ∧ 1 ≤ x.c ∧ x.c ≤ 99 := fun x hx => by
          rw [has] at hx
          obtain ⟨t, ht, rfl⟩ := List.mem_map.mp hx
          exact (okA_ar (hA t ht)).2
        have hD : ts.map trD = as.map arD := by rw [hts, List.map_map]; rfl
        have hW : owD (some (m : Int)) ts = webD m as := by unfold owD webD; rw [hD]; rfl
        have hlen : as.length = ts.length := by rw [has, List.length_map]
        have c2 : runComp (bN 3) tTrue ce_is_web_2 [3] (nats (as.length - 1)) [.fz (webD m as), .fz (.ktup (as.map arD)), .un, .un] = some (((List.range (as.length - 1)).map (ltk as)).map .bl, [.fz (webD m as), .fz (.ktup (as.map arD)), .un, .un]) := by
          unfold nats
          rw [runComp_map (enc := fun i : Nat => D.int (i : Int)) (F := fun k => some (D.bl (ltk as k)))]
          · rw [List.filterMap_eq_map', List.map_map]; rfl
          · intro k hk
            rw [List.mem_range] at hk
            have k0 : k < as.length := by omega
            have k1 : k + 1 < as.length := by omega
            have e0 : atI (as.map arD) (k : Int) = some (arD as[k]) := by
              rw [atI_nat (j := k) (by rw [List.getElem?_map, List.getElem?_eq_getElem k0]; rfl)]
            have e1 : atI (as.map arD) ((k : Int) + 1) = some (arD as[k + 1]) := by
              have := atI_nat (xs := as.map arD) (j := k + 1) (v := arD as[k + 1]) (by rw [List.getElem?_map, List.getElem?_eq_getElem k1]; rfl)
              rw [← this]; rfl
            have e2 : opLtA (.tup [.int as[k].a, .int as[k].b]) (.tup [.int as[k + 1].a, .int as[k + 1].b]) = some (.bl (ltk as k)) := by
              unfold ltk
              rw [List.getElem?_eq_getElem k0, List.getElem?_eq_getElem k1]
              rfl
            refine ⟨_, rfl, .inr ⟨rfl, .bl (ltk as k), [.fz (webD m as), .fz (.ktup (as.map arD)), .un, .fz (.int k)], ?_, rfl, rfl⟩⟩
            simp [ce_is_web_2, e0, e1, e2, opSl_ar]
        have a2 := fAll_bls ((List.range (as.length - 1)).map (ltk as))
        have e2 : ((List.range (as.length - 1)).map (ltk as)).all id = (List.range (as.length - 1)).all (ltk as) := by rw [List.all_map]; rfl
        rw [e2] at a2
        refine ⟨(List.range (as.length - 1)).all (ltk as), ?_, fun h => ?_⟩
        · have b3 : SmallI ((as.length : Int) - 1) := by unfold SmallI; omega
          have b4 : ((as.length : Int) - 1).toNat = as.length - 1 := by omega
          rw [hD, hW] at c1
          rw [hW]
          have hW2 : webD m as = .tup [.int m, .ktup (as.map arD)] := rfl
          rw [hW2] at c1 c2 ⊢
          generalize (ts.map fun t => okA t (m : Int)).map D.bl = z1 at *
          generalize ((List.range (as.length - 1)).map (ltk as)).map D.bl = z2 at *
          simp [fs_is_web, fsOf, sem_is_web, initE, isi_tup, isi_ktup, g1, c1, a1, b3, b4, c2, a2]
        · have hs := ltk_so h
          exact ⟨m, as, ⟨by omega, by omega, har, hs, so_len (n := m) (by omega) har hs⟩, rfl, hts, hW⟩

/-! texts of webs -/
def arL (x : Ar) : List Nat := TL.numL x.a.toNat ++ (62 :: (TL.numL x.b.toNat ++ (42 :: TL.numL x.c.toNat)))
def textL (n : Nat) (as : List Ar) : List Nat := thL ++ (TL.joinL [10] (TL.numL n :: as.map arL) ++ [10])
def flatL (ls : List (List Nat)) : List Nat := ls.flatMap fun l => l ++ [10]
theorem join_flat (p : List Nat) : ∀ qs : List (List Nat), TL.joinL [10] (p :: qs) ++ [10] = p ++ (10 :: flatL qs)
  | [] => rfl
  | q :: qs => by
    have ih := join_flat q qs
    show (p ++ ([10] ++ TL.joinL [10] (q :: qs))) ++ [10] = p ++ (10 :: ((q ++ [10]) ++ flatL qs))
    rw [List.append_assoc, List.append_assoc, ih]
    simp
theorem textL_flat (n : Nat) (as : List Ar) : textL n as = thL ++ (TL.numL n ++ (10 :: flatL (as.map arL))) := by
  unfold textL
  rw [join_flat]
theorem join_pre (t p : List Nat) (qs : List (List Nat)) : TL.joinL [10] ((t ++ p) :: qs) = t ++ TL.joinL [10] (p :: qs) := by
  cases qs with
  | nil => rfl
  | cons q qs =>
    show (t ++ p) ++ ([10] ++ TL.joinL [10] (q :: qs)) = t ++ (p ++ ([10] ++ TL.joinL [10] (q :: qs)))
    rw [List.append_assoc]
theorem num_len {n : Nat} (h : n < 100) : (TL.numL n).length ≤ 2 := TL.numL_len (k := 2) (by decide) h
theorem strI {i : Int} (h : 0 ≤ i ∧ i < 100) : fStrI [.int i] = .fz (.str (S (TL.numL i.toNat))) := by
  obtain ⟨n, rfl⟩ : ∃ n : Nat, i = (n : Int) := ⟨i.toNat, by omega⟩
  have h1 : ((n : Nat) : Int).natAbs.log2 < 1920 := by
    have := Nat.log2_le_self n
    rw [Int.natAbs_natCast]
    omega
  show (if ((n : Nat) : Int).natAbs.log2 < 1920 then Rf.fz (.str (Str.ofString (toString ((n : Nat) : Int)))) else .stuck) = _
  rw [if_pos h1, SX.num_S, Int.toNat_natCast]
theorem addS {a b : List Nat} (h : a.length + b.length ≤ 1000000) : opAdd (.str (S a)) (.str (S b)) = some (.str (S (a ++ b))) := by
  show (if (S a).length + (S b).length ≤ big then some (D.str (S a ++ S b)) else none) = _
  rw [SX.S_len, SX.S_len, if_pos (by unfold big; omega), SX.S_cat]
theorem arL_len {n : Nat} {x : Ar} (h7 : n ≤ 7) (h : 0 ≤ x.a ∧ x.a < n ∧ 0 ≤ x.b ∧ x.b < n ∧ x.a ≠ x.b ∧ 1 ≤ x.c ∧ x.c ≤ 99) : (arL x).length ≤ 8 := by
  have h1 := num_len (n := x.a.toNat) (by omega)
  have h2 := num_len (n := x.b.toNat) (by omega)
  have h3 := num_len (n := x.c.toNat) (by omega)
  unfold arL
  simp only [List.length_append, List.length_cons]
  omega
theorem flat_len {ls : List (List Nat)} {k : Nat} (h : ∀ l ∈ ls, l.length ≤ k) : (flatL ls).length ≤ ls.length * (k + 1) := by
  induction ls with
  | nil => simp [flatL]
  | cons l ls ih =>
    have h1 := h l List.mem_cons_self
    have h2 := ih fun z hz => h z (List.mem_cons_of_mem _ hz)
    show ((l ++ [10]) ++ flatL ls).length ≤ (ls.length + 1) * (k + 1)
    rw [List.length_append, List.length_append, Nat.succ_mul]
    simp only [List.length_cons, List.length_nil]
    omega
theorem ars_len {n : Nat} {as : List Ar} (h : WebOk n as) : ∀ l ∈ as.map arL, l.length ≤ 8 := fun l hl => by
  obtain ⟨x, hx, rfl⟩ := List.mem_map.mp hl
  exact arL_len h.n7 (h.ar x hx)
theorem textL_len {n : Nat} {as : List Ar} (h : WebOk n as) : (textL n as).length ≤ 10 + 9 * as.length := by
  have h1 := flat_len (ars_len h)
  have h2 := num_len (n := n) (by have := h.n7; omega)
  rw [List.length_map] at h1
  rw [textL_flat]
  simp only [List.length_append, List.length_cons]
  show 7 + _ ≤ _
  omega
theorem sum_len {ls : List (List Nat)} {k : Nat} (h : ∀ l ∈ ls, l.length ≤ k) : ((ls.map S).map (·.length)).sum ≤ ls.length * k := by
  induction ls with
  | nil => simp
  | cons l ls ih =>
    have h1 := h l List.mem_cons_self
    have h2 := ih fun z hz => h z (List.mem_cons_of_mem _ hz)
    rw [List.map_cons, List.map_cons, List.sum_cons, SX.S_len, List.length_cons, Nat.succ_mul]
    omega
theorem joinS {ls : List (List Nat)} (h : ∀ l ∈ ls, l.length ≤ 100) (hl : ls.length ≤ 2000) : opJoin (S []) (.lst (ls.map strS)) = some (.str (S (TL.joinL [] ls))) := by
  have e : ls.map strS = (ls.map S).map D.str := by rw [List.map_map]; rfl
  have h1 := sum_len h
  show (match ((some (ls.map strS)).bind strsOf : Option (List Str)) with
    | some ys => if (ys.map fun y : Str => y.length).sum + ys.length * (S []).length ≤ 16777216 then some (D.str (Txt.join (S []) ys)) else none
    | none => none) = _
  rw [Option.bind_some, e, strsOf_map]
  show (if ((ls.map S).map (·.length)).sum + (ls.map S).length * (S []).length ≤ 16777216 then some (D.str (Txt.join (S []) (ls.map S))) else none) = _
  have e2 : (S []).length = 0 := rfl
  rw [e2, if_pos (by omega), SX.join_S]
theorem fs_text_of_ok {n : Nat} {as : List Ar} (h : WebOk n as) : fs_text_of [webD n as] = .fz (.str (S (textL n as))) := by
  have n7 := h.n7
  have hn := num_len (n := n) (by omega)
  have s0 : fStrI [.int (n : Nat)] = .fz (.str (S (TL.numL n))) := strI (i := (n : Nat)) ⟨by omega, by omega⟩
  have a0 : opAdd (.str (S thL)) (.str (S (TL.numL n))) = some (strS (thL ++ TL.numL n)) := addS (by show 7 + _ ≤ _; omega)
  have x0 : opIx (webD n as) (.int 0) = some (.int (n : Nat)) := rfl
  have x1 : opIx (webD n as) (.int 1) = some (.ktup (as.map arD)) := rfl
  have c1 : ∀ s1, runComp (bT 3 (bsCons (bN 2) (bsCons (bN 3) (bsCons (bN 4) bsNil)))) tTrue ce_text_of_1 [2, 3, 4] (as.map arD) [.fz (webD n as), s1, .un, .un, .un, .un] = some ((as.map arL).map strS, [.fz (webD n as), s1, .un, .un, .un, .un]) := fun s1 => by
    rw [runComp_map (enc := arD) (F := fun x => some (strS (arL x)))]
    · rw [List.filterMap_eq_map', List.map_map]; rfl
    · intro x hx
      have hx := h.ar x hx
      have l1 := num_len (n := x.a.toNat) (by omega)
      have l2 := num_len (n := x.b.toNat) (by omega)
      have l3 := num_len (n := x.c.toNat) (by omega)
      have t1 := strI (i := x.a) (by omega)
      have t2 := strI (i := x.b) (by omega)
      have t3 := strI (i := x.c) (by omega)
      have u1 := addS (a := TL.numL x.a.toNat) (b := [62]) (by simp only [List.length_cons, List.length_nil]; omega)
      have u2 := addS (a := TL.numL x.a.toNat ++ [62]) (b := TL.numL x.b.toNat) (by simp only [List.length_append, List.length_cons, List.length_nil]; omega)
      have u3 := addS (a := TL.numL x.a.toNat ++ [62] ++ TL.numL x.b.toNat) (b := [42]) (by simp only [List.length_append, List.length_cons, List.length_nil]; omega)
      have u4 := addS (a := TL.numL x.a.toNat ++ [62] ++ TL.numL x.b.toNat ++ [42]) (b := TL.numL x.c.toNat) (by simp only [List.length_append, List.length_cons, List.length_nil]; omega)
      have e : TL.numL x.a.toNat ++ [62] ++ TL.numL x.b.toNat ++ [42] ++ TL.numL x.c.toNat = arL x := by unfold arL; simp
      rw [e] at u4
      refine ⟨[.fz (webD n as), s1, .fz (.int x.a), .fz (.int x.b), .fz (.int x.c), .un], rfl, .inr ⟨rfl, strS (arL x), [.fz (webD n as), s1, .fz (.int x.a), .fz (.int x.b), .fz (.int x.c), .un], ?_, rfl, rfl⟩⟩
      unfold strS
      simp only [ce_text_of_1, q_gt, q_st]
      generalize S (arL x) = z5 at *
      generalize S (TL.numL x.a.toNat ++ [62] ++ TL.numL x.b.toNat ++ [42]) = z4 at *
      generalize S (TL.numL x.a.toNat ++ [62] ++ TL.numL x.b.toNat) = z3 at *
      generalize S (TL.numL x.a.toNat ++ [62]) = z2 at *
      generalize S (TL.numL x.a.toNat) = y1 at *
      generalize S (TL.numL x.b.toNat) = y2 at *
      generalize S (TL.numL x.c.toNat) = y3 at *
      generalize S [62] = y4 at *
      generalize S [42] = y5 at *
      simp [t1, t2, t3, u1, u2, u3, u4]
  obtain ⟨ls, hls⟩ : ∃ ls, ls = (thL ++ TL.numL n) :: as.map arL := ⟨_, rfl⟩
  have hl9 : ∀ l ∈ ls, l.length ≤ 9 := fun l hl => by
    rw [hls] at hl
    rcases List.mem_cons.mp hl with rfl | hl
    · rw [List.length_append]; show 7 + _ ≤ _; omega
    · have := ars_len h l hl; omega
  have c2 : runComp (bN 5) tTrue ce_text_of_2 [5] (ls.map strS) [.fz (webD n as), .fz (.lst (ls.map strS)), .un, .un, .un, .un] = some ((ls.map fun l => l ++ [10]).map strS, [.fz (webD n as), .fz (.lst (ls.map strS)), .un, .un, .un, .un]) := by
    rw [runComp_map (enc := strS) (F := fun l => some (strS (l ++ [10])))]
    · rw [List.filterMap_eq_map', List.map_map]; rfl
    · intro l hl
      have := hl9 l hl
      have u := addS (a := l) (b := [10]) (by simp only [List.length_cons, List.length_nil]; omega)
      refine ⟨_, rfl, .inr ⟨rfl, strS (l ++ [10]), [.fz (webD n as), .fz (.lst (ls.map strS)), .un, .un, .un, .fz (strS l)], ?_, rfl, rfl⟩⟩
      simp only [ce_text_of_2, q_nl]
      unfold strS
      generalize S (l ++ [10]) = z1 at *
      generalize S l = z2 at *
      generalize S [10] = z3 at *
      simp [u]
  have hsm := h.len
  have j1 := joinS (ls := ls.map fun l => l ++ [10]) (fun l hl => by
    obtain ⟨z, hz, rfl⟩ := List.mem_map.mp hl
    have := hl9 z hz
    rw [List.length_append]
    show z.length + 1 ≤ _
    omega) (by rw [List.length_map, hls, List.length_cons, List.length_map]; omega)
  have j2 : TL.joinL [] (ls.map fun l => l ++ [10]) = textL n as := by
    rw [join_ends 10 ls (by rw [hls]; simp), hls, join_pre]
    unfold textL
    rw [List.append_assoc]
  rw [j2] at j1
  have hm : [strS (thL ++ TL.numL n)] ++ (as.map arL).map strS = ls.map strS := by rw [hls]; rfl
  have mu : muExtend (.li [strS (thL ++ TL.numL n)]) [.lst ((as.map arL).map strS)] = some (.non, .li (ls.map strS)) := by
    rw [← hm]
    show (if [strS (thL ++ TL.numL n)].length + ((as.map arL).map strS).length ≤ big then some (D.non, Own.li ([strS (thL ++ TL.numL n)] ++ (as.map arL).map strS)) else none) = _
    rw [if_pos]
    rw [List.length_map, List.length_map]
    show 1 + as.length ≤ 16777216
    omega
  simp only [fs_text_of, fsOf, sem_text_of, initE, q_th, q_e]
  generalize S (textL n as) = z1 at *
  generalize webD n as = W at *
  generalize ls.map strS = L at *
  generalize (ls.map fun l => l ++ [10]).map strS = L2 at *
  generalize strS (thL ++ TL.numL n) = z2 at *
  generalize S (TL.numL n) = z3 at *
  generalize S thL = z4 at *
  generalize S [] = z5 at *
  generalize (as.map arL).map strS = L3 at *
  simp [x0, x1, s0, a0, c1, mu, c2, j1]
/-! the law's text -/
theorem fs_L_text_ok {n : Nat} {as : List Ar} (h : WebOk n as) : fs_L_text [webD n as] = .fz (.str (S (textL n as))) := by
  have n7 := h.n7
  have hn := num_len (n := n) (by omega)
  have hsm := h.len
  have s0 : fStrI [.int (n : Nat)] = .fz (.str (S (TL.numL n))) := strI (i := (n : Nat)) ⟨by omega, by omega⟩
  have a0 : opAdd (.str (S thL)) (.str (S (TL.numL n))) = some (.str (S (thL ++ TL.numL n))) := addS (by show 7 + _ ≤ _; omega)
  have a1 : opAdd (.str (S (thL ++ TL.numL n))) (.str (S [10])) = some (.str (S (thL ++ TL.numL n ++ [10]))) := addS (by rw [List.length_append]; show 7 + _ + 1 ≤ _; omega)
  have x0 : opIx (webD n as) (.int 0) = some (.int (n : Nat)) := rfl
  have x1 : opIx (webD n as) (.int 1) = some (.ktup (as.map arD)) := rfl
  have loop : ∀ (l : List Ar), (∀ x ∈ l, x ∈ as) → ∀ (t : List Nat), t.length + 9 * l.length ≤ 100000 → ∀ y2 y3 y4 : Slot, ∃ z2 z3 z4, runFor (bT 3 (bsCons (bN 2) (bsCons (bN 3) (bsCons (bN 4) bsNil)))) bd_L_text_1 (l.map arD) [.fz (webD n as), .fz (.str (S t)), y2, y3, y4] =
      .nx [.fz (webD n as), .fz (.str (S (t ++ flatL (l.map arL)))), z2, z3, z4] := fun l => by
    induction l with
    | nil =>
      intro _ t _ y2 y3 y4
      refine ⟨y2, y3, y4, ?_⟩
      show Fl.nx _ = _
      have : t ++ flatL (([] : List Ar).map arL) = t := List.append_nil t
      rw [this]
    | cons x l ih =>
      intro hm t ht y2 y3 y4
      have hx := h.ar x (hm x List.mem_cons_self)
      have lx := arL_len n7 hx
      rw [List.length_cons] at ht
      have l1 := num_len (n := x.a.toNat) (by omega)
      have l2 := num_len (n := x.b.toNat) (by omega)
      have l3 := num_len (n := x.c.toNat) (by omega)
      have t1 := strI (i := x.a) (by omega)
      have t2 := strI (i := x.b) (by omega)
      have t3 := strI (i := x.c) (by omega)
      have u1 := addS (a := t) (b := TL.numL x.a.toNat) (by omega)
      have u2 := addS (a := t ++ TL.numL x.a.toNat) (b := [62]) (by simp only [List.length_append, List.length_cons, List.length_nil]; omega)
      have u3 := addS (a := t ++ TL.numL x.a.toNat ++ [62]) (b := TL.numL x.b.toNat) (by simp only [List.length_append, List.length_cons, List.length_nil]; omega)
      have u4 := addS (a := t ++ TL.numL x.a.toNat ++ [62] ++ TL.numL x.b.toNat) (b := [42]) (by simp only [List.length_append, List.length_cons, List.length_nil]; omega)
      have u5 := addS (a := t ++ TL.numL x.a.toNat ++ [62] ++ TL.numL x.b.toNat ++ [42]) (b := TL.numL x.c.toNat) (by simp only [List.length_append, List.length_cons, List.length_nil]; omega)
      have u6 := addS (a := t ++ TL.numL x.a.toNat ++ [62] ++ TL.numL x.b.toNat ++ [42] ++ TL.numL x.c.toNat) (b := [10]) (by simp only [List.length_append, List.length_cons, List.length_nil]; omega)
      have e : t ++ TL.numL x.a.toNat ++ [62] ++ TL.numL x.b.toNat ++ [42] ++ TL.numL x.c.toNat ++ [10] = t ++ (arL x ++ [10]) := by unfold arL; simp
      rw [e] at u6
      obtain ⟨z2, z3, z4, ih⟩ := ih (fun y hy => hm y (List.mem_cons_of_mem _ hy)) (t ++ (arL x ++ [10])) (by simp only [List.length_append, List.length_cons, List.length_nil]; omega) (.fz (.int x.a)) (.fz (.int x.b)) (.fz (.int x.c))
      refine ⟨z2, z3, z4, ?_⟩
      have e2 : t ++ flatL ((x :: l).map arL) = t ++ (arL x ++ [10]) ++ flatL (l.map arL) := by
        exact (List.append_assoc t (arL x ++ [10]) (flatL (l.map arL))).symm
      rw [e2, ← ih]
      have hb : bd_L_text_1 [.fz (webD n as), .fz (.str (S t)), .fz (.int x.a), .fz (.int x.b), .fz (.int x.c)] = .nx [.fz (webD n as), .fz (.str (S (t ++ (arL x ++ [10])))), .fz (.int x.a), .fz (.int x.b), .fz (.int x.c)] := by
        simp only [bd_L_text_1, q_gt, q_st, q_nl]
        generalize S (t ++ (arL x ++ [10])) = w6 at *
        generalize S (t ++ TL.numL x.a.toNat ++ [62] ++ TL.numL x.b.toNat ++ [42] ++ TL.numL x.c.toNat) = w5 at *
        generalize S (t ++ TL.numL x.a.toNat ++ [62] ++ TL.numL x.b.toNat ++ [42]) = w4 at *
        generalize S (t ++ TL.numL x.a.toNat ++ [62] ++ TL.numL x.b.toNat) = w3 at *
        generalize S (t ++ TL.numL x.a.toNat ++ [62]) = w2 at *
        generalize S (t ++ TL.numL x.a.toNat) = w1 at *
        generalize S (TL.numL x.a.toNat) = v1 at *
        generalize S (TL.numL x.b.toNat) = v2 at *
        generalize S (TL.numL x.c.toNat) = v3 at *
        generalize S [62] = v4 at *
        generalize S [42] = v5 at *
        generalize S [10] = v6 at *
        generalize S t = v7 at *
        simp [t1, t2, t3, u1, u2, u3, u4, u5, u6]
      show (match bd_L_text_1 [.fz (webD n as), .fz (.str (S t)), .fz (.int x.a), .fz (.int x.b), .fz (.int x.c)] with
        | .nx ρ2 => runFor (bT 3 (bsCons (bN 2) (bsCons (bN 3) (bsCons (bN 4) bsNil)))) bd_L_text_1 (l.map arD) ρ2
        | .ct ρ2 => runFor (bT 3 (bsCons (bN 2) (bsCons (bN 3) (bsCons (bN 4) bsNil)))) bd_L_text_1 (l.map arD) ρ2
        | .bk ρ2 => .nx ρ2
        | r => r) = _
      rw [hb]
  obtain ⟨z2, z3, z4, hloop⟩ := loop as (fun _ h => h) (thL ++ TL.numL n ++ [10]) (by simp only [List.length_append, List.length_cons, List.length_nil]; show 7 + _ + _ + _ ≤ _; omega) .un .un .un
  have e : thL ++ TL.numL n ++ [10] ++ flatL (as.map arL) = textL n as := by rw [textL_flat]; simp
  rw [e] at hloop
  simp only [fs_L_text, fsOf, sem_L_text, initE, q_th, q_nl]
  generalize S (textL n as) = w1 at *
  generalize webD n as = W at *
  generalize S (thL ++ TL.numL n ++ [10]) = w2 at *
  generalize S (thL ++ TL.numL n) = w3 at *
  generalize S (TL.numL n) = w4 at *
  generalize S thL = w5 at *
  generalize S [10] = w6 at *
  simp [x0, x1, s0, a0, a1, hloop]

/-! slices of texts -/
theorem sl_to {a : List Nat} (h : a.length ≤ 1000000) (i : Nat) : opSlS (.str (S a)) none (some (i : Int)) = some (.str (S (a.take i))) := by
  show (if (S a).length ≤ big then some (D.str (cutS (S a) none (some (i : Int)))) else none) = _
  rw [SX.S_len, if_pos (by unfold big; omega), C8.cutS_slice, SX.slice_to (by omega), Int.toNat_natCast]
theorem sl_from {a : List Nat} (h : a.length ≤ 1000000) (i : Nat) : opSlS (.str (S a)) (some (i : Int)) none = some (.str (S (a.drop i))) := by
  show (if (S a).length ≤ big then some (D.str (cutS (S a) (some (i : Int)) none)) else none) = _
  rw [SX.S_len, if_pos (by unfold big; omega), C8.cutS_slice, SX.slice_from (by omega), Int.toNat_natCast]
theorem sl_mid {a : List Nat} (h : a.length ≤ 1000000) (i j : Nat) : opSlS (.str (S a)) (some (i : Int)) (some (j : Int)) = some (.str (S ((a.take j).drop i))) := by
  show (if (S a).length ≤ big then some (D.str (cutS (S a) (some (i : Int)) (some (j : Int)))) else none) = _
  rw [SX.S_len, if_pos (by unfold big; omega)]
  congr 2
  show S ((a.drop (HT.sIx (S a).length 0 (some (i : Int)))).take (HT.sIx (S a).length (S a).length (some (j : Int)) - HT.sIx (S a).length 0 (some (i : Int)))) = _
  rw [SX.S_len, HT.sIx_nat, HT.sIx_nat, List.drop_take]
  congr 1
  by_cases h1 : i ≤ a.length
  · rw [Nat.min_eq_left h1]
    by_cases h2 : j ≤ a.length
    · rw [Nat.min_eq_left h2]
    · rw [Nat.min_eq_right (show a.length ≤ j by omega), List.take_of_length_le (by rw [List.length_drop]; omega), List.take_of_length_le (by rw [List.length_drop]; omega)]
  · rw [Nat.min_eq_right (show a.length ≤ i by omega), List.drop_length, List.drop_eq_nil_of_le (as := a) (i := i) (by omega)]
    simp
theorem okT_take {a : List Nat} (h : okT a) (i : Nat) : okT (a.take i) := fun c hc => h c (List.mem_of_mem_take hc)
theorem okT_drop {a : List Nat} (h : okT a) (i : Nat) : okT (a.drop i) := fun c hc => h c (List.mem_of_mem_drop hc)
theorem okT_app {a b : List Nat} (h : okT a) (g : okT b) : okT (a ++ b) := fun c hc => (List.mem_append.mp hc).elim (h c) (g c)
theorem okT_small {a : List Nat} (h : ∀ c ∈ a, c < 128) : okT a := fun c hc => Nat.lt_trans (h c hc) (by decide)
theorem okT_th : okT thL := okT_small (by decide)
theorem okT_num (n : Nat) : okT (TL.numL n) := okT_small fun c hc => by have := TL.numL_digits n c hc; omega
theorem okT_ar (x : Ar) : okT (arL x) := by
  unfold arL
  refine okT_app (okT_num _) fun c hc => ?_
  rcases List.mem_cons.mp hc with rfl | hc
  · decide
  · refine okT_app (okT_num _) (fun c hc => ?_) c hc
    rcases List.mem_cons.mp hc with rfl | hc
    · decide
    · exact okT_num _ c hc
theorem okT_text (n : Nat) (as : List Ar) : okT (textL n as) := by
  rw [textL_flat]
  refine okT_app okT_th (okT_app (okT_num _) fun c hc => ?_)
  rcases List.mem_cons.mp hc with rfl | hc
  · decide
  · obtain ⟨l, hl, hc⟩ := List.mem_flatMap.mp hc
    obtain ⟨x, _, rfl⟩ := List.mem_map.mp hl
    exact okT_app (okT_ar x) (okT_small (by decide)) c hc
/-! the arrows of the lines -/
def cxe (l : List D) (ρ : Envi) : R Hd := .ok (.tm (.li l)) ρ
def cxk (b : Bnd) (e : Envi → R Hd) (vs : List Nat) (ds : List D) (ρ1 : Envi) : R Hd := (runX b e vs ds (wipeE ρ1 vs)).bind cxe
@[simp] theorem y_cxe {l : List D} {ρ : Envi} : cxe l ρ = .ok (.tm (.li l)) ρ := id rfl
@[simp] theorem y_cxk {b : Bnd} {e : Envi → R Hd} {vs : List Nat} {ds : List D} {ρ : Envi} : cxk b e vs ds ρ = (runX b e vs ds (wipeE ρ vs)).bind cxe := id rfl
@[simp] theorem y_compX {it : Envi → R (List D)} {b : Bnd} {e : Envi → R Hd} {vs : List Nat} {ρ : Envi} : eCompX it b e vs ρ = (it ρ).bind (cxk b e vs) := id rfl
def arsR : List (List Nat) → Option (List Ar)
  | [] => some []
  | l :: r => match arR l, arsR r with
    | some x, some t => some (x :: t)
    | _, _ => none
theorem runX_arr (t ls : Pv.Slot) : ∀ mid : List (List Nat), (∀ l ∈ mid, l.length ≤ 1000000) → runX (bN 3) ce_read_1 [3] (mid.map strS) [t, ls, .un, .un] = (match arsR mid with | some as => R.ok (as.map arD) [t, ls, .un, .un] | none => R.exc .noText [t, ls, .un, .un])
  | [], _ => rfl
  | l :: r, h => by
    have ih := runX_arr t ls r fun z hz => h z (List.mem_cons_of_mem _ hz)
    have h1 := fs_arrow_of_eq (h l List.mem_cons_self)
    show runXk (runX (bN 3) ce_read_1 [3] (r.map strS)) [3] (eMat ce_read_1 [t, ls, .un, .fz (strS l)]) = _
    have h1 : fs_arrow_of [strS l] = _ := h1
    cases q : arR l with
    | none =>
      rw [q] at h1
      have e : eMat ce_read_1 [t, ls, .un, .fz (strS l)] = .exc .noText [t, ls, .un, .fz (strS l)] := by
        generalize strS l = z at *
        simp [ce_read_1, h1]
      rw [e]
      have e2 : arsR (l :: r) = none := by unfold arsR; rw [q]
      rw [e2]; rfl
    | some x =>
      rw [q] at h1
      have e : eMat ce_read_1 [t, ls, .un, .fz (strS l)] = .ok (.dat (arD x)) [t, ls, .un, .fz (strS l)] := by
        have h1 : fs_arrow_of [strS l] = .fz (arD x) := h1
        generalize strS l = z at *
        simp [ce_read_1, h1]
      rw [e]
      show (runX (bN 3) ce_read_1 [3] (r.map strS) [t, ls, .un, .un]).bind _ = _
      rw [ih]
      cases q2 : arsR r with
      | none =>
        have e2 : arsR (l :: r) = none := by unfold arsR; rw [q, q2]
        rw [e2]; rfl
      | some as =>
        have e2 : arsR (l :: r) = some (x :: as) := by unfold arsR; rw [q, q2]
        rw [e2]; rfl
theorem arsR_len : ∀ {mid : List (List Nat)} {as : List Ar}, arsR mid = some as → as.length = mid.length
  | [], as, h => by cases h; rfl
  | l :: r, as, h => by
    unfold arsR at h
    split at h
    · rename_i x t _ q
      cases h
      rw [List.length_cons, List.length_cons, arsR_len q]
    · cases h
/-! read -/
theorem isi_str (x : Str) : fIsi [.str x, .ty "str"] = .fz (.bl true) := rfl
theorem cut_mid {p z : List Nat} {mid : List (List Nat)} {ls : List D} (e : ls = (p :: (mid ++ [z])).map strS) : opSl false (.lst ls) (some 1) (some (-1)) = some (.lst (mid.map strS)) := by
  subst e
  show some (D.lst (Pv.cutD ((p :: (mid ++ [z])).map strS) (some 1) (some (-1)))) = _
  congr 2
  have hl : ((p :: (mid ++ [z])).map strS).length = mid.length + 2 := by simp
  unfold Pv.cutD
  rw [hl]
  have e1 : HT.sIx (mid.length + 2) 0 (some 1) = 1 := by
    have := HT.sIx_nat (mid.length + 2) 0 1
    refine this.trans ?_
    omega
  have e2 : HT.sIx (mid.length + 2) (mid.length + 2) (some (-1)) = mid.length + 1 := by
    show (if (-1 : Int) < 0 then ((-1 : Int) + ((mid.length + 2 : Nat) : Int)).toNat else min (-1 : Int).toNat (mid.length + 2)) = _
    rw [if_pos (by decide)]
    omega
  rw [e1, e2]
  show (((mid ++ [z]).map strS).take (mid.length + 1 - 1)) = _
  rw [List.map_append, Nat.add_sub_cancel]
  have := List.take_left (l₁ := mid.map strS) (l₂ := [z].map strS)
  rw [List.length_map] at this
  exact this
theorem read_one {a p : List Nat} (h : a.length ≤ 900000) (hs : TL.spl [10] 0 [] a = [p]) : fs_read [.str (S a)] = .exc .noText := by
  have s1 := split_at (c := 10) (by decide) (l := a) (by omega)
  rw [hs] at s1
  have s1 : opSplit (S a) (.str (S [10])) = some (.lst [.str (S p)]) := s1
  have i1 := isi_str (S a)
  simp only [fs_read, fsOf, sem_read, initE, q_nl]
  generalize S a = x at *
  generalize S [10] = y at *
  generalize S p = z at *
  simp [s1, i1]
theorem read_lines {a p z : List Nat} {mid : List (List Nat)} (h : a.length ≤ 900000) (ho : okT a) (hs : TL.spl [10] 0 [] a = p :: (mid ++ [z])) :
    (p.take 7 ≠ thL ∨ z ≠ [] ∨ isNum (p.drop 7) = false ∨ arsR mid = none → fs_read [.str (S a)] = .exc .noText) ∧
    ∀ as, p.take 7 = thL → z = [] → isNum (p.drop 7) = true → arsR mid = some as → 
      (fs_is_web [owD (some (NumText.digitsVal (p.drop 7) : Nat)) (as.map oAr)] = .fz (.bl false) → fs_read [.str (S a)] = .exc .noText) ∧
      ∀ x, fs_is_web [owD (some (NumText.digitsVal (p.drop 7) : Nat)) (as.map oAr)] = .fz (.bl true) → fs_text_of [owD (some (NumText.digitsVal (p.drop 7) : Nat)) (as.map oAr)] = .fz (.str (S x)) → okT x →
        fs_read [.str (S a)] = if x = a then .fz (owD (some (NumText.digitsVal (p.drop 7) : Nat)) (as.map oAr)) else .exc .noText := by
  have s1 := split_at (c := 10) (by decide) (l := a) (by omega)
  obtain ⟨-, -, -, -, k2⟩ := spl_all 10 a
  rw [hs] at s1 k2
  obtain ⟨ls, hls⟩ : ∃ ls, ls = (p :: (mid ++ [z])).map strS := ⟨_, rfl⟩
  rw [← hls] at s1
  have lp := k2 p (by simp)
  have lz := k2 z (by simp)
  have op : okT p := fun c hc => ho c (lp.2 c hc)
  have oz : okT z := fun c hc => ho c (lz.2 c hc)
  have i1 := isi_str (S a)
  have l1 : fLen [.lst ls] = .fz (.int ((mid.length + 2 : Nat) : Int)) := by rw [hls, y_len]; congr 2; simp; omega
  have l2 : ¬ (((mid.length + 2 : Nat) : Int) < 2) := by omega
  have x0 : opIx (.lst ls) (.int 0) = some (.str (S p)) := by rw [hls]; exact y_at0
  have xl : opIx (.lst ls) (.int (-1)) = some (.str (S z)) := by
    rw [hls]
    show atI ((p :: (mid ++ [z])).map strS) (-1) = some (strS z)
    have : (p :: (mid ++ [z])).map strS = (p :: mid).map strS ++ [strS z] := by simp
    rw [this]
    exact atI_last _ _
  have t7 := sl_to (a := p) (by omega) 7
  have d7 := sl_from (a := p) (by omega) 7
  have n7 := opNe_S (okT_take op 7) okT_th
  have nz := opNe_S oz (y := []) (fun _ h => nomatch h)
  have cm := cut_mid hls
  have rx := runX_arr (.fz (.str (S a))) (.fz (.lst ls)) mid fun l hl => by have := (k2 l (by simp [hl])).1; omega
  have nm := fs_number_of_eq (w := p.drop 7) (by rw [List.length_drop]; omega)
  have l1 : fLen [.lst ls] = .fz (.int ((mid.length + 2 : Nat) : Int)) := l1
  have t7 : opSlS (.str (S p)) none (some 7) = _ := t7
  have d7 : opSlS (.str (S p)) (some 7) none = _ := d7
  generalize ((mid.length + 2 : Nat) : Int) = ml at *
  clear hls
  unfold numR at nm
  refine ⟨fun hbad => ?_, fun as h1 h2 h3 h4 => ?_⟩
  · by_cases e1 : p.take 7 = thL
    · rw [decide_eq_true e1] at n7
      by_cases e2 : z = []
      · rw [decide_eq_true e2] at nz
        cases e3 : isNum (p.drop 7) with
        | false =>
          rw [e3] at nm
          simp only [fs_read, fsOf, sem_read, initE, q_nl, q_th, q_e]
          generalize S (p.take 7) = y7 at *
          generalize S (p.drop 7) = y8 at *
          generalize S thL = y1 at *
          generalize S [] = y2 at *
          generalize S [10] = y3 at *
          generalize S z = y4 at *
          generalize S a = y5 at *
          generalize S p = y6 at *
          generalize mid.map strS = mids at *
          simp [s1, i1, l1, l2, x0, xl, t7, d7, n7, nz, cm, rx, nm]
        | true =>
          rw [e3] at nm
          cases e4 : arsR mid with
          | some as => simp [e1, e2, e3, e4] at hbad
          | none =>
            rw [e4] at rx
            simp only [fs_read, fsOf, sem_read, initE, q_nl, q_th, q_e]
            generalize S (p.take 7) = y7 at *
            generalize S (p.drop 7) = y8 at *
            generalize S thL = y1 at *
            generalize S [] = y2 at *
            generalize S [10] = y3 at *
            generalize S z = y4 at *
            generalize S a = y5 at *
            generalize S p = y6 at *
            generalize mid.map strS = mids at *
            simp [s1, i1, l1, l2, x0, xl, t7, d7, n7, nz, cm, rx, nm]
      · rw [decide_eq_false e2] at nz
        simp only [fs_read, fsOf, sem_read, initE, q_nl, q_th, q_e]
        generalize S (p.take 7) = y7 at *
        generalize S (p.drop 7) = y8 at *
        generalize S thL = y1 at *
        generalize S [] = y2 at *
        generalize S [10] = y3 at *
        generalize S z = y4 at *
        generalize S a = y5 at *
        generalize S p = y6 at *
        generalize mid.map strS = mids at *
        simp [s1, i1, l1, l2, x0, xl, t7, d7, n7, nz, cm, rx, nm]
    · rw [decide_eq_false e1] at n7
      simp only [fs_read, fsOf, sem_read, initE, q_nl, q_th, q_e]
      generalize S (p.take 7) = y7 at *
      generalize S (p.drop 7) = y8 at *
      generalize S thL = y1 at *
      generalize S [] = y2 at *
      generalize S [10] = y3 at *
      generalize S z = y4 at *
      generalize S a = y5 at *
      generalize S p = y6 at *
      generalize mid.map strS = mids at *
      simp [s1, i1, l1, l2, x0, xl, t7, d7, n7, nz, cm, rx, nm]
  · rw [decide_eq_true h1] at n7
    rw [decide_eq_true h2] at nz
    rw [h3] at nm
    rw [h4] at rx
    have hW : owD (some (NumText.digitsVal (p.drop 7) : Nat)) (as.map oAr) = .tup [.int (NumText.digitsVal (p.drop 7) : Nat), .ktup (as.map arD)] := by
      unfold owD
      rw [List.map_map]; rfl
    have rx : runX (bN 3) ce_read_1 [3] (mid.map strS) [.fz (.str (S a)), .fz (.lst ls), .un, .un] = R.ok (as.map arD) [.fz (.str (S a)), .fz (.lst ls), .un, .un] := rx
    have nm : fs_number_of [.str (S (p.drop 7))] = .fz (.int (NumText.digitsVal (p.drop 7) : Nat)) := nm
    refine ⟨fun hw => ?_, fun x hw ht hx => ?_⟩
    · rw [hW] at hw
      generalize ((NumText.digitsVal (p.drop 7) : Nat) : Int) = v at *
      generalize as.map arD = ad at *
      simp only [fs_read, fsOf, sem_read, initE, q_nl, q_th, q_e]
      generalize S (p.take 7) = y7 at *
      generalize S (p.drop 7) = y8 at *
      generalize S thL = y1 at *
      generalize S [] = y2 at *
      generalize S [10] = y3 at *
      generalize S z = y4 at *
      generalize S a = y5 at *
      generalize S p = y6 at *
      generalize mid.map strS = mids at *
      simp [s1, i1, l1, l2, x0, xl, t7, d7, n7, nz, cm, rx, nm, hw]
    · have nx := opNe_S hx ho
      rw [hW] at hw ht ⊢
      generalize ((NumText.digitsVal (p.drop 7) : Nat) : Int) = v at *
      generalize as.map arD = ad at *
      by_cases e : x = a
      · rw [decide_eq_true e] at nx
        rw [if_pos e]
        generalize S x = y0 at *
        simp only [fs_read, fsOf, sem_read, initE, q_nl, q_th, q_e]
        generalize S (p.take 7) = y7 at *
        generalize S (p.drop 7) = y8 at *
        generalize S thL = y1 at *
        generalize S [] = y2 at *
        generalize S [10] = y3 at *
        generalize S z = y4 at *
        generalize S a = y5 at *
        generalize S p = y6 at *
        generalize mid.map strS = mids at *
        simp [s1, i1, l1, l2, x0, xl, t7, d7, n7, nz, cm, rx, nm, hw, ht, nx]
      · rw [decide_eq_false e] at nx
        rw [if_neg e]
        generalize S x = y0 at *
        simp only [fs_read, fsOf, sem_read, initE, q_nl, q_th, q_e]
        generalize S (p.take 7) = y7 at *
        generalize S (p.drop 7) = y8 at *
        generalize S thL = y1 at *
        generalize S [] = y2 at *
        generalize S [10] = y3 at *
        generalize S z = y4 at *
        generalize S a = y5 at *
        generalize S p = y6 at *
        generalize mid.map strS = mids at *
        simp [s1, i1, l1, l2, x0, xl, t7, d7, n7, nz, cm, rx, nm, hw, ht, nx]

theorem last_split {α : Type} (l : List α) (h : l ≠ []) : ∃ m z, l = m ++ [z] := ⟨l.dropLast, l.getLast h, (List.dropLast_concat_getLast h).symm⟩
theorem fs_read_cases {a : List Nat} (h : a.length ≤ 900000) (ho : okT a) : fs_read [.str (S a)] = .exc .noText ∨ ∃ n as, WebOk n as ∧ a = textL n as ∧ fs_read [.str (S a)] = .fz (webD n as) := by
  obtain ⟨k1, -, -, k3, k2⟩ := spl_all 10 a
  match hs : TL.spl [10] 0 [] a, k1 with
  | [], k1 => exact absurd rfl k1
  | [p], _ => exact .inl (read_one h hs)
  | p :: q :: r, _ =>
    obtain ⟨mid, z, e⟩ := last_split (q :: r) (by simp)
    rw [e] at hs
    have hl : mid.length ≤ 1000000 := by
      rw [hs] at k3
      simp only [List.length_cons, List.length_append] at k3
      omega
    obtain ⟨r1, r2⟩ := read_lines h ho hs
    by_cases c : p.take 7 ≠ thL ∨ z ≠ [] ∨ isNum (p.drop 7) = false ∨ arsR mid = none
    · exact .inl (r1 c)
    · have c1 : p.take 7 = thL := Classical.byContradiction fun x => c (.inl x)
      have c2 : z = [] := Classical.byContradiction fun x => c (.inr (.inl x))
      have c3 : isNum (p.drop 7) = true := by
        cases q : isNum (p.drop 7) with
        | true => rfl
        | false => exact absurd (.inr (.inr (.inl q))) c
      cases e4 : arsR mid with
      | none => exact absurd (.inr (.inr (.inr e4))) c
      | some as =>
        obtain ⟨b, hb, hb2⟩ := fs_is_web_o (some (NumText.digitsVal (p.drop 7) : Nat)) (as.map oAr) (by rw [List.length_map, arsR_len e4]; omega)
        obtain ⟨g1, g2⟩ := r2 as c1 c2 c3 e4
        cases b with
        | false => exact .inl (g1 hb)
        | true =>
          obtain ⟨N, bs, hw, _, _, hW⟩ := hb2 rfl
          have g := g2 (textL N bs) hb (by rw [hW]; exact fs_text_of_ok hw) (okT_text N bs)
          by_cases e5 : textL N bs = a
          · rw [if_pos e5, hW] at g
            exact .inr ⟨N, bs, hw, e5.symm, g⟩
          · rw [if_neg e5] at g
            exact .inl g
theorem join_end (c : Nat) (p : List Nat) : ∀ qs : List (List Nat), TL.joinL [c] (p :: (qs ++ [[]])) = TL.joinL [c] (p :: qs) ++ [c]
  | [] => by
    show p ++ ([c] ++ []) = p ++ [c]
    rw [List.append_nil]
  | q :: qs => by
    have ih := join_end c q qs
    show p ++ ([c] ++ TL.joinL [c] (q :: (qs ++ [[]]))) = (p ++ ([c] ++ TL.joinL [c] (q :: qs))) ++ [c]
    rw [ih]
    simp
theorem free_ar {c : Nat} (hc : c = 10) (x : Ar) : c ∉ arL x := fun h => by
  subst hc
  unfold arL at h
  simp only [List.mem_append, List.mem_cons] at h
  have := @numL_sign
  rcases h with h | h | h | h | h
  · exact this (.inl rfl) h
  · omega
  · exact this (.inl rfl) h
  · omega
  · exact this (.inl rfl) h
theorem spl_textL (n : Nat) (as : List Ar) : TL.spl [10] 0 [] (textL n as) = (thL ++ TL.numL n) :: (as.map arL ++ [[]]) := by
  have e : textL n as = TL.joinL [10] ((thL ++ TL.numL n) :: (as.map arL ++ [[]])) := by
    rw [join_end, join_pre, List.append_assoc]
    rfl
  rw [e]
  refine SX.spl_join (by simp) fun p hp => ?_
  rcases List.mem_cons.mp hp with rfl | hp
  · intro h
    rcases List.mem_append.mp h with h | h
    · revert h; decide
    · exact numL_sign (.inl rfl) h
  · rcases List.mem_append.mp hp with hp | hp
    · obtain ⟨x, _, rfl⟩ := List.mem_map.mp hp
      exact free_ar rfl x
    · rw [List.mem_singleton.mp hp]; simp
theorem arR_arL {x : Ar} (h : 0 ≤ x.a ∧ x.a < 100 ∧ 0 ≤ x.b ∧ x.b < 100 ∧ 0 ≤ x.c ∧ x.c < 100) : arR (arL x) = some x := by
  obtain ⟨h1, h2, h3, h4, h5, h6⟩ := h
  have e1 : arL x = TL.joinL [42] [TL.numL x.a.toNat ++ (62 :: TL.numL x.b.toNat), TL.numL x.c.toNat] := by
    unfold arL
    show _ = (TL.numL x.a.toNat ++ (62 :: TL.numL x.b.toNat)) ++ ([42] ++ TL.numL x.c.toNat)
    simp
  have s1 : TL.spl [42] 0 [] (arL x) = [TL.numL x.a.toNat ++ (62 :: TL.numL x.b.toNat), TL.numL x.c.toNat] := by
    rw [e1]
    refine SX.spl_join (by simp) fun p hp => ?_
    simp only [List.mem_cons, List.not_mem_nil, or_false] at hp
    rcases hp with rfl | rfl
    · intro h
      simp only [List.mem_append, List.mem_cons] at h
      rcases h with h | h | h
      · exact numL_sign (.inr (.inl rfl)) h
      · omega
      · exact numL_sign (.inr (.inl rfl)) h
    · exact numL_sign (.inr (.inl rfl))
  have s2 : TL.spl [62] 0 [] (TL.numL x.a.toNat ++ (62 :: TL.numL x.b.toNat)) = [TL.numL x.a.toNat, TL.numL x.b.toNat] := by
    have e2 : TL.numL x.a.toNat ++ (62 :: TL.numL x.b.toNat) = TL.joinL [62] [TL.numL x.a.toNat, TL.numL x.b.toNat] := rfl
    rw [e2]
    refine SX.spl_join (by simp) fun p hp => ?_
    simp only [List.mem_cons, List.not_mem_nil, or_false] at hp
    rcases hp with rfl | rfl <;> exact numL_sign (.inr (.inr rfl))
  have n1 := numL_isNum (n := x.a.toNat) (by omega)
  have n2 := numL_isNum (n := x.b.toNat) (by omega)
  have n3 := numL_isNum (n := x.c.toNat) (by omega)
  unfold arR
  rw [s1]
  dsimp only
  rw [s2]
  dsimp only
  rw [n1, n2, n3, if_pos (show (true && true && true) = true from rfl), TL.numL_val, TL.numL_val, TL.numL_val]
  congr 1
  obtain ⟨a, b, c⟩ := x
  congr 1 <;> first | exact Int.toNat_of_nonneg h1 | exact Int.toNat_of_nonneg h3 | exact Int.toNat_of_nonneg h5
theorem arsR_arL : ∀ {as : List Ar}, (∀ x ∈ as, 0 ≤ x.a ∧ x.a < 100 ∧ 0 ≤ x.b ∧ x.b < 100 ∧ 0 ≤ x.c ∧ x.c < 100) → arsR (as.map arL) = some as
  | [], _ => rfl
  | x :: as, h => by
    have h1 := arR_arL (h x List.mem_cons_self)
    have h2 := arsR_arL (as := as) fun y hy => h y (List.mem_cons_of_mem _ hy)
    rw [List.map_cons]
    unfold arsR
    rw [h1, h2]
theorem ok100 {n : Nat} {as : List Ar} (h : WebOk n as) : ∀ x ∈ as, 0 ≤ x.a ∧ x.a < 100 ∧ 0 ≤ x.b ∧ x.b < 100 ∧ 0 ≤ x.c ∧ x.c < 100 := fun x hx => by
  have := h.ar x hx
  have := h.n7
  omega
theorem owD_web (n : Nat) (as : List Ar) : owD (some (n : Int)) (as.map oAr) = webD n as := by
  unfold owD webD
  rw [List.map_map]; rfl
theorem fs_read_ok {n : Nat} {as : List Ar} (h : WebOk n as) : fs_read [.str (S (textL n as))] = .fz (webD n as) := by
  have h1 := textL_len h
  have h2 := h.len
  have h7 := h.n7
  have e1 : (thL ++ TL.numL n).take 7 = thL := rfl
  have e2 : (thL ++ TL.numL n).drop 7 = TL.numL n := rfl
  obtain ⟨-, r2⟩ := read_lines (by omega) (okT_text n as) (spl_textL n as)
  have g := (r2 as e1 rfl (by rw [e2]; exact numL_isNum (by omega)) (arsR_arL (ok100 h))).2 (textL n as)
  rw [e2, TL.numL_val, owD_web] at g
  have g := g (fs_is_web_ok h) (fs_text_of_ok h) (okT_text n as)
  rw [if_pos rfl] at g
  exact g

/-! the law's reading -/
def nO (w : List Nat) : Option Int := (numO w).map fun n : Nat => (n : Int)
theorem toPys_strs : ∀ ls : List (List Nat), toPys (ls.map strS) = some (ls.map fun l => PyData.str (S l))
  | [] => rfl
  | l :: ls => by
    have ih := toPys_strs ls
    rw [List.map_cons]
    unfold toPys
    rw [ih]; rfl
theorem shaped_nums : SeqAt.shaped (.list (((List.range 100).map TL.numL).map fun l => PyData.str (S l))) = true := by decide +kernel
theorem any_num (w : List Nat) : ((((List.range 100).map TL.numL).map fun l => PyData.str (S l)).any fun z => PyData.eqv z (.str (S w))) = (numO w).isSome := by
  rw [List.any_map, List.any_map, Bool.eq_iff_iff]
  unfold numO
  rw [List.find?_isSome, List.any_eq_true]
  constructor
  · rintro ⟨k, hk, h⟩
    refine ⟨k, hk, ?_⟩
    have h : PyData.eqv (.str (S (TL.numL k))) (.str (S w)) = true := h
    simp only [PyData.eqv, SX.S_beq_eq] at h
    exact h
  · rintro ⟨k, hk, h⟩
    refine ⟨k, hk, ?_⟩
    show PyData.eqv (.str (S (TL.numL k))) (.str (S w)) = true
    simp only [PyData.eqv, SX.S_beq_eq]
    exact h
theorem notIn_nums {w : List Nat} (ho : okT w) : opNotIn (.str (S w)) (.lst (((List.range 100).map TL.numL).map strS)) = some (.bl (!(numO w).isSome)) := by
  have e1 := toPys_strs ((List.range 100).map TL.numL)
  have e3 : SeqAt.shaped (.str (S w)) = true := by
    simp only [SeqAt.shaped, PyData.canLay0, PyData.depth, strOk_S ho]
    rfl
  have e4 : dLook (.lst (((List.range 100).map TL.numL).map strS)) (.str (S w)) = none := rfl
  have e5 := any_num w
  have e2 := shaped_nums
  have e6 : toPy (.str (S w)) = some (.str (S w)) := rfl
  unfold opNotIn inD
  rw [e4]
  dsimp only [lstOf]
  rw [e1, e6]
  dsimp only
  rw [e2, e3, e5]
  rfl
theorem intT_num {w : List Nat} (hn : isNum w = true) : fIntT [.str (S w)] = .fz (.int (NumText.digitsVal w : Nat)) := by
  have e := dig_val hn
  have hl : (S w).length ≤ 640 := by
    rw [SX.S_len]
    unfold isNum at hn
    simp only [Bool.and_eq_true, decide_eq_true_eq] at hn
    omega
  simp only [fIntT, e, if_pos hl]
theorem fs_L_number_eq {w : List Nat} (ho : okT w) : fs_L_number [.str (S w)] = .fz (oD (nO w)) := by
  have h1 : runComp (bN 1) tTrue ce_L_number_1 [1] (nats 100) [.fz (.str (S w)), .un] = some (((List.range 100).map TL.numL).map strS, [.fz (.str (S w)), .un]) := by
    unfold nats
    rw [runComp_map (enc := fun i : Nat => D.int (i : Int)) (F := fun k => some (strS (TL.numL k)))]
    · rw [List.filterMap_eq_map', List.map_map]; rfl
    · intro k hk
      rw [List.mem_range] at hk
      have h2 : fStrI [.int (k : Nat)] = .fz (.str (S (TL.numL k))) := strI (i := (k : Nat)) ⟨by omega, by omega⟩
      refine ⟨_, rfl, .inr ⟨rfl, strS (TL.numL k), [.fz (.str (S w)), .fz (.int (k : Nat))], ?_, rfl, rfl⟩⟩
      simp [ce_L_number_1, h2, strS]
  have h2 := notIn_nums ho
  have h3 : SmallI 100 := smallI_of (by decide) (by decide)
  have h4 : (100 : Int).toNat = 100 := rfl
  unfold nO
  cases q : numO w with
  | none =>
    rw [q] at h2
    simp only [fs_L_number, fsOf, sem_L_number, initE]
    generalize ((List.range 100).map TL.numL).map strS = L at *
    generalize S w = x at *
    simp [h3, h4, h1, h2, oD]
  | some k =>
    rw [q] at h2
    obtain ⟨e, hk⟩ := numO_some q
    have h5 := intT_num (numL_isNum hk)
    rw [← e] at h5
    rw [show NumText.digitsVal w = k by rw [e, TL.numL_val]] at h5
    simp only [fs_L_number, fsOf, sem_L_number, initE]
    generalize ((List.range 100).map TL.numL).map strS = L at *
    generalize S w = x at *
    simp [h3, h4, h1, h2, h5, oD]
def lineO (l : List Nat) : Option Tr := if 0 < findL 62 l ∧ findL 62 l < findL 42 l then
    some ⟨nO (l.take (findL 62 l).toNat), nO ((l.take (findL 42 l).toNat).drop ((findL 62 l).toNat + 1)), nO (l.drop ((findL 42 l).toNat + 1))⟩
  else none
def linesO : List (List Nat) → Option (List Tr)
  | [] => some []
  | l :: r => match lineO l, linesO r with
    | some x, some t => some (x :: t)
    | _, _ => none
theorem bd_due {l : List Nat} (h : l.length ≤ 1000000) (ho : okT l) (T LS : D) (acc : List D) (ha : acc.length < 1000000) (y4 y5 y6 : Pv.Slot) :
    (lineO l = none → ∃ ρ, bd_L_due_1 [.fz T, .fz LS, .ow (.li acc), .fz (strS l), y4, y5, y6] = .ret (.fz .non) ρ) ∧
    ∀ t, lineO l = some t → ∃ z4 z5, bd_L_due_1 [.fz T, .fz LS, .ow (.li acc), .fz (strS l), y4, y5, y6] = .nx [.fz T, .fz LS, .ow (.li (acc ++ [trD t])), .fz (strS l), z4, z5, y6] := by
  have f1 : opFind (S l) (.str (S [62])) = some (.int (findL 62 l)) := by
    show some (D.int (Txt.find (S l) (S [62]))) = _
    rw [find_one]
  have f2 : opFind (S l) (.str (S [42])) = some (.int (findL 42 l)) := by
    show some (D.int (Txt.find (S l) (S [42]))) = _
    rw [find_one]
  unfold strS
  refine ⟨fun hn => ?_, fun t ht => ?_⟩
  · have hc : ¬ (0 < findL 62 l ∧ findL 62 l < findL 42 l) := fun hc => by
      unfold lineO at hn
      rw [if_pos hc] at hn
      cases hn
    simp only [bd_L_due_1, q_gt, q_st]
    generalize findL 62 l = f at *
    generalize findL 42 l = g at *
    generalize S l = x at *
    generalize S [62] = x1 at *
    generalize S [42] = x2 at *
    by_cases c1 : 0 < f
    · have c2 : ¬ f < g := fun c2 => hc ⟨c1, c2⟩
      exact ⟨_, by simp [f1, f2, c1, c2]; rfl⟩
    · exact ⟨_, by simp [f1, f2, c1]; rfl⟩
  · unfold lineO at ht
    by_cases hc : 0 < findL 62 l ∧ findL 62 l < findL 42 l
    · rw [if_pos hc] at ht
      obtain ⟨c1, c2⟩ := hc
      obtain ⟨i, hi⟩ : ∃ i : Nat, findL 62 l = (i : Int) := ⟨(findL 62 l).toNat, by omega⟩
      obtain ⟨j, hj⟩ : ∃ j : Nat, findL 42 l = (j : Int) := ⟨(findL 42 l).toNat, by omega⟩
      rw [hi, hj, Int.toNat_natCast, Int.toNat_natCast] at ht
      rw [hi] at f1 c1 c2
      rw [hj] at f2 c2
      have s1 := sl_to h i
      have s2 : opSlS (.str (S l)) (some ((i : Int) + 1)) (some (j : Int)) = _ := sl_mid h (i + 1) j
      have s3 : opSlS (.str (S l)) (some ((j : Int) + 1)) none = _ := sl_from h (j + 1)
      have n1 := fs_L_number_eq (okT_take ho i)
      have n2 := fs_L_number_eq (okT_drop (okT_take ho j) (i + 1))
      have n3 := fs_L_number_eq (okT_drop ho (j + 1))
      cases ht
      refine ⟨.fz (.int (i : Nat)), .fz (.int (j : Nat)), ?_⟩
      have mu : muAppend (.li acc) [.tup [oD (nO (l.take i)), oD (nO ((l.take j).drop (i + 1))), oD (nO (l.drop (j + 1)))]] = some (.non, .li (acc ++ [.tup [oD (nO (l.take i)), oD (nO ((l.take j).drop (i + 1))), oD (nO (l.drop (j + 1)))]])) := by
        unfold muAppend
        dsimp only
        rw [if_pos (by unfold big; omega)]
      show _ = Fl.nx [.fz T, .fz LS, .ow (.li (acc ++ [.tup [oD (nO (l.take i)), oD (nO ((l.take j).drop (i + 1))), oD (nO (l.drop (j + 1)))]])), .fz (.str (S l)), .fz (.int (i : Nat)), .fz (.int (j : Nat)), y6]
      generalize oD (nO (l.take i)) = d1 at *
      generalize oD (nO ((l.take j).drop (i + 1))) = d2 at *
      generalize oD (nO (l.drop (j + 1))) = d3 at *
      simp only [bd_L_due_1, q_gt, q_st]
      generalize S (l.take i) = x3 at *
      generalize S ((l.take j).drop (i + 1)) = x4 at *
      generalize S (l.drop (j + 1)) = x5 at *
      generalize S l = x at *
      generalize S [62] = x1 at *
      generalize S [42] = x2 at *
      generalize (i : Int) = I at *
      generalize (j : Int) = J at *
      simp [f1, f2, c1, c2, s1, s2, s3, n1, n2, n3, mu]
    · rw [if_neg hc] at ht
      cases ht
theorem due_loop (T LS : D) (y6 : Pv.Slot) : ∀ (ls : List (List Nat)) (acc : List D) (y3 y4 y5 : Pv.Slot), (∀ l ∈ ls, l.length ≤ 1000000 ∧ okT l) → acc.length + ls.length < 1000000 →
    (linesO ls = none → ∃ ρ, runFor (bN 3) bd_L_due_1 (ls.map strS) [.fz T, .fz LS, .ow (.li acc), y3, y4, y5, y6] = .ret (.fz .non) ρ) ∧
    ∀ ts, linesO ls = some ts → ∃ z3 z4 z5, runFor (bN 3) bd_L_due_1 (ls.map strS) [.fz T, .fz LS, .ow (.li acc), y3, y4, y5, y6] = .nx [.fz T, .fz LS, .ow (.li (acc ++ ts.map trD)), z3, z4, z5, y6]
  | [], acc, y3, y4, y5, _, _ => by
    refine ⟨(fun h => nomatch h), fun ts h => ?_⟩
    cases h
    refine ⟨y3, y4, y5, ?_⟩
    have e : acc ++ ([] : List Tr).map trD = acc := List.append_nil acc
    rw [e]
    rfl
  | l :: r, acc, y3, y4, y5, h, ha => by
    have hl := h l List.mem_cons_self
    rw [List.length_cons] at ha
    obtain ⟨b1, b2⟩ := bd_due hl.1 hl.2 T LS acc (by omega) y4 y5 y6
    have step : runFor (bN 3) bd_L_due_1 ((l :: r).map strS) [.fz T, .fz LS, .ow (.li acc), y3, y4, y5, y6] = (match bd_L_due_1 [.fz T, .fz LS, .ow (.li acc), .fz (strS l), y4, y5, y6] with
      | .nx ρ2 => runFor (bN 3) bd_L_due_1 (r.map strS) ρ2
      | .ct ρ2 => runFor (bN 3) bd_L_due_1 (r.map strS) ρ2
      | .bk ρ2 => .nx ρ2
      | r => r) := rfl
    rw [step]
    cases q : lineO l with
    | none =>
      obtain ⟨ρ, e⟩ := b1 q
      rw [e]
      refine ⟨fun _ => ⟨ρ, rfl⟩, fun ts hts => ?_⟩
      unfold linesO at hts
      rw [q] at hts
      cases hts
    | some t =>
      obtain ⟨z4, z5, e⟩ := b2 t q
      rw [e]
      obtain ⟨r1, r2⟩ := due_loop T LS y6 r (acc ++ [trD t]) (.fz (strS l)) z4 z5 (fun z hz => h z (List.mem_cons_of_mem _ hz)) (by rw [List.length_append]; show acc.length + 1 + _ < _; omega)
      refine ⟨fun hn => ?_, fun ts hts => ?_⟩
      · refine r1 ?_
        unfold linesO at hn
        rw [q] at hn
        cases q2 : linesO r with
        | none => rfl
        | some u => rw [q2] at hn; cases hn
      · unfold linesO at hts
        rw [q] at hts
        cases q2 : linesO r with
        | none => rw [q2] at hts; cases hts
        | some u =>
          rw [q2] at hts
          cases hts
          obtain ⟨z3, w4, w5, g⟩ := r2 u q2
          refine ⟨z3, w4, w5, ?_⟩
          have : acc ++ (t :: u).map trD = acc ++ [trD t] ++ u.map trD := by simp
          rw [this]
          exact g

theorem sl_last {a : List Nat} (h : a.length ≤ 1000000) : opSlS (.str (S a)) (some (-1)) none = some (.str (S (a.drop (a.length - 1)))) := by
  show (if (S a).length ≤ big then some (D.str (cutS (S a) (some (-1)) none)) else none) = _
  rw [SX.S_len, if_pos (by unfold big; omega), C8.cutS_slice]
  by_cases e : a = []
  · subst e
    rfl
  · rw [SX.slice_last e]
theorem sl_body {a b : List Nat} (e : a = thL ++ (b ++ [10])) (h : a.length ≤ 1000000) : opSlS (.str (S a)) (some 7) (some (-1)) = some (.str (S b)) := by
  show (if (S a).length ≤ big then some (D.str (cutS (S a) (some 7) (some (-1)))) else none) = _
  rw [SX.S_len, if_pos (by unfold big; omega)]
  congr 2
  show S ((a.drop (HT.sIx (S a).length 0 (some 7))).take (HT.sIx (S a).length (S a).length (some (-1)) - HT.sIx (S a).length 0 (some 7))) = _
  have hl : (S a).length = b.length + 8 := by
    rw [SX.S_len, e]
    simp only [List.length_append, List.length_cons, List.length_nil]
    show 7 + _ = _
    omega
  rw [hl]
  have e1 : HT.sIx (b.length + 8) 0 (some 7) = 7 := by
    refine (HT.sIx_nat (b.length + 8) 0 7).trans ?_
    omega
  have e2 : HT.sIx (b.length + 8) (b.length + 8) (some (-1)) = b.length + 7 := by
    show (if (-1 : Int) < 0 then ((-1 : Int) + ((b.length + 8 : Nat) : Int)).toNat else min (-1 : Int).toNat (b.length + 8)) = _
    rw [if_pos (by decide)]
    omega
  rw [e1, e2, e]
  congr 1
  show (b ++ [10]).take (b.length + 7 - 7) = b
  rw [Nat.add_sub_cancel]
  exact List.take_left
theorem cut_tail {p : List Nat} {rest : List (List Nat)} {ls : List D} (e : ls = (p :: rest).map strS) : opSl false (.lst ls) (some 1) none = some (.lst (rest.map strS)) := by
  subst e
  show some (D.lst (Pv.cutD ((p :: rest).map strS) (some 1) none)) = _
  congr 2
  have hl : ((p :: rest).map strS).length = rest.length + 1 := by simp
  unfold Pv.cutD
  rw [hl]
  have e1 : HT.sIx (rest.length + 1) 0 (some 1) = 1 := by
    refine (HT.sIx_nat (rest.length + 1) 0 1).trans ?_
    omega
  have e2 : HT.sIx (rest.length + 1) (rest.length + 1) none = rest.length + 1 := rfl
  rw [e1, e2]
  show (rest.map strS).take (rest.length + 1 - 1) = _
  exact List.take_of_length_le (by rw [List.length_map]; omega)
theorem due_form {a : List Nat} (h1 : a.drop (a.length - 1) = [10]) (h2 : a.take 7 = thL) : ∃ b, a = thL ++ (b ++ [10]) := by
  have e1 : a = thL ++ a.drop 7 := by
    rw [← h2]
    exact (List.take_append_drop 7 a).symm
  by_cases e2 : a.drop 7 = []
  · rw [e2, List.append_nil] at e1
    rw [e1] at h1
    exact absurd h1 (by decide)
  · obtain ⟨m, z, e3⟩ := last_split (a.drop 7) e2
    rw [e3] at e1
    have e4 : a = (thL ++ m) ++ [z] := by rw [e1, List.append_assoc]
    have e5 : a.drop (a.length - 1) = [z] := by
      rw [e4]
      simp
    rw [e5] at h1
    cases h1
    exact ⟨m, e1⟩
theorem fs_checked_no {d : D} (h : fs_is_web [d] = .fz (.bl false)) : fs_checked [d] = .exc .noWeb := by simp [fs_checked, fsOf, sem_checked, initE, h]
theorem fs_checked_yes {d : D} (h : fs_is_web [d] = .fz (.bl true)) : fs_checked [d] = .fz d := by simp [fs_checked, fsOf, sem_checked, initE, h]
theorem due_head {a : List Nat} (h : a.length ≤ 900000) (ho : okT a) (hn : ¬ ∃ b, a = thL ++ (b ++ [10])) : fs_L_due [.str (S a)] = .fz .non := by
  have i1 := isi_str (S a)
  have s1 := sl_last (a := a) (by omega)
  have s2 : opSlS (.str (S a)) none (some 7) = _ := sl_to (a := a) (by omega) 7
  have n1 := opNe_S (okT_drop ho (a.length - 1)) (y := [10]) (okT_small (by decide))
  have n2 := opNe_S (okT_take ho 7) okT_th
  by_cases e1 : a.drop (a.length - 1) = [10]
  · rw [decide_eq_true e1] at n1
    have e2 : ¬ a.take 7 = thL := fun e2 => hn (due_form e1 e2)
    rw [decide_eq_false e2] at n2
    simp only [fs_L_due, fsOf, sem_L_due, initE, q_nl, q_th]
    generalize S (a.drop (a.length - 1)) = x1 at *
    generalize S (a.take 7) = x2 at *
    generalize S a = x3 at *
    generalize S thL = x4 at *
    generalize S [10] = x5 at *
    simp [i1, s1, s2, n1, n2]
  · rw [decide_eq_false e1] at n1
    simp only [fs_L_due, fsOf, sem_L_due, initE, q_nl, q_th]
    generalize S (a.drop (a.length - 1)) = x1 at *
    generalize S (a.take 7) = x2 at *
    generalize S a = x3 at *
    generalize S thL = x4 at *
    generalize S [10] = x5 at *
    simp [i1, s1, s2, n1, n2]
theorem due_body {a b p : List Nat} {rest : List (List Nat)} (e : a = thL ++ (b ++ [10])) (h : a.length ≤ 900000) (ho : okT a) (hs : TL.spl [10] 0 [] b = p :: rest) :
    (linesO rest = none → fs_L_due [.str (S a)] = .fz .non) ∧
    ∀ ts, linesO rest = some ts → (fs_is_web [owD (nO p) ts] = .fz (.bl false) → fs_L_due [.str (S a)] = .fz .non) ∧ (fs_is_web [owD (nO p) ts] = .fz (.bl true) → fs_L_due [.str (S a)] = .fz (owD (nO p) ts)) := by
  have hb : b.length ≤ 900000 := by
    rw [e] at h
    simp only [List.length_append] at h
    omega
  have hob : okT b := fun c hc => ho c (by rw [e]; simp [hc])
  have i1 := isi_str (S a)
  have s1 := sl_last (a := a) (by omega)
  have s2 : opSlS (.str (S a)) none (some 7) = _ := sl_to (a := a) (by omega) 7
  have s3 := sl_body e (by omega)
  have e1 : a.drop (a.length - 1) = [10] := by
    rw [e, ← List.append_assoc]
    simp
  have e2 : a.take 7 = thL := by rw [e]; rfl
  have n1 := opNe_S (okT_drop ho (a.length - 1)) (y := [10]) (okT_small (by decide))
  have n2 := opNe_S (okT_take ho 7) okT_th
  rw [decide_eq_true e1] at n1
  rw [decide_eq_true e2] at n2
  have s4 := split_at (c := 10) (by decide) (l := b) (by omega)
  obtain ⟨-, -, -, k3, k2⟩ := spl_all 10 b
  rw [hs] at s4 k2 k3
  obtain ⟨ls, hls⟩ : ∃ ls, ls = (p :: rest).map strS := ⟨_, rfl⟩
  rw [← hls] at s4
  have s5 := cut_tail hls
  have x0 : opIx (.lst ls) (.int 0) = some (strS p) := by rw [hls]; exact y_at0
  have np := fs_L_number_eq (w := p) fun c hc => hob c ((k2 p List.mem_cons_self).2 c hc)
  have np : fs_L_number [strS p] = .fz (oD (nO p)) := np
  rw [List.length_cons] at k3
  obtain ⟨d1, d2⟩ := due_loop (.str (S a)) (.lst ls) .un rest [] .un .un .un (fun l hl => by
    have := k2 l (List.mem_cons_of_mem _ hl)
    exact ⟨by omega, fun c hc => hob c (this.2 c hc)⟩) (by show 0 + _ < _; omega)
  clear hls k2
  refine ⟨fun hn => ?_, fun ts hts => ?_⟩
  · obtain ⟨ρ, d1⟩ := d1 hn
    simp only [fs_L_due, fsOf, sem_L_due, initE, q_nl, q_th]
    generalize S (a.drop (a.length - 1)) = x1 at *
    generalize S (a.take 7) = x2 at *
    generalize S a = x3 at *
    generalize S thL = x4 at *
    generalize S [10] = x5 at *
    generalize S b = x6 at *
    generalize rest.map strS = rs at *
    simp [i1, s1, s2, n1, n2, s3, s4, s5, d1]
  · obtain ⟨z3, z4, z5, d2⟩ := d2 ts hts
    rw [List.nil_append] at d2
    have hW : owD (nO p) ts = .tup [oD (nO p), .ktup (ts.map trD)] := rfl
    obtain ⟨E, hE⟩ : ∃ E : Envi, E = [.fz (.str (S a)), .fz (.lst ls), .ow (.li (ts.map trD)), z3, z4, z5, .fz (owD (nO p) ts)] := ⟨_, rfl⟩
    refine ⟨fun hw => ?_, fun hw => ?_⟩
    · have hc := fs_checked_no hw
      have t1 : sTryO cl_L_due_0 (sDrop (eCall fs_checked (aCons (eVar 6) aNil))) su_L_due_0 E = .ret (.fz .non) E := by
        have t0 : sDrop (eCall fs_checked (aCons (eVar 6) aNil)) E = .exc .noWeb E := by
          rw [hE]
          generalize owD (nO p) ts = W at *
          simp [hc]
        unfold sTryO
        rw [t0]
        rfl
      rw [hE, hW] at t1
      simp only [fs_L_due, fsOf, sem_L_due, initE, q_nl, q_th]
      clear hc hw hW
      generalize S (a.drop (a.length - 1)) = x1 at *
      generalize S (a.take 7) = x2 at *
      generalize S a = x3 at *
      generalize S thL = x4 at *
      generalize S [10] = x5 at *
      generalize S b = x6 at *
      generalize rest.map strS = rs at *
      generalize ts.map trD = td at *
      generalize oD (nO p) = pd at *
      simp [i1, s1, s2, n1, n2, s3, s4, s5, d2, x0, np, t1]
    · have hc := fs_checked_yes hw
      have t1 : sTryO cl_L_due_0 (sDrop (eCall fs_checked (aCons (eVar 6) aNil))) su_L_due_0 E = .nx E := by
        have t0 : sDrop (eCall fs_checked (aCons (eVar 6) aNil)) E = .nx E := by
          rw [hE]
          generalize owD (nO p) ts = W at *
          simp [hc]
        unfold sTryO
        rw [t0]
      rw [hE, hW] at t1
      rw [hW]
      simp only [fs_L_due, fsOf, sem_L_due, initE, q_nl, q_th]
      clear hc hw hW
      generalize S (a.drop (a.length - 1)) = x1 at *
      generalize S (a.take 7) = x2 at *
      generalize S a = x3 at *
      generalize S thL = x4 at *
      generalize S [10] = x5 at *
      generalize S b = x6 at *
      generalize rest.map strS = rs at *
      generalize ts.map trD = td at *
      generalize oD (nO p) = pd at *
      simp [i1, s1, s2, n1, n2, s3, s4, s5, d2, x0, np, t1]
/-! what it finds is the text of the web -/
theorem nO_some {w : List Nat} {i : Int} (h : nO w = some i) : w = TL.numL i.toNat := by
  unfold nO at h
  obtain ⟨n, h1, rfl⟩ := Option.map_eq_some_iff.mp h
  rw [Int.toNat_natCast]
  exact (numO_some h1).1
theorem lineO_ar {l : List Nat} {x : Ar} (h : lineO l = some (oAr x)) : l = arL x := by
  unfold lineO at h
  by_cases hc : 0 < findL 62 l ∧ findL 62 l < findL 42 l
  · rw [if_pos hc] at h
    obtain ⟨c1, c2⟩ := hc
    have m1 : 62 ∈ l := Classical.byContradiction fun hm => by
      unfold findL at c1
      rw [if_neg hm] at c1
      omega
    have m2 : 42 ∈ l := Classical.byContradiction fun hm => by
      have : findL 42 l = -1 := by unfold findL; rw [if_neg hm]
      omega
    have i1 : findL 62 l = (l.idxOf 62 : Nat) := by unfold findL; rw [if_pos m1]
    have i2 : findL 42 l = (l.idxOf 42 : Nat) := by unfold findL; rw [if_pos m2]
    rw [i1, i2, Int.toNat_natCast, Int.toNat_natCast] at h
    have hc := cut_line m1 rfl m2 rfl (by omega)
    have h0 := Option.some.inj h
    have g1 := congrArg Tr.a h0
    have g2 := congrArg Tr.b h0
    have g3 := congrArg Tr.c h0
    have g1 := nO_some g1
    have g2 := nO_some g2
    have g3 := nO_some g3
    rw [g1, g2, g3] at hc
    exact hc
  · rw [if_neg hc] at h
    cases h
theorem linesO_ar : ∀ {ls : List (List Nat)} {as : List Ar}, linesO ls = some (as.map oAr) → ls = as.map arL
  | [], as, h => by
    cases as with
    | nil => rfl
    | cons x as => cases h
  | l :: r, as, h => by
    unfold linesO at h
    cases q : lineO l with
    | none => rw [q] at h; cases h
    | some t =>
      cases q2 : linesO r with
      | none => rw [q, q2] at h; cases h
      | some ts =>
        rw [q, q2] at h
        have h := Option.some.inj h
        cases as with
        | nil => cases h
        | cons x as =>
          rw [List.map_cons] at h
          obtain ⟨h1, h2⟩ := List.cons.inj h
          rw [h1] at q
          rw [h2] at q2
          rw [List.map_cons, lineO_ar q, linesO_ar q2]
theorem nO_num {n : Nat} (h : n < 100) : nO (TL.numL n) = some (n : Int) := by
  unfold nO
  rw [numO_num h]; rfl
theorem nO_int {i : Int} (h : 0 ≤ i ∧ i < 100) : nO (TL.numL i.toNat) = some i := by
  rw [nO_num (by omega)]
  congr 1
  omega
theorem lineO_arL {x : Ar} (h : 0 ≤ x.a ∧ x.a < 100 ∧ 0 ≤ x.b ∧ x.b < 100 ∧ 0 ≤ x.c ∧ x.c < 100) : lineO (arL x) = some (oAr x) := by
  obtain ⟨h1, h2, h3, h4, h5, h6⟩ := h
  have ha : 62 ∉ TL.numL x.a.toNat := numL_sign (.inr (.inr rfl))
  have hb : 42 ∉ TL.numL x.a.toNat ++ (62 :: TL.numL x.b.toNat) := fun h => by
    simp only [List.mem_append, List.mem_cons] at h
    rcases h with h | h | h
    · exact numL_sign (.inr (.inl rfl)) h
    · omega
    · exact numL_sign (.inr (.inl rfl)) h
  have e1 : arL x = TL.numL x.a.toNat ++ (62 :: (TL.numL x.b.toNat ++ (42 :: TL.numL x.c.toNat))) := rfl
  have e2 : arL x = (TL.numL x.a.toNat ++ (62 :: TL.numL x.b.toNat)) ++ (42 :: TL.numL x.c.toNat) := by rw [e1]; simp
  have p1 : 0 < (TL.numL x.a.toNat).length := List.length_pos_iff.mpr (TL.numL_ne _)
  have i1 : findL 62 (arL x) = ((TL.numL x.a.toNat).length : Nat) := by
    unfold findL
    rw [if_pos (by rw [e1]; simp), e1, idx_app ha]
  have i2 : findL 42 (arL x) = ((TL.numL x.a.toNat ++ (62 :: TL.numL x.b.toNat)).length : Nat) := by
    unfold findL
    rw [if_pos (by rw [e2]; simp), e2, idx_app hb]
  unfold lineO
  rw [i1, i2, if_pos ⟨by omega, by simp only [List.length_append, List.length_cons]; omega⟩, Int.toNat_natCast, Int.toNat_natCast]
  have t1 : (arL x).take (TL.numL x.a.toNat).length = TL.numL x.a.toNat := by rw [e1]; exact List.take_left
  have t2 : (arL x).take (TL.numL x.a.toNat ++ (62 :: TL.numL x.b.toNat)).length = TL.numL x.a.toNat ++ (62 :: TL.numL x.b.toNat) := by rw [e2]; exact List.take_left
  have t3 : (TL.numL x.a.toNat ++ (62 :: TL.numL x.b.toNat)).drop ((TL.numL x.a.toNat).length + 1) = TL.numL x.b.toNat := by
    rw [← List.drop_drop, List.drop_left]; rfl
  have t4 : (arL x).drop ((TL.numL x.a.toNat ++ (62 :: TL.numL x.b.toNat)).length + 1) = TL.numL x.c.toNat := by
    rw [e2, ← List.drop_drop, List.drop_left]; rfl
  rw [t1, t2, t3, t4, nO_int ⟨h1, h2⟩, nO_int ⟨h3, h4⟩, nO_int ⟨h5, h6⟩]
  rfl
theorem linesO_arL : ∀ {as : List Ar}, (∀ x ∈ as, 0 ≤ x.a ∧ x.a < 100 ∧ 0 ≤ x.b ∧ x.b < 100 ∧ 0 ≤ x.c ∧ x.c < 100) → linesO (as.map arL) = some (as.map oAr)
  | [], _ => rfl
  | x :: as, h => by
    have h1 := lineO_arL (h x List.mem_cons_self)
    have h2 := linesO_arL (as := as) fun y hy => h y (List.mem_cons_of_mem _ hy)
    rw [List.map_cons]
    unfold linesO
    rw [h1, h2]; rfl
theorem spl_body (n : Nat) (as : List Ar) : TL.spl [10] 0 [] (TL.joinL [10] (TL.numL n :: as.map arL)) = TL.numL n :: as.map arL := by
  refine SX.spl_join (by simp) fun p hp => ?_
  rcases List.mem_cons.mp hp with rfl | hp
  · exact numL_sign (.inl rfl)
  · obtain ⟨x, _, rfl⟩ := List.mem_map.mp hp
    exact free_ar rfl x
theorem fs_L_due_ok {n : Nat} {as : List Ar} (h : WebOk n as) : fs_L_due [.str (S (textL n as))] = .fz (webD n as) := by
  have h1 := textL_len h
  have h2 := h.len
  have h7 := h.n7
  have g := ((due_body (a := textL n as) rfl (by omega) (okT_text n as) (spl_body n as)).2 (as.map oAr) (linesO_arL (ok100 h))).2
  rw [nO_num (by omega), owD_web] at g
  exact g (fs_is_web_ok h)
theorem linesO_len : ∀ {ls : List (List Nat)} {ts : List Tr}, linesO ls = some ts → ts.length = ls.length
  | [], ts, h => by cases h; rfl
  | l :: r, ts, h => by
    unfold linesO at h
    split at h
    · rename_i x t _ q
      cases h
      rw [List.length_cons, List.length_cons, linesO_len q]
    · cases h
theorem fs_L_due_cases {a : List Nat} (h : a.length ≤ 900000) (ho : okT a) : fs_L_due [.str (S a)] = .fz .non ∨ ∃ n as, WebOk n as ∧ a = textL n as := by
  by_cases hf : ∃ b, a = thL ++ (b ++ [10])
  · obtain ⟨b, e⟩ := hf
    obtain ⟨k1, k4, -, k3, -⟩ := spl_all 10 b
    match hs : TL.spl [10] 0 [] b, k1 with
    | [], k1 => exact absurd rfl k1
    | p :: rest, _ =>
      obtain ⟨d1, d2⟩ := due_body e h ho hs
      cases q : linesO rest with
      | none => exact .inl (d1 q)
      | some ts =>
        obtain ⟨d3, d4⟩ := d2 ts q
        have hl : ts.length ≤ 2000000 := by
          rw [linesO_len q]
          rw [hs, List.length_cons] at k3
          have : b.length ≤ a.length := by rw [e]; simp only [List.length_append]; omega
          omega
        obtain ⟨bb, g1, g2⟩ := fs_is_web_o (nO p) ts hl
        cases bb with
        | false => exact .inl (d3 g1)
        | true =>
          obtain ⟨N, as, hw, e1, e2, _⟩ := g2 rfl
          rw [e2] at q
          have r1 := linesO_ar q
          have r2 := nO_some e1
          rw [Int.toNat_natCast] at r2
          refine .inr ⟨N, as, hw, ?_⟩
          rw [e]
          unfold textL
          rw [← k4, hs, r1, r2]
  · exact .inl (due_head h ho hf)
/-- read and the law's reading answer alike -/
theorem alike {a : List Nat} (h : a.length ≤ 900000) (ho : okT a) : (∃ n as, WebOk n as ∧ fs_read [.str (S a)] = .fz (webD n as) ∧ fs_L_due [.str (S a)] = .fz (webD n as)) ∨ (fs_read [.str (S a)] = .exc .noText ∧ fs_L_due [.str (S a)] = .fz .non) := by
  rcases fs_read_cases h ho with h1 | ⟨n, as, hw, e, h1⟩
  · rcases fs_L_due_cases h ho with h2 | ⟨n, as, hw, e⟩
    · exact .inr ⟨h1, h2⟩
    · subst e
      exact .inl ⟨n, as, hw, fs_read_ok hw, fs_L_due_ok hw⟩
  · subst e
    exact .inl ⟨n, as, hw, h1, fs_L_due_ok hw⟩

/-! the text spoilt -/
open SX (S)
def cL (x : String) : List Nat := x.toList.map Char.toNat
theorem of_S (x : String) : Str.ofString x = S (cL x) := Str.ofString_eq_toList x
def Good (d : D) : Prop := (∃ b, d = .str (S b) ∧ okT b ∧ b.length ≤ 900000) ∨ (fs_read [d] = .exc .noText ∧ fs_L_due [d] = .fz .non)
theorem good_str {b : List Nat} (h : okT b) (hl : b.length ≤ 900000) : Good (.str (S b)) := .inl ⟨b, rfl, h, hl⟩
theorem good_no {d : D} (h : fIsi [d, .ty "str"] = .fz (.bl false)) : Good d := by
  refine .inr ⟨?_, ?_⟩
  · simp [fs_read, fsOf, sem_read, initE, h]
  · simp [fs_L_due, fsOf, sem_L_due, initE, h]
def signsL : List Nat := cL " >*\nthings0123456789-A"
theorem q_sg : Str.ofString " >*\nthings0123456789-A" = S signsL := of_S _
theorem q_c1 : Str.ofString " " = S (cL " ") := of_S _
theorem q_c0 : Str.ofString "" = S (cL "") := of_S _
theorem signs_small : ∀ c ∈ signsL, c < 128 := by decide +kernel
theorem signs_len : signsL.length = 22 := by decide +kernel
theorem sign_ix {k : Nat} (hk : k < 22) : ∃ c, c < 128 ∧ opIx (.str (S signsL)) (.int (k : Int)) = some (.str (S [c])) := by
  have hl := signs_len
  have hk2 : k < signsL.length := by omega
  refine ⟨signsL[k], signs_small _ (List.getElem_mem hk2), ?_⟩
  show (if (S signsL).length ≤ big then (atI (S signsL).cps.toList (k : Int)).map fun c => D.str ⟨#[c]⟩ else none) = _
  rw [SX.S_len, if_pos (by unfold big; omega)]
  show (atI signsL (k : Int)).map _ = _
  rw [atI_nat (j := k) (List.getElem?_eq_getElem hk2)]
  rfl
theorem addL {xs ys : List D} (h : xs.length + ys.length ≤ 1000) : opAdd (.lst xs) (.lst ys) = some (.lst (xs ++ ys)) := by
  show (if xs.length + ys.length ≤ big then some (D.lst (xs ++ ys)) else none) = _
  rw [if_pos (by unfold big; omega)]
theorem mod_nat {x y : Nat} (h : 0 < y) : opMod (.int (x : Int)) (.int (y : Int)) = some (.int ((x % y : Nat) : Int)) := by
  rw [y_mod, if_pos (by omega)]
  congr 2
theorem div_nat {x y : Nat} (h : 0 < y) (hs : (y : Int).natAbs.log2 < 9000) : opDiv (.int (x : Int)) (.int (y : Int)) = some (.int ((x / y : Nat) : Int)) := by
  rw [y_div, if_pos ⟨by omega, hs⟩]
  congr 2
theorem spoilt_ok {a : List Nat} {more : List (List Nat)} (ha : a.length ≤ 100000) (ho : okT a) (cell : Nat) (hm : ∀ l ∈ more, l.length ≤ 100 ∧ okT l) (hml : more.length ≤ 100) :
    ∃ d, fs_L_spoilt 20 [.str (S a), .int (cell : Int), .lst (more.map strS)] = .fz d ∧ Good d := by
  have step : fs_L_spoilt 20 [.str (S a), .int (cell : Int), .lst (more.map strS)] = fsOf 6 (sem_L_spoilt (fs_L_spoilt 19)) [.str (S a), .int (cell : Int), .lst (more.map strS)] := rfl
  rw [step]
  have l1 := len_S (l := a) (by omega)
  have m1 : opMod (.int (cell : Int)) (.int ((a.length : Int) + 1)) = some (.int ((cell % (a.length + 1) : Nat) : Int)) := mod_nat (x := cell) (y := a.length + 1) (by omega)
  have v1 : opDiv (.int (cell : Int)) (.int 1000) = _ := div_nat (x := cell) (y := 1000) (by decide) (by decide)
  have m2 : opMod (.int ((cell / 1000 : Nat) : Int)) (.int 22) = _ := mod_nat (x := cell / 1000) (y := 22) (by decide)
  have v2 : opDiv (.int (cell : Int)) (.int 40000) = _ := div_nat (x := cell) (y := 40000) (by decide) (by decide)
  have m3 : opMod (.int ((cell / 40000 : Nat) : Int)) (.int 6) = _ := mod_nat (x := cell / 40000) (y := 6) (by decide)
  have v3 : opDiv (.int (cell : Int)) (.int 7) = _ := div_nat (x := cell) (y := 7) (by decide) (by decide)
  have m4 : opMod (.int ((cell / 7 : Nat) : Int)) (.int 9) = _ := mod_nat (x := cell / 7) (y := 9) (by decide)
  have m5 : opMod (.int (cell : Int)) (.int 4) = _ := mod_nat (x := cell) (y := 4) (by decide)
  have m6 : opMod (.int (cell : Int)) (.int ((more.length : Int) + 4)) = some (.int ((cell % (more.length + 4) : Nat) : Int)) := mod_nat (x := cell) (y := more.length + 4) (by omega)
  have b3 : cell / 40000 % 6 < 6 := Nat.mod_lt _ (by decide)
  have b5 : cell % 4 < 4 := Nat.mod_lt _ (by decide)
  have b6 : cell % (more.length + 4) < more.length + 4 := Nat.mod_lt _ (by omega)
  obtain ⟨c, hc, g1⟩ := sign_ix (k := cell / 1000 % 22) (Nat.mod_lt _ (by decide))
  have s1 := sl_to (a := a) (by omega) (cell % (a.length + 1))
  have s2 := sl_from (a := a) (by omega) (cell % (a.length + 1))
  have s3 : opSlS (.str (S a)) (some (((cell % (a.length + 1) : Nat) : Int) + 1)) none = _ := sl_from (a := a) (by omega) (cell % (a.length + 1) + 1)
  have s4 : opSlS (.str (S a)) (some (((cell % (a.length + 1) : Nat) : Int) + ((cell / 7 % 9 : Nat) : Int))) none = some (.str (S (a.drop (cell % (a.length + 1) + cell / 7 % 9)))) := by
    have := sl_from (a := a) (by omega) (cell % (a.length + 1) + cell / 7 % 9)
    rw [Int.natCast_add] at this
    exact this
  generalize cell % (a.length + 1) = at_ at *
  generalize cell / 1000 % 22 = k2 at *
  generalize cell / 40000 % 6 = w at *
  generalize cell / 7 % 9 = k4 at *
  generalize cell % 4 = k5 at *
  generalize cell % (more.length + 4) = k6 at *
  generalize cell / 1000 = q1 at *
  generalize cell / 40000 = q2 at *
  generalize cell / 7 = q3 at *
  have lt := List.length_take_le at_ a
  have lt2 := List.length_take_le' at_ a
  have ld : ∀ i, (a.drop i).length ≤ a.length := fun i => by rw [List.length_drop]; omega
  have oc : okT [c] := fun x hx => by rw [List.mem_singleton.mp hx]; omega
  have o1 := okT_take ho at_
  have hW : sem_L_spoilt (fs_L_spoilt 19) = sem_L_spoilt (fs_L_spoilt 19) := rfl
  have u1 := addS (a := a.take at_) (b := [c]) (by simp only [List.length_cons, List.length_nil]; omega)
  rcases (by omega : w = 0 ∨ w = 1 ∨ w = 2 ∨ w = 3 ∨ w = 4 ∨ w = 5) with rfl | rfl | rfl | rfl | rfl | rfl
  · have u2 := addS (a := a.take at_ ++ [c]) (b := a.drop at_) (by have := ld at_; simp only [List.length_append, List.length_cons, List.length_nil]; omega)
    refine ⟨_, ?_, good_str (b := a.take at_ ++ [c] ++ a.drop at_) (okT_app (okT_app o1 oc) (okT_drop ho at_)) (by have := ld at_; simp only [List.length_append, List.length_cons, List.length_nil]; omega)⟩
    have m3 : opMod (.int (q2 : Int)) (.int 6) = some (.int 0) := m3
    simp only [fsOf, sem_L_spoilt, initE, q_sg, q_c1, q_c0]
    generalize S (a.take at_ ++ [c] ++ a.drop at_) = y1 at *
    generalize S (a.take at_ ++ [c] ++ a.drop (at_ + 1)) = y2 at *
    generalize S (a.take at_ ++ a.drop (at_ + 1)) = y3 at *
    generalize S (a.take at_ ++ a.drop (at_ + k4)) = y4 at *
    generalize S (a.take at_ ++ [c]) = y5 at *
    generalize S (a.take at_) = y6 at *
    generalize S (a.drop at_) = y7 at *
    generalize S (a.drop (at_ + 1)) = y8 at *
    generalize S (a.drop (at_ + k4)) = y9 at *
    generalize S [c] = y10 at *
    generalize S a = y11 at *
    generalize S signsL = y12 at *
    generalize (at_ : Int) = i1 at *
    generalize (k2 : Int) = i2 at *
    generalize (k4 : Int) = i4 at *
    generalize (k5 : Int) = i5 at *
    generalize (k6 : Int) = i6 at *
    generalize (q1 : Int) = i7 at *
    generalize (q2 : Int) = i8 at *
    generalize (q3 : Int) = i9 at *
    generalize (cell : Int) = i10 at *
    generalize (a.length : Int) = i11 at *
    generalize (more.length : Int) = i12 at *
    simp [-y_mod, -y_div, l1, m1, v1, m2, v2, m3, v3, m4, m5, m6, g1, s1, s2, s3, s4, u1, u2]
  · have u2 := addS (a := a.take at_) (b := a.drop (at_ + 1)) (by have := ld (at_ + 1); omega)
    refine ⟨_, ?_, good_str (b := a.take at_ ++ a.drop (at_ + 1)) (okT_app o1 (okT_drop ho (at_ + 1))) (by have := ld (at_ + 1); simp only [List.length_append]; omega)⟩
    have m3 : opMod (.int (q2 : Int)) (.int 6) = some (.int 1) := m3
    simp only [fsOf, sem_L_spoilt, initE, q_sg, q_c1, q_c0]
    generalize S (a.take at_ ++ [c] ++ a.drop at_) = y1 at *
    generalize S (a.take at_ ++ [c] ++ a.drop (at_ + 1)) = y2 at *
    generalize S (a.take at_ ++ a.drop (at_ + 1)) = y3 at *
    generalize S (a.take at_ ++ a.drop (at_ + k4)) = y4 at *
    generalize S (a.take at_ ++ [c]) = y5 at *
    generalize S (a.take at_) = y6 at *
    generalize S (a.drop at_) = y7 at *
    generalize S (a.drop (at_ + 1)) = y8 at *
    generalize S (a.drop (at_ + k4)) = y9 at *
    generalize S [c] = y10 at *
    generalize S a = y11 at *
    generalize S signsL = y12 at *
    generalize (at_ : Int) = i1 at *
    generalize (k2 : Int) = i2 at *
    generalize (k4 : Int) = i4 at *
    generalize (k5 : Int) = i5 at *
    generalize (k6 : Int) = i6 at *
    generalize (q1 : Int) = i7 at *
    generalize (q2 : Int) = i8 at *
    generalize (q3 : Int) = i9 at *
    generalize (cell : Int) = i10 at *
    generalize (a.length : Int) = i11 at *
    generalize (more.length : Int) = i12 at *
    simp [-y_mod, -y_div, l1, m1, v1, m2, v2, m3, v3, m4, m5, m6, g1, s1, s2, s3, s4, u1, u2]
  · have u2 := addS (a := a.take at_ ++ [c]) (b := a.drop (at_ + 1)) (by have := ld (at_ + 1); simp only [List.length_append, List.length_cons, List.length_nil]; omega)
    refine ⟨_, ?_, good_str (b := a.take at_ ++ [c] ++ a.drop (at_ + 1)) (okT_app (okT_app o1 oc) (okT_drop ho (at_ + 1))) (by have := ld (at_ + 1); simp only [List.length_append, List.length_cons, List.length_nil]; omega)⟩
    have m3 : opMod (.int (q2 : Int)) (.int 6) = some (.int 2) := m3
    simp only [fsOf, sem_L_spoilt, initE, q_sg, q_c1, q_c0]
    generalize S (a.take at_ ++ [c] ++ a.drop at_) = y1 at *
    generalize S (a.take at_ ++ [c] ++ a.drop (at_ + 1)) = y2 at *
    generalize S (a.take at_ ++ a.drop (at_ + 1)) = y3 at *
    generalize S (a.take at_ ++ a.drop (at_ + k4)) = y4 at *
    generalize S (a.take at_ ++ [c]) = y5 at *
    generalize S (a.take at_) = y6 at *
    generalize S (a.drop at_) = y7 at *
    generalize S (a.drop (at_ + 1)) = y8 at *
    generalize S (a.drop (at_ + k4)) = y9 at *
    generalize S [c] = y10 at *
    generalize S a = y11 at *
    generalize S signsL = y12 at *
    generalize (at_ : Int) = i1 at *
    generalize (k2 : Int) = i2 at *
    generalize (k4 : Int) = i4 at *
    generalize (k5 : Int) = i5 at *
    generalize (k6 : Int) = i6 at *
    generalize (q1 : Int) = i7 at *
    generalize (q2 : Int) = i8 at *
    generalize (q3 : Int) = i9 at *
    generalize (cell : Int) = i10 at *
    generalize (a.length : Int) = i11 at *
    generalize (more.length : Int) = i12 at *
    simp [-y_mod, -y_div, l1, m1, v1, m2, v2, m3, v3, m4, m5, m6, g1, s1, s2, s3, s4, u1, u2]
  · have u2 := addS (a := a.take at_) (b := a.drop (at_ + k4)) (by have := ld (at_ + k4); omega)
    refine ⟨_, ?_, good_str (b := a.take at_ ++ a.drop (at_ + k4)) (okT_app o1 (okT_drop ho (at_ + k4))) (by have := ld (at_ + k4); simp only [List.length_append]; omega)⟩
    have m3 : opMod (.int (q2 : Int)) (.int 6) = some (.int 3) := m3
    simp only [fsOf, sem_L_spoilt, initE, q_sg, q_c1, q_c0]
    generalize S (a.take at_ ++ [c] ++ a.drop at_) = y1 at *
    generalize S (a.take at_ ++ [c] ++ a.drop (at_ + 1)) = y2 at *
    generalize S (a.take at_ ++ a.drop (at_ + 1)) = y3 at *
    generalize S (a.take at_ ++ a.drop (at_ + k4)) = y4 at *
    generalize S (a.take at_ ++ [c]) = y5 at *
    generalize S (a.take at_) = y6 at *
    generalize S (a.drop at_) = y7 at *
    generalize S (a.drop (at_ + 1)) = y8 at *
    generalize S (a.drop (at_ + k4)) = y9 at *
    generalize S [c] = y10 at *
    generalize S a = y11 at *
    generalize S signsL = y12 at *
    generalize (at_ : Int) = i1 at *
    generalize (k2 : Int) = i2 at *
    generalize (k4 : Int) = i4 at *
    generalize (k5 : Int) = i5 at *
    generalize (k6 : Int) = i6 at *
    generalize (q1 : Int) = i7 at *
    generalize (q2 : Int) = i8 at *
    generalize (q3 : Int) = i9 at *
    generalize (cell : Int) = i10 at *
    generalize (a.length : Int) = i11 at *
    generalize (more.length : Int) = i12 at *
    simp [-y_mod, -y_div, l1, m1, v1, m2, v2, m3, v3, m4, m5, m6, g1, s1, s2, s3, s4, u1, u2]
  · have m3 : opMod (.int (q2 : Int)) (.int 6) = some (.int 4) := m3
    have u2 := addS (a := a) (b := a) (by omega)
    have u3 := addS (a := a.drop at_) (b := a.take at_) (by have := ld at_; omega)
    have u4 := addS (a := cL " ") (b := a) (by have : (cL " ").length = 1 := rfl; omega)
    have u5 := addS (a := a) (b := cL " ") (by have : (cL " ").length = 1 := rfl; omega)
    have osp : okT (cL " ") := okT_small (by decide)
    have lsp : (cL " ").length = 1 := rfl
    obtain ⟨d, hd, hg⟩ : ∃ d, atI [D.str (S (a ++ a)), .str (S (a.drop at_ ++ a.take at_)), .str (S (cL " " ++ a)), .str (S (a ++ cL " "))] (k5 : Int) = some d ∧ Good d := by
      rcases (by omega : k5 = 0 ∨ k5 = 1 ∨ k5 = 2 ∨ k5 = 3) with rfl | rfl | rfl | rfl
      · exact ⟨_, y_at0, good_str (okT_app ho ho) (by rw [List.length_append]; omega)⟩
      · exact ⟨_, y_at1, good_str (okT_app (okT_drop ho at_) o1) (by have := ld at_; rw [List.length_append]; omega)⟩
      · exact ⟨_, y_at2, good_str (okT_app osp ho) (by rw [List.length_append]; omega)⟩
      · exact ⟨_, y_at3, good_str (okT_app ho osp) (by rw [List.length_append]; omega)⟩
    refine ⟨d, ?_, hg⟩
    simp only [fsOf, sem_L_spoilt, initE, q_sg, q_c1, q_c0]
    generalize S (cL " " ++ a) = x8 at *
    generalize S (a ++ cL " ") = x9 at *
    generalize S (a ++ a) = x10 at *
    generalize S (a.drop at_ ++ a.take at_) = x11 at *
    generalize S (cL " ") = x12 at *
    generalize S (a.take at_ ++ [c] ++ a.drop at_) = y1 at *
    generalize S (a.take at_ ++ [c] ++ a.drop (at_ + 1)) = y2 at *
    generalize S (a.take at_ ++ a.drop (at_ + 1)) = y3 at *
    generalize S (a.take at_ ++ a.drop (at_ + k4)) = y4 at *
    generalize S (a.take at_ ++ [c]) = y5 at *
    generalize S (a.take at_) = y6 at *
    generalize S (a.drop at_) = y7 at *
    generalize S (a.drop (at_ + 1)) = y8 at *
    generalize S (a.drop (at_ + k4)) = y9 at *
    generalize S [c] = y10 at *
    generalize S a = y11 at *
    generalize S signsL = y12 at *
    generalize (at_ : Int) = i1 at *
    generalize (k2 : Int) = i2 at *
    generalize (k4 : Int) = i4 at *
    generalize (k5 : Int) = i5 at *
    generalize (k6 : Int) = i6 at *
    generalize (q1 : Int) = i7 at *
    generalize (q2 : Int) = i8 at *
    generalize (q3 : Int) = i9 at *
    generalize (cell : Int) = i10 at *
    generalize (a.length : Int) = i11 at *
    generalize (more.length : Int) = i12 at *
    simp [-y_mod, -y_div, l1, m1, v1, m2, v2, m3, v3, m4, m5, m6, g1, s1, s2, s3, s4, u1, u2, u3, u4, u5, hd]
  · have m3 : opMod (.int (q2 : Int)) (.int 6) = some (.int 5) := m3
    have u2 := addL (xs := more.map strS) (ys := [.non, .int 5, .lst [.str (S a)], .str (S (cL ""))]) (by rw [List.length_map]; show _ + 4 ≤ _; omega)
    have hk6 : k6 < (more.map strS ++ [D.non, D.int 5, D.lst [D.str (S a)], D.str (S (cL ""))]).length := by rw [List.length_append, List.length_map]; exact b6
    obtain ⟨d, hd0⟩ : ∃ d, (more.map strS ++ [.non, .int 5, .lst [.str (S a)], .str (S (cL ""))])[k6]? = some d := ⟨_, List.getElem?_eq_getElem hk6⟩
    have hd := atI_nat (j := k6) hd0
    have hg := List.mem_of_getElem? hd0
    clear hd0
    have hg : Good d := by
      rcases List.mem_append.mp hg with h | h
      · obtain ⟨l, hl, rfl⟩ := List.mem_map.mp h
        obtain ⟨h1, h2⟩ := hm l hl
        exact good_str h2 (by omega)
      · simp only [List.mem_cons, List.not_mem_nil, or_false] at h
        rcases h with rfl | rfl | rfl | rfl
        · exact good_no rfl
        · exact good_no rfl
        · exact good_no rfl
        · exact good_str (okT_small (by decide)) (by decide)
    refine ⟨d, ?_, hg⟩
    have l6 : fLen [.lst (more.map strS)] = .fz (.int (more.length : Nat)) := by rw [y_len, List.length_map]
    simp only [fsOf, sem_L_spoilt, initE, q_sg, q_c1, q_c0]
    generalize S (cL "") = x8 at *
    generalize more.map strS ++ [D.non, D.int 5, D.lst [D.str (S a)], D.str x8] = x9 at *
    generalize more.map strS = x10 at *
    generalize S (a.take at_ ++ [c] ++ a.drop at_) = y1 at *
    generalize S (a.take at_ ++ [c] ++ a.drop (at_ + 1)) = y2 at *
    generalize S (a.take at_ ++ a.drop (at_ + 1)) = y3 at *
    generalize S (a.take at_ ++ a.drop (at_ + k4)) = y4 at *
    generalize S (a.take at_ ++ [c]) = y5 at *
    generalize S (a.take at_) = y6 at *
    generalize S (a.drop at_) = y7 at *
    generalize S (a.drop (at_ + 1)) = y8 at *
    generalize S (a.drop (at_ + k4)) = y9 at *
    generalize S [c] = y10 at *
    generalize S a = y11 at *
    generalize S signsL = y12 at *
    generalize (at_ : Int) = i1 at *
    generalize (k2 : Int) = i2 at *
    generalize (k4 : Int) = i4 at *
    generalize (k5 : Int) = i5 at *
    generalize (k6 : Int) = i6 at *
    generalize (q1 : Int) = i7 at *
    generalize (q2 : Int) = i8 at *
    generalize (q3 : Int) = i9 at *
    generalize (cell : Int) = i10 at *
    generalize (a.length : Int) = i11 at *
    generalize (more.length : Int) = i12 at *
    simp [-y_mod, -y_div, l1, m1, v1, m2, v2, m3, v3, m4, m5, m6, g1, s1, s2, s3, s4, u1, u2, l6, hd]

/-! the law -/
open SX (S)
theorem fs_shown_ok {n : Nat} {as : List Ar} (h : WebOk n as) : fs_shown [webD n as] = .fz (.str (S (textL n as))) := by
  have h1 := fs_checked_ok h
  have h2 := fs_text_of_ok h
  generalize webD n as = W at *
  generalize S (textL n as) = x at *
  simp [fs_shown, fsOf, sem_shown, initE, h1, h2]
def moreL : List (List Nat) := [cL "things 8\n", cL "things 02\n", cL "things 2\n0>1*05\n", cL "things 2\n0>0*1\n", cL "things 2\n1>0*1\n0>1*1\n", cL "things", cL "things 2\n0>1*100\n", cL "things 2\n0>1\n", cL "things 2\n\n", cL "things 2\n0>1*1*1\n", cL "things 2\n0*1>1\n"]
theorem more_ok : ∀ l ∈ moreL, l.length ≤ 100 ∧ okT l := by
  have h : moreL.all (fun l => decide (l.length ≤ 100) && l.all fun c => decide (c < 1114112)) = true := by decide +kernel
  intro l hl
  have := List.all_eq_true.mp h l hl
  rw [Bool.and_eq_true, decide_eq_true_eq, List.all_eq_true] at this
  exact ⟨this.1, fun c hc => of_decide_eq_true (this.2 c hc)⟩
theorem eq_non : opEq .non .non = some (.bl true) := rfl
theorem law_math (s : List Int) (_ : s.length ≤ 63) : fs_law [.klst (s.map .int)] = .fz (.bl true) := by
  obtain ⟨n, as, e1, hw, -⟩ := fs_L_web_eq s 2 5 (by decide) (by decide)
  have e1 : fs_L_web [.klst (s.map .int), .int 2, .int 5] = _ := e1
  have e2 := fs_shown_ok hw
  have e3 := fs_L_text_ok hw
  have e4 := fs_read_ok hw
  have hl := textL_len hw
  have hlen := hw.len
  have ht := okT_text n as
  have i1 := isi_str (S (textL n as))
  have n1 := opNe_S ht ht
  rw [decide_eq_true rfl] at n1
  have n2 : opNe (webD n as) (webD n as) = some (.bl false) := by
    rw [opNe_is (is_web n as) (is_web n as) (by decide), decide_eq_true rfl]
    rfl
  have pw : opPow (.int 10) (.int 7) = some (.int 10000000) := by rfl
  have e5 : fs_L_mixed [.klst (s.map .int), .int 0, .int 10000000] = _ := fs_L_mixed_eq s 0 10000000 (by decide)
  obtain ⟨d, e6, hd⟩ := spoilt_ok (a := textL n as) (more := moreL) (by omega) ht (mixed s 0 10000000) more_ok (by decide)
  have hm : moreL.map strS = [.str (Str.ofString "things 8\n"), .str (Str.ofString "things 02\n"), .str (Str.ofString "things 2\n0>1*05\n"), .str (Str.ofString "things 2\n0>0*1\n"), .str (Str.ofString "things 2\n1>0*1\n0>1*1\n"), .str (Str.ofString "things"), .str (Str.ofString "things 2\n0>1*100\n"), .str (Str.ofString "things 2\n0>1\n"), .str (Str.ofString "things 2\n\n"), .str (Str.ofString "things 2\n0>1*1*1\n"), .str (Str.ofString "things 2\n0*1>1\n")] := by
    simp only [of_S]; rfl
  rw [hm] at e6
  generalize (mixed s 0 10000000 : Int) = cell at *
  -- what reading and the law's reading tell of it
  obtain ⟨r, d1, d2, d3⟩ : ∃ r : D, (fs_read [d] = .fz r ∨ (fs_read [d] = .exc .noText ∧ r = .non)) ∧ fs_L_due [d] = .fz r ∧ opEq r r = some (.bl true) := by
    have key : (∃ n as, WebOk n as ∧ fs_read [d] = .fz (webD n as) ∧ fs_L_due [d] = .fz (webD n as)) ∨ (fs_read [d] = .exc .noText ∧ fs_L_due [d] = .fz .non) := by
      rcases hd with ⟨b, rfl, ob, lb⟩ | hd
      · exact alike lb ob
      · exact .inr hd
    rcases key with ⟨n, as, _, h1, h2⟩ | ⟨h1, h2⟩
    · refine ⟨webD n as, .inl h1, h2, ?_⟩
      rw [opEq_is (is_web n as) (is_web n as) (by decide), decide_eq_true rfl]
    · exact ⟨.non, .inr ⟨h1, rfl⟩, h2, eq_non⟩
  simp only [fs_law, fsOf, sem_law, initE]
  generalize Str.ofString "things 8\n" = c1 at *
  generalize Str.ofString "things 02\n" = c2 at *
  generalize Str.ofString "things 2\n0>1*05\n" = c3 at *
  generalize Str.ofString "things 2\n0>0*1\n" = c4 at *
  generalize Str.ofString "things 2\n1>0*1\n0>1*1\n" = c5 at *
  generalize Str.ofString "things" = c6 at *
  generalize Str.ofString "things 2\n0>1*100\n" = c7 at *
  generalize Str.ofString "things 2\n0>1\n" = c8 at *
  generalize Str.ofString "things 2\n\n" = c9 at *
  generalize Str.ofString "things 2\n0>1*1*1\n" = c10 at *
  generalize Str.ofString "things 2\n0*1>1\n" = c11 at *
  generalize S (textL n as) = x at *
  generalize hW : webD n as = W at *
  generalize s.map D.int = sc at *
  obtain ⟨ML, hML⟩ : ∃ ML : List D, ML = [.str c1, .str c2, .str c3, .str c4, .str c5, .str c6, .str c7, .str c8, .str c9, .str c10, .str c11] := ⟨_, rfl⟩
  have t1 : ∃ z5, sTry 5 cl_law_0 (sSet 4 (eCall fs_read (aCons (eVar 2) aNil))) (su_law_0 0) [.fz (.klst sc), .fz W, .fz d, .fz (.lst ML), .fz .non, .un] = .nx [.fz (.klst sc), .fz W, .fz d, .fz (.lst ML), .fz r, z5] := by
    rcases d1 with d1 | ⟨d1, rfl⟩
    · refine ⟨.un, ?_⟩
      have t0 : sSet 4 (eCall fs_read (aCons (eVar 2) aNil)) [.fz (.klst sc), .fz W, .fz d, .fz (.lst ML), .fz .non, .un] = .nx [.fz (.klst sc), .fz W, .fz d, .fz (.lst ML), .fz r, .un] := by simp [d1]
      unfold sTry
      rw [t0]
    · refine ⟨.un, ?_⟩
      have t0 : sSet 4 (eCall fs_read (aCons (eVar 2) aNil)) [.fz (.klst sc), .fz W, .fz d, .fz (.lst ML), .fz .non, .un] = .exc .noText [.fz (.klst sc), .fz W, .fz d, .fz (.lst ML), .fz .non, .un] := by simp [d1]
      unfold sTry
      rw [t0]
      rfl
  obtain ⟨z5, t1⟩ := t1
  rw [← hML] at e6
  have hML4 : [D.str c1, .str c2, .str c3, .str c4] ++ [.str c5, .str c6] ++ [.str c7, .str c8, .str c9, .str c10] ++ [.str c11] = ML := hML.symm
  have g1 : muExtend (.li [D.str c1, .str c2, .str c3, .str c4]) [.lst [.str c5, .str c6]] = some (.non, .li [D.str c1, .str c2, .str c3, .str c4, .str c5, .str c6]) := rfl
  have g2 : muExtend (.li [D.str c1, .str c2, .str c3, .str c4, .str c5, .str c6]) [.lst [.str c7, .str c8, .str c9, .str c10]] = some (.non, .li [D.str c1, .str c2, .str c3, .str c4, .str c5, .str c6, .str c7, .str c8, .str c9, .str c10]) := rfl
  have g3 : muAppend (.li [D.str c1, .str c2, .str c3, .str c4, .str c5, .str c6, .str c7, .str c8, .str c9, .str c10]) [.str c11] = some (.non, .li ML) := by rw [hML]; rfl
  clear hML hML4
  simp [-y_extend, -y_append, e1, e2, e3, e4, i1, n1, n2, pw, e5, g1, g2, g3, e6, t1, d2, d3]

end K23
set_option maxHeartbeats 0
open PySem PySem.W PyProof.Rows
theorem PySem.Challenge.cw_fewturned_k23_texts_holds : PySem.Challenge.rw_fewturned_k23_texts.Holds := by
  w_on; o_law; k_head; (case hw => w_witness2)
  k_fill
  refine L2.walk_of (l := PySem.Challenge.rw_fewturned_k23_texts) (n := 63) (k := 22) (x := "_law_script") (CX := fun _ => L2.CX0) (sp := fun w => K23.spL _) rfl (by decide) rfl ⟨rfl, by decide, by decide⟩ (fun w h Y => PySem.W.kIn_of Y) ?F (fun _ H a ns hl _ hS => ⟨H, [.klst (ns.map .int)], fun _ _ e => e, .cons (.klst hS (by rw [List.length_map]; exact Nat.le_trans hl (by decide)) (Pv.Reps.ints ns)) .nil, rfl, K23.law_math ns hl, fun _ => rfl⟩) (fun _ _ _ _ _ h => h)
  case F =>
    intro w mg fa h KX G hmg
    refine' K23.all_mk KX G hmg ?a0 ?l0 ?c0 ?k0 ?a1 ?l1 ?c1 ?k1 ?a2 ?l2 ?c2 ?k2 ?a3 ?l3 ?c3 ?k3 ?a4 ?l4 ?c4 ?k4 ?a5 ?l5 ?c5 ?k5 ?a6 ?l6 ?c6 ?k6 ?a7 ?l7 ?c7 ?k7 ?a8 ?l8 ?c8 ?k8 ?a9 ?l9 ?c9 ?k9 ?a10 ?l10 ?c10 ?k10 ?a11 ?l11 ?c11 ?k11 ?a12 ?l12 ?c12 ?k12 ?a13 ?l13 ?c13 ?k13 ?a14 ?l14 ?c14 ?k14 ?a15 ?l15 ?c15 ?k15 ?a16 ?l16 ?c16 ?k16 ?a17 ?l17 ?c17 ?k17 ?gTurnError ?kTurnError ?qTurnError ?eTurnError ?tTurnError ?gNoWeb ?kNoWeb ?qNoWeb ?eNoWeb ?tNoWeb ?gNoText ?kNoText ?qNoText ?eNoText ?tNoText ?hgNoText ?hkNoText ?hdNoText ?haNoText ?hnNoText ?htNoText ?hmNoText ?kxNoTextNoWeb ?kxNoTextTurnError ?kxNoTextValueError ?xmNoTextNoText ?xmNoWebNoWeb ?zValueError ?zall ?zbool ?zint ?zisinstance ?zlen ?zrange ?zstr ?ztuple ?vTHINGS ?vWEIGHT
    (case a0 => k_is); (case l0 => k_is); (case c0 => k_is); (case k0 => k_is); (case a1 => k_is); (case l1 => k_is)
    (case c1 => k_is); (case k1 => k_is); (case a2 => k_is); (case l2 => k_is); (case c2 => k_is); (case k2 => k_is)
    (case a3 => k_is); (case l3 => k_is); (case c3 => k_is); (case k3 => k_is); (case a4 => k_is); (case l4 => k_is)
    (case c4 => k_is); (case k4 => k_is); (case a5 => k_is); (case l5 => k_is); (case c5 => k_is); (case k5 => k_is)
    (case a6 => k_is); (case l6 => k_is); (case c6 => k_is); (case k6 => k_is); (case a7 => k_is); (case l7 => k_is)
    (case c7 => k_is); (case k7 => k_is); (case a8 => k_is); (case l8 => k_is); (case c8 => k_is); (case k8 => k_is)
    (case a9 => k_is); (case l9 => k_is); (case c9 => k_is); (case k9 => k_is); (case a10 => k_is); (case l10 => k_is)
    (case c10 => k_is); (case k10 => k_is); (case a11 => k_is); (case l11 => k_is); (case c11 => k_is); (case k11 => k_is)
    (case a12 => k_is); (case l12 => k_is); (case c12 => k_is); (case k12 => k_is); (case a13 => k_is); (case l13 => k_is)
    (case c13 => k_is); (case k13 => k_is); (case a14 => k_is); (case l14 => k_is); (case c14 => k_is); (case k14 => k_is)
    (case a15 => k_is); (case l15 => k_is); (case c15 => k_is); (case k15 => k_is); (case a16 => k_is); (case l16 => k_is)
    (case c16 => k_is); (case k16 => k_is); (case a17 => k_is); (case l17 => k_is); (case c17 => k_is); (case k17 => k_is)
    (case gTurnError => k_is); (case kTurnError => k_is); (case qTurnError => k_exc); (case eTurnError => k_is); (case tTurnError => k_is); (case gNoWeb => k_is)
    (case kNoWeb => k_is); (case qNoWeb => k_exc); (case eNoWeb => k_is); (case tNoWeb => k_is); (case gNoText => k_is); (case kNoText => k_is)
    (case qNoText => k_exc); (case eNoText => k_is); (case tNoText => k_is); (case hgNoText => k_is); (case hkNoText => k_is); (case hdNoText => k_is)
    (case haNoText => k_is); (case hnNoText => k_is); (case htNoText => k_is); (case hmNoText => k_is); (case kxNoTextNoWeb => first | rfl | k_is); (case kxNoTextTurnError => first | rfl | k_is)
    (case kxNoTextValueError => first | rfl | k_is); (case xmNoTextNoText => first | rfl | k_is); (case xmNoWebNoWeb => first | rfl | k_is); (case zValueError => k_is); (case zall => k_is); (case zbool => k_is)
    (case zint => k_is); (case zisinstance => k_is); (case zlen => k_is); (case zrange => k_is); (case zstr => k_is); (case ztuple => k_is)
    (case vTHINGS => k_is); (case vWEIGHT => k_is)

