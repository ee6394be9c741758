import PyProof.Rows.All
import Wide.All
import OpenK.AllK
import Wide.FinOn
import HandS.ForMost
import HandS.Exc
import HandS.ExcOwn
import HandS.WordsExc
import HandS.TryOnly
import HandS.Zip
import HandS.Strs
import HandS.Deep
import HandS.TupAny
import HandS.IsInst
import HandS.SetFor
import HandS.Wide
import HandS.SortInts
import HandS.Conv
import KE.SortData
import KE.KDictPairs
import KE.GoesMore
import KE.DataMinMax
import HandS.More
import HandS.ExcIs
import KE.DatumOrd
import KE.DatumMore
import KE.DatumMoreOrd
import HandS.Style
import KE.KRevSl
import PySem.Challenge.RW_fewturned_k17_whole_kept
set_option Elab.async false
set_option linter.all false
set_option maxRecDepth 100000
namespace Pv
open PySem PySem.Spec PyProof.Rows L2
/-! the data that values stand for -/
inductive D where
  | non | bl (b : Bool) | int (i : Int) | str (x : Str)
  | tup (l : List D) | ktup (l : List D) | lst (l : List D) | klst (l : List D)
  | dk (ks : List Key) (l : List D) | dt (ks : List (List Key)) (l : List D)
  | adr (a : Addr) | ty (n : String)

/-- a tuple of which the whole object is known: it is no dict's key here, but its methods may be called -/
def KTup (K : PySem.W.Frag) (F : Hp) (a : Addr) (vs : List V) : Prop :=
  (∃ o, F a = some (.frz o (.tup vs)) ∧ o.dict = none) ∨
    ∃ (o : Obj) (its : Array Value) (n : Nat), K.lookup a = some o ∧ o.cls = .type "tuple" ∧ o.dict = none ∧ o.data = .seq its n ∧ its.size ≤ sizeLine ∧ Vals vs its.toList
theorem KTup.mono {K : PySem.W.Frag} {F F' : Hp} {a : Addr} {vs : List V} (e : Same F F') (h : KTup K F a vs) : KTup K F' a vs := by
  rcases h with ⟨o, h, d⟩ | h
  · exact .inl ⟨o, e _ _ h, d⟩
  · exact .inr h
theorem KTup.sqt {K : PySem.W.Frag} {F : Hp} {a : Addr} {vs : List V} (h : KTup K F a vs) : SqT K F a vs := by
  rcases h with ⟨o, h, d⟩ | ⟨o, its, n, h1, h2, h3, h4, h5, h6⟩
  · exact .inl (.inr ⟨o, h⟩)
  · exact .inr ⟨o, its, n, h1, h2, h4, h5, h6⟩
mutual
inductive Rep (K : PySem.W.Frag) (F : Hp) : V → D → Prop
  | non : Rep K F .non .non
  | bl (b : Bool) : Rep K F (.bl b) (.bl b)
  | int (i : Int) : Rep K F (.int i) (.int i)
  | str (x : Str) : Rep K F (.str x) (.str x)
  | tup {a : Addr} {vs : List V} {ds : List D} : F a = some (.tup vs) → vs.length ≤ sizeLine → Reps K F vs ds → Rep K F (.ref a) (.tup ds)
  | ktup {a : Addr} {vs : List V} {ds : List D} : KTup K F a vs → vs.length ≤ sizeLine → Reps K F vs ds → Rep K F (.ref a) (.ktup ds)
  | lst {a : Addr} {vs : List V} {ds : List D} : F a = some (.lst vs) → vs.length ≤ sizeLine → Reps K F vs ds → Rep K F (.ref a) (.lst ds)
  | klst {a : Addr} {vs : List V} {ds : List D} : SqL K F a vs → vs.length ≤ sizeLine → Reps K F vs ds → Rep K F (.ref a) (.klst ds)
  | dk {a : Addr} {kvs : List (Key × V)} {ds : List D} : Rd F a (.dK kvs) → kvs.length ≤ sizeLine → Reps K F (kvs.map (·.2)) ds → Rep K F (.ref a) (.dk (kvs.map (·.1)) ds)
  | dt {a : Addr} {kvs : List (List Key × V)} {ds : List D} : Rd F a (.dT kvs) → kvs.length ≤ sizeLine → Reps K F (kvs.map (·.2)) ds → Rep K F (.ref a) (.dt (kvs.map (·.1)) ds)
  | adr (a : Addr) : Rep K F (.ref a) (.adr a)
  | ty (n : String) : Rep K F (.ty n) (.ty n)
inductive Reps (K : PySem.W.Frag) (F : Hp) : List V → List D → Prop
  | nil : Reps K F [] []
  | cons {v : V} {vs : List V} {d : D} {ds : List D} : Rep K F v d → Reps K F vs ds → Reps K F (v :: vs) (d :: ds)
end

theorem same_rd {H H' : Hp} {a : Addr} {u : HO} (e : Same H H') (h : Rd H a u) : Rd H' a u := by
  rcases h with h | ⟨o, h⟩
  · exact .inl (e _ _ h)
  · exact .inr ⟨o, e _ _ h⟩
theorem same_sqt {K : PySem.W.Frag} {H H' : Hp} {a : Addr} {xs : List V} (e : Same H H') (h : SqT K H a xs) : SqT K H' a xs := by
  rcases h with h | h
  · exact .inl (same_rd e h)
  · exact .inr h
theorem same_sql {K : PySem.W.Frag} {H H' : Hp} {a : Addr} {xs : List V} (e : Same H H') (h : SqL K H a xs) : SqL K H' a xs := by
  rcases h with h | h
  · exact .inl (same_rd e h)
  · exact .inr h
theorem same_nil (H : Hp) : Same (fun _ => none) H := fun _ _ h => nomatch h

mutual
theorem Rep.mono {K : PySem.W.Frag} {F F' : Hp} (e : Same F F') : ∀ {v : V} {d : D}, Rep K F v d → Rep K F' v d
  | _, _, .non => .non
  | _, _, .bl _ => .bl _
  | _, _, .int _ => .int _
  | _, _, .str _ => .str _
  | _, _, .tup a b c => .tup (e _ _ a) b (Reps.mono e c)
  | _, _, .ktup a b c => .ktup (a.mono e) b (Reps.mono e c)
  | _, _, .lst a b c => .lst (e _ _ a) b (Reps.mono e c)
  | _, _, .klst a b c => .klst (same_sql e a) b (Reps.mono e c)
  | _, _, .dk a b c => .dk (same_rd e a) b (Reps.mono e c)
  | _, _, .dt a b c => .dt (same_rd e a) b (Reps.mono e c)
  | _, _, .adr _ => .adr _
  | _, _, .ty _ => .ty _
theorem Reps.mono {K : PySem.W.Frag} {F F' : Hp} (e : Same F F') : ∀ {vs : List V} {ds : List D}, Reps K F vs ds → Reps K F' vs ds
  | _, _, .nil => .nil
  | _, _, .cons a b => .cons (Rep.mono e a) (Reps.mono e b)
end
theorem Reps.length {K : PySem.W.Frag} {F : Hp} : ∀ {vs : List V} {ds : List D}, Reps K F vs ds → vs.length = ds.length
  | _, _, .nil => rfl
  | _, _, .cons _ b => congrArg (· + 1) (Reps.length b)
theorem Reps.append {K : PySem.W.Frag} {F : Hp} : ∀ {vs ws : List V} {ds es : List D}, Reps K F vs ds → Reps K F ws es → Reps K F (vs ++ ws) (ds ++ es)
  | _, _, _, _, .nil, h => h
  | _, _, _, _, .cons a b, h => .cons a (Reps.append b h)
theorem Reps.get {K : PySem.W.Frag} {F : Hp} : ∀ {vs : List V} {ds : List D} {i : Nat} {d : D}, Reps K F vs ds → ds[i]? = some d → ∃ v, vs[i]? = some v ∧ Rep K F v d
  | _, _, _, _, .nil, h => by simp at h
  | _, _, 0, _, .cons a b, h => by simp at h; subst h; exact ⟨_, rfl, a⟩
  | _, _, i + 1, d, .cons a b, h => by
    obtain ⟨v, h1, h2⟩ := Reps.get (i := i) (d := d) b (by simpa using h)
    exact ⟨v, by simpa using h1, h2⟩
theorem Reps.getV {K : PySem.W.Frag} {F : Hp} : ∀ {vs : List V} {ds : List D} {i : Nat} {v : V}, Reps K F vs ds → vs[i]? = some v → ∃ d, ds[i]? = some d ∧ Rep K F v d
  | _, _, _, _, .nil, h => by simp at h
  | _, _, 0, _, .cons a b, h => by simp at h; subst h; exact ⟨_, rfl, a⟩
  | _, _, i + 1, d, .cons a b, h => by
    obtain ⟨v, h1, h2⟩ := Reps.getV (i := i) (v := d) b (by simpa using h)
    exact ⟨v, by simpa using h1, h2⟩
theorem Reps.take {K : PySem.W.Frag} {F : Hp} : ∀ {vs : List V} {ds : List D} (n : Nat), Reps K F vs ds → Reps K F (vs.take n) (ds.take n)
  | _, _, 0, _ => .nil
  | _, _, _ + 1, .nil => .nil
  | _, _, n + 1, .cons a b => .cons a (Reps.take n b)
theorem Reps.drop {K : PySem.W.Frag} {F : Hp} : ∀ {vs : List V} {ds : List D} (n : Nat), Reps K F vs ds → Reps K F (vs.drop n) (ds.drop n)
  | _, _, 0, h => h
  | _, _, _ + 1, .nil => .nil
  | _, _, n + 1, .cons _ b => Reps.drop n b
theorem Reps.set {K : PySem.W.Frag} {F : Hp} {v : V} {d : D} (r : Rep K F v d) : ∀ {vs : List V} {ds : List D} (i : Nat), Reps K F vs ds → Reps K F (vs.set i v) (ds.set i d)
  | _, _, _, .nil => .nil
  | _, _, 0, .cons _ b => .cons r b
  | _, _, i + 1, .cons a b => .cons a (Reps.set r i b)
theorem Reps.eraseIdx {K : PySem.W.Frag} {F : Hp} : ∀ {vs : List V} {ds : List D} (i : Nat), Reps K F vs ds → Reps K F (vs.eraseIdx i) (ds.eraseIdx i)
  | _, _, _, .nil => .nil
  | _, _, 0, .cons _ b => b
  | _, _, i + 1, .cons a b => .cons a (Reps.eraseIdx i b)
theorem Reps.dropLast {K : PySem.W.Frag} {F : Hp} {vs : List V} {ds : List D} (h : Reps K F vs ds) : Reps K F vs.dropLast ds.dropLast := by
  rw [List.dropLast_eq_take, List.dropLast_eq_take, h.length]
  exact h.take _
theorem Reps.reverse {K : PySem.W.Frag} {F : Hp} : ∀ {vs : List V} {ds : List D}, Reps K F vs ds → Reps K F vs.reverse ds.reverse
  | _, _, .nil => .nil
  | _, _, .cons a b => by
    rw [List.reverse_cons, List.reverse_cons]
    exact (Reps.reverse b).append (.cons a .nil)
theorem Reps.ints {K : PySem.W.Frag} {F : Hp} : ∀ ns : List Int, Reps K F (ns.map V.int) (ns.map D.int)
  | [] => .nil
  | _ :: r => .cons (.int _) (Reps.ints r)

/-! owned things: lists and dicts that one name alone holds -/
inductive Own where
  | li (x : List D) | di (kvs : List (Key × D)) | ti (kvs : List (List Key × D))
def Own.toD : Own → D
  | .li x => .lst x
  | .di kvs => .dk (kvs.map (·.1)) (kvs.map (·.2))
  | .ti kvs => .dt (kvs.map (·.1)) (kvs.map (·.2))
abbrev PR {κ : Type} (K : PySem.W.Frag) (F : Hp) : List (κ × V) → List (κ × D) → Prop := Paired fun p q => p.1 = q.1 ∧ Rep K F p.2 q.2
theorem PR.mono {κ : Type} {K : PySem.W.Frag} {F F' : Hp} (e : Same F F') {x : List (κ × V)} {y : List (κ × D)} (h : PR K F x y) : PR K F' x y := Paired.mapP h fun _ _ z => ⟨z.1, z.2.mono e⟩
theorem PR.keys {κ : Type} {K : PySem.W.Frag} {F : Hp} {x : List (κ × V)} {y : List (κ × D)} (h : PR K F x y) : x.map (·.1) = y.map (·.1) := by
  unfold PR at h
  induction h with
  | nil => rfl
  | cons a b ih => rw [List.map_cons, List.map_cons, ih, a.1]
theorem PR.vals {κ : Type} {K : PySem.W.Frag} {F : Hp} {x : List (κ × V)} {y : List (κ × D)} (h : PR K F x y) : Reps K F (x.map (·.2)) (y.map (·.2)) := by
  unfold PR at h
  induction h with
  | nil => exact .nil
  | cons a b ih => exact .cons a.2 ih
def OwnR (K : PySem.W.Frag) (F : Hp) (ho : HO) : Own → Prop
  | .li l => ∃ vs, ho = .lst vs ∧ vs.length ≤ sizeLine ∧ Reps K F vs l
  | .di l => ∃ kvs, ho = .dK kvs ∧ kvs.length ≤ sizeLine ∧ PR K F kvs l
  | .ti l => ∃ kvs, ho = .dT kvs ∧ kvs.length ≤ sizeLine ∧ PR K F kvs l
theorem OwnR.mono {K : PySem.W.Frag} {F F' : Hp} {ho : HO} (e : Same F F') : ∀ {o : Own}, OwnR K F ho o → OwnR K F' ho o
  | .li _, ⟨vs, h1, h2, h3⟩ => ⟨vs, h1, h2, h3.mono e⟩
  | .di _, ⟨vs, h1, h2, h3⟩ => ⟨vs, h1, h2, h3.mono e⟩
  | .ti _, ⟨vs, h1, h2, h3⟩ => ⟨vs, h1, h2, h3.mono e⟩
theorem OwnR.rep {K : PySem.W.Frag} {F : Hp} {a : Addr} {ho : HO} (h : F a = some ho) : ∀ {o : Own}, OwnR K F ho o → Rep K F (.ref a) o.toD
  | .li _, ⟨vs, h1, h2, h3⟩ => by subst h1; exact .lst h h2 h3
  | .di l, ⟨vs, h1, h2, h3⟩ => by
    subst h1
    show Rep K F (.ref a) (.dk (l.map (·.1)) (l.map (·.2)))
    rw [← h3.keys]
    exact .dk (.inl h) h2 h3.vals
  | .ti l, ⟨vs, h1, h2, h3⟩ => by
    subst h1
    show Rep K F (.ref a) (.dt (l.map (·.1)) (l.map (·.2)))
    rw [← h3.keys]
    exact .dt (.inl h) h2 h3.vals
theorem OwnR.notIns {K : PySem.W.Frag} {F : Hp} {ho : HO} {C dx : Addr} {fs : List (Str × V)} : ∀ {o : Own}, OwnR K F ho o → ho ≠ .ins C dx fs
  | .li _, ⟨vs, h1, h2, h3⟩ => by subst h1; intro z; cases z
  | .di _, ⟨vs, h1, h2, h3⟩ => by subst h1; intro z; cases z
  | .ti _, ⟨vs, h1, h2, h3⟩ => by subst h1; intro z; cases z
theorem OwnR.notTup {K : PySem.W.Frag} {F : Hp} {ho : HO} {ws : List V} : ∀ {o : Own}, OwnR K F ho o → ho ≠ .tup ws
  | .li _, ⟨vs, h1, h2, h3⟩ => by subst h1; intro z; cases z
  | .di _, ⟨vs, h1, h2, h3⟩ => by subst h1; intro z; cases z
  | .ti _, ⟨vs, h1, h2, h3⟩ => by subst h1; intro z; cases z

inductive Slot where
  | un | fz (d : D) | ow (o : Own) | self
def Slot.isOw : Slot → Bool
  | .ow _ => true
  | _ => false
inductive Exc where
  | noWeb | noRow | noNumber | noArrows | tooBig | noText
structure Pr where
  K : PySem.W.Frag
  ec : Exc → Value
  n : Nat
  fns : List Str
  C : Addr
  me : Addr

abbrev Ob := Option (Addr × List (Option V))
def tau (σ : L2.St) : Ob → List (Option V)
  | none => σ
  | some (_, fv) => σ ++ fv
def SlotR (K : PySem.W.Frag) (F H : Hp) (ob : Ob) (a : Addr) (v : Option V) : Slot → Prop
  | .un => True
  | .fz d => ∃ u, v = some u ∧ Rep K F u d
  | .ow o => v = some (.ref a) ∧ ∃ ho, H a = some ho ∧ OwnR K F ho o
  | .self => ∃ p fv, ob = some (p, fv) ∧ v = some (.ref p)
structure ObR (P : Pr) (B F H : Hp) (p : Addr) (fv : List (Option V)) : Prop where
  me : p = P.me
  len : fv.length = P.fns.length
  fp : F p = none
  bp : B p = none
  at_ : ∃ dx fs, H p = some (.ins P.C dx fs) ∧ (∀ (j : Nat) (f : Str), P.fns[j]? = some f → fs.lookup f = (fv[j]? : Option (Option V)).join) ∧ (∀ g, g ∉ P.fns → fs.lookup g = none) ∧ (fs.map (·.1)).Nodup

structure Wf (P : Pr) (B F0 F H : Hp) (σ : L2.St) (ob : Ob) (ρ : List Slot) : Prop where
  fh : Same F H
  bh : Same B H
  ff : Same F0 F
  nw : ∀ b o, F b = some o → F0 b = some o ∨ B b = none ∨ ∃ vs, o = .tup vs
  n : σ.length = P.n
  len : ρ.length = (tau σ ob).length
  sl : ∃ al : Nat → Addr, (∀ (i : Nat) (s : Slot), ρ[i]? = some s → SlotR P.K F H ob (al i) ((tau σ ob)[i]?).join s) ∧
    (∀ (i : Nat) (s : Slot), ρ[i]? = some s → s.isOw = true → F (al i) = none ∧ B (al i) = none) ∧
    (∀ (i j : Nat) (s t : Slot), ρ[i]? = some s → ρ[j]? = some t → s.isOw = true → t.isOw = true → al i = al j → i = j)
  ob : ∀ p fv, ob = some (p, fv) → ObR P B F H p fv
end Pv

set_option Elab.async false
set_option linter.all false
set_option maxRecDepth 100000
namespace Pv
open PySem PySem.Spec PyProof.Rows L2
theorem same_new {H : Hp} {p : Addr} {o : HO} (h : H p = none) : Same H (upd H p o) := fun b x e => by
  rw [upd_ne (ne_of_none e h)]
  exact e
theorem SlotR.imp {K : PySem.W.Frag} {F F' H H' : Hp} {ob : Ob} {a : Addr} {v : Option V} (e : Same F F') : ∀ {s : Slot}, SlotR K F H ob a v s → (∀ ho, s.isOw = true → H a = some ho → H' a = some ho) → SlotR K F' H' ob a v s
  | .un, _, _ => True.intro
  | .fz d, ⟨u, h1, h2⟩, _ => ⟨u, h1, h2.mono e⟩
  | .ow o, ⟨h1, ho, h2, h3⟩, h => ⟨h1, ho, h ho rfl h2, h3.mono e⟩
  | .self, h, _ => h
theorem SlotR.there {K : PySem.W.Frag} {F H : Hp} {ob : Ob} {a : Addr} {v : Option V} : ∀ {s : Slot}, SlotR K F H ob a v s → s.isOw = true → ∃ ho, H a = some ho ∧ (∀ C dx fs, ho ≠ .ins C dx fs) ∧ ∀ vs, ho ≠ .tup vs
  | .ow o, ⟨h1, ho, h2, h3⟩, _ => ⟨ho, h2, (fun _ _ _ => h3.notIns), fun _ => h3.notTup⟩
  | .un, _, h => nomatch h
  | .fz _, _, h => nomatch h
  | .self, _, h => nomatch h

theorem ObR.keep {P : Pr} {B B' F F' H H' : Hp} {p : Addr} {fv : List (Option V)} (x : ObR P B F H p fv) (hf : F p = none → F' p = none) (hb : B p = none → B' p = none) (h : ∀ ho, H p = some ho → H' p = some ho) : ObR P B' F' H' p fv := by
  obtain ⟨me, l, a, b, dx, fs, e, r⟩ := x
  exact ⟨me, l, hf a, hb b, dx, fs, h _ e, r⟩
theorem ObR.ins {P : Pr} {B F H : Hp} {p : Addr} {fv : List (Option V)} (x : ObR P B F H p fv) : ∃ dx fs, H p = some (.ins P.C dx fs) := by
  obtain ⟨me, l, a, b, dx, fs, e, r⟩ := x
  exact ⟨dx, fs, e⟩

section
variable {P : Pr} {B F0 F H : Hp} {σ : L2.St} {ob : Ob} {ρ : List Slot}
/-- a new frozen object -/
theorem Wf.grow (w : Wf P B F0 F H σ ob ρ) {p : Addr} {o : HO} (hp : H p = none) : Wf P B F0 (upd F p o) (upd H p o) σ ob ρ := by
  obtain ⟨fh, bh, ff, nw, n, len, ⟨al, s1, s2, s3⟩, hob⟩ := w
  have fp : F p = none := fh.free hp
  have bp : B p = none := bh.free hp
  have sF : Same F (upd F p o) := same_new fp
  have sH : Same H (upd H p o) := same_new hp
  refine ⟨fun b x e => ?_, bh.trans sH, ff.trans sF, fun b x e => ?_, n, len, ⟨al, fun i s h => (s1 i s h).imp sF fun ho _ e => sH _ _ e, fun i s h ho => ?_, s3⟩, fun q fv e => ?_⟩
  · by_cases hb : b = p
    · subst hb; rw [upd_same] at e ⊢; exact e
    · rw [upd_ne hb] at e ⊢; exact fh _ _ e
  · by_cases hb : b = p
    · subst hb; exact .inr (.inl bp)
    · rw [upd_ne hb] at e; exact nw _ _ e
  · obtain ⟨z, e, _⟩ := (s1 i s h).there ho
    rw [upd_ne (ne_of_none e hp)]
    exact s2 i s h ho
  · have x := hob q fv e
    obtain ⟨dx, fs, e1⟩ := x.ins
    exact x.keep (fun h => by rw [upd_ne (ne_of_none e1 hp)]; exact h) (fun h => h) (fun ho h => sH _ _ h)
/-- a temporary owned object -/
theorem Wf.tmp (w : Wf P B F0 F H σ ob ρ) {p : Addr} {o : HO} (hp : H p = none) : Wf P (upd B p o) F0 F (upd H p o) σ ob ρ := by
  obtain ⟨fh, bh, ff, nw, n, len, ⟨al, s1, s2, s3⟩, hob⟩ := w
  have fp : F p = none := fh.free hp
  have sH : Same H (upd H p o) := same_new hp
  refine ⟨fh.trans sH, fun b x e => ?_, ff, fun b x e => ?_, n, len, ⟨al, fun i s h => (s1 i s h).imp (Same.refl _) fun ho _ e => sH _ _ e, fun i s h ho => ?_, s3⟩, fun q fv e => ?_⟩
  · by_cases hb : b = p
    · subst hb; rw [upd_same] at e ⊢; exact e
    · rw [upd_ne hb] at e ⊢; exact bh _ _ e
  · rcases nw b x e with h | h
    · exact .inl h
    · exact .inr (h.imp_left fun h => by rw [upd_ne (ne_of_none e fp)]; exact h)
  · obtain ⟨z, e, _⟩ := (s1 i s h).there ho
    rw [upd_ne (ne_of_none e hp)]
    exact s2 i s h ho
  · have x := hob q fv e
    obtain ⟨dx, fs, e1⟩ := x.ins
    exact x.keep (fun h => h) (fun h => by rw [upd_ne (ne_of_none e1 hp)]; exact h) (fun ho h => sH _ _ h)
/-- the temporary one changes -/
theorem Wf.tmpUpd {a : Addr} {ho ho' : HO} (w : Wf P (upd B a ho) F0 F H σ ob ρ) (fa : F a = none) : Wf P (upd B a ho') F0 F (upd H a ho') σ ob ρ := by
  obtain ⟨fh, bh, ff, nw, n, len, ⟨al, s1, s2, s3⟩, hob⟩ := w
  have own : ∀ (i : Nat) (s : Slot), ρ[i]? = some s → s.isOw = true → al i ≠ a := fun i s h e z => by
    have := (s2 i s h e).2
    rw [z, upd_same] at this
    cases this
  refine ⟨fun b x e => ?_, fun b x e => ?_, ff, fun b x e => ?_, n, len, ⟨al, fun i s h => (s1 i s h).imp (Same.refl _) fun u hs e => ?_, fun i s h hs => ?_, s3⟩, fun q fv e => ?_⟩
  · rw [upd_ne (ne_of_none e fa)]; exact fh _ _ e
  · by_cases hb : b = a
    · subst hb; rw [upd_same] at e ⊢; exact e
    · rw [upd_ne hb] at e ⊢
      exact bh b x (by rw [upd_ne hb]; exact e)
  · rcases nw b x e with h | h
    · exact .inl h
    · have hb : b ≠ a := ne_of_none e fa
      rw [upd_ne hb] at h
      exact .inr (by rw [upd_ne hb]; exact h)
  · rw [upd_ne (own i s h hs)]; exact e
  · have q := s2 i s h hs
    rw [upd_ne (own i s h hs)] at q ⊢
    exact q
  · have x := hob q fv e
    have hq : q ≠ a := fun z => by
      have := x.bp
      rw [z, upd_same] at this
      cases this
    exact x.keep (fun h => h) (fun h => by rw [upd_ne hq] at h ⊢; exact h) (fun u h => by rw [upd_ne hq]; exact h)
/-- the temporary one is frozen -/
theorem Wf.tmpFrz {a : Addr} {ho : HO} (w : Wf P (upd B a ho) F0 F H σ ob ρ) (fa : F a = none) (ba : B a = none) : Wf P B F0 (upd F a ho) H σ ob ρ := by
  obtain ⟨fh, bh, ff, nw, n, len, ⟨al, s1, s2, s3⟩, hob⟩ := w
  have own : ∀ (i : Nat) (s : Slot), ρ[i]? = some s → s.isOw = true → al i ≠ a := fun i s h e z => by
    have := (s2 i s h e).2
    rw [z, upd_same] at this
    cases this
  have sF : Same F (upd F a ho) := same_new fa
  refine ⟨fun b x e => ?_, fun b x e => bh b x (by rw [upd_ne (ne_of_none e ba)]; exact e), ff.trans sF, fun b x e => ?_, n, len, ⟨al, fun i s h => (s1 i s h).imp sF fun u hs e => e, fun i s h hs => ?_, s3⟩, fun q fv e => ?_⟩
  · by_cases hb : b = a
    · subst hb; rw [upd_same] at e; rw [← e]; exact bh b _ upd_same
    · rw [upd_ne hb] at e; exact fh _ _ e
  · by_cases hb : b = a
    · subst hb; exact .inr (.inl ba)
    · rw [upd_ne hb] at e
      rcases nw b x e with h | h
      · exact .inl h
      · rw [upd_ne hb] at h; exact .inr h
  · have q := s2 i s h hs
    rw [upd_ne (own i s h hs)] at q ⊢
    exact q
  · have x := hob q fv e
    have hq : q ≠ a := fun z => by
      have := x.bp
      rw [z, upd_same] at this
      cases this
    exact x.keep (fun h => by rw [upd_ne hq]; exact h) (fun h => by rw [upd_ne hq] at h; exact h) (fun u h => h)
theorem Wf.getH (w : Wf P (upd B a ho) F0 F H σ ob ρ) : H a = some ho := w.bh a ho upd_same
/-- B may be anything smaller, for what is new -/
theorem Wf.lessB {B' : Hp} (w : Wf P B' F0 F H σ ob ρ) (hb : Same B B') : Wf P B F0 F H σ ob ρ := by
  obtain ⟨fh, bh, ff, nw, n, len, ⟨al, s1, s2, s3⟩, hob⟩ := w
  refine ⟨fh, hb.trans bh, ff, fun b x e => ?_, n, len, ⟨al, s1, fun i s h hs => ⟨(s2 i s h hs).1, hb.free (s2 i s h hs).2⟩, s3⟩, fun q fv e => (hob q fv e).keep (fun h => h) (fun h => hb.free h) fun u h => h⟩
  rcases nw b x e with h | h
  · exact .inl h
  · exact .inr (h.imp_left hb.free)
theorem tau_lt (h : i < σ.length) : (tau σ ob)[i]? = σ[i]? := by
  cases ob with
  | none => rfl
  | some q =>
    obtain ⟨p, fv⟩ := q
    exact List.getElem?_append_left h
theorem tau_set (h : i < σ.length) (v : Option V) : tau (σ.set i v) ob = (tau σ ob).set i v := by
  cases ob with
  | none => rfl
  | some q =>
    obtain ⟨p, fv⟩ := q
    show σ.set i v ++ fv = (σ ++ fv).set i v
    rw [List.set_append_left _ _ h]
theorem tau_len_le : σ.length ≤ (tau σ ob).length := by
  cases ob with
  | none => exact Nat.le_refl _
  | some q =>
    obtain ⟨p, fv⟩ := q
    show σ.length ≤ (σ ++ fv).length
    rw [List.length_append]; omega
/-- a local is stored: something frozen, or the object, or nothing known -/
theorem Wf.set (w : Wf P B F0 F H σ ob ρ) {i : Nat} {v : Option V} {s : Slot} (hi : i < P.n) (hs : s.isOw = false) (hr : ∀ a, SlotR P.K F H ob a v s) : Wf P B F0 F H (σ.set i v) ob (ρ.set i s) := by
  obtain ⟨fh, bh, ff, nw, n, len, ⟨al, s1, s2, s3⟩, hob⟩ := w
  have hi' : i < σ.length := by rw [n]; exact hi
  have hiρ : i < ρ.length := by rw [len]; exact Nat.lt_of_lt_of_le hi' tau_len_le
  have hiτ : i < (tau σ ob).length := by rw [← len]; exact hiρ
  refine ⟨fh, bh, ff, nw, by rw [List.length_set]; exact n, by rw [tau_set hi', List.length_set, List.length_set]; exact len, ⟨al, fun j t h => ?_, fun j t h ht => ?_, fun j k t u h h' ht hu => ?_⟩, hob⟩
  · rw [tau_set hi']
    by_cases hj : i = j
    · subst hj
      rw [List.getElem?_set_self hiρ] at h
      cases h
      rw [List.getElem?_set_self hiτ]
      exact hr _
    · rw [List.getElem?_set_ne hj] at h ⊢
      exact s1 j t h
  · by_cases hj : i = j
    · subst hj
      rw [List.getElem?_set_self hiρ] at h
      cases h
      rw [hs] at ht; cases ht
    · rw [List.getElem?_set_ne hj] at h
      exact s2 j t h ht
  · by_cases hj : i = j
    · subst hj
      rw [List.getElem?_set_self hiρ] at h
      cases h
      rw [hs] at ht; cases ht
    · by_cases hk : i = k
      · subst hk
        rw [List.getElem?_set_self hiρ] at h'
        cases h'
        rw [hs] at hu; cases hu
      · rw [List.getElem?_set_ne hj] at h
        rw [List.getElem?_set_ne hk] at h'
        exact s3 j k t u h h' ht hu
/-- a local takes the temporary object -/
theorem Wf.setOw {a : Addr} {ho : HO} {o : Own} (w : Wf P (upd B a ho) F0 F H σ ob ρ) {i : Nat} (hi : i < P.n) (fa : F a = none) (ba : B a = none) (hr : OwnR P.K F ho o) : Wf P B F0 F H (σ.set i (some (.ref a))) ob (ρ.set i (.ow o)) := by
  have eH := w.getH
  obtain ⟨fh, bh, ff, nw, n, len, ⟨al, s1, s2, s3⟩, hob⟩ := w.lessB (same_new ba)
  obtain ⟨_, _, _, _, _, _, ⟨bl, t1, t2, t3⟩, hob'⟩ := w
  have own : ∀ (i : Nat) (s : Slot), ρ[i]? = some s → s.isOw = true → bl i ≠ a := fun i s h e z => by
    have := (t2 i s h e).2
    rw [z, upd_same] at this
    cases this
  have hi' : i < σ.length := by rw [n]; exact hi
  have hiρ : i < ρ.length := by rw [len]; exact Nat.lt_of_lt_of_le hi' tau_len_le
  have hiτ : i < (tau σ ob).length := by rw [← len]; exact hiρ
  refine ⟨fh, bh, ff, nw, by rw [List.length_set]; exact n, by rw [tau_set hi', List.length_set, List.length_set]; exact len, ⟨fun j => if j = i then a else bl j, fun j t h => ?_, fun j t h ht => ?_, fun j k t u h h' ht hu => ?_⟩, hob⟩
  · rw [tau_set hi']
    by_cases hj : i = j
    · subst hj
      rw [List.getElem?_set_self hiρ] at h
      cases h
      rw [List.getElem?_set_self hiτ]
      dsimp only
      rw [if_pos rfl]
      exact ⟨rfl, ho, eH, hr⟩
    · rw [List.getElem?_set_ne hj] at h ⊢
      dsimp only
      rw [if_neg (fun z => hj z.symm)]
      exact t1 j t h
  · by_cases hj : i = j
    · subst hj
      dsimp only
      rw [if_pos rfl]
      exact ⟨fa, ba⟩
    · rw [List.getElem?_set_ne hj] at h
      dsimp only
      rw [if_neg (fun z => hj z.symm)]
      have q := t2 j t h ht
      rw [upd_ne (own j t h ht)] at q
      exact q
  · by_cases hj : i = j
    · by_cases hk : i = k
      · omega
      · subst hj
        rw [List.getElem?_set_ne hk] at h'
        dsimp only
        rw [if_pos rfl, if_neg (fun z => hk z.symm)]
        intro z
        exact absurd z.symm (own k u h' hu)
    · by_cases hk : i = k
      · subst hk
        rw [List.getElem?_set_ne hj] at h
        dsimp only
        rw [if_pos rfl, if_neg (fun z => hj z.symm)]
        intro z
        exact absurd z (own j t h ht)
      · rw [List.getElem?_set_ne hj] at h
        rw [List.getElem?_set_ne hk] at h'
        dsimp only
        rw [if_neg (fun z => hj z.symm), if_neg (fun z => hk z.symm)]
        exact t3 j k t u h h' ht hu
/-- an owned slot, read -/
theorem Wf.owned (w : Wf P B F0 F H σ ob ρ) {i : Nat} {o : Own} (h : ρ[i]? = some (.ow o)) : ∃ a ho, (tau σ ob)[i]? = some (some (.ref a)) ∧ H a = some ho ∧ OwnR P.K F ho o ∧ F a = none ∧ B a = none ∧
    (∀ ho' o', OwnR P.K F ho' o' → Wf P B F0 F (upd H a ho') σ ob (ρ.set i (.ow o'))) ∧ Wf P B F0 (upd F a ho) H σ ob (ρ.set i (.fz o.toD)) := by
  obtain ⟨fh, bh, ff, nw, n, len, ⟨al, s1, s2, s3⟩, hob⟩ := w
  obtain ⟨e1, ho, e2, e3⟩ := s1 i _ h
  obtain ⟨fa, ba⟩ := s2 i _ h rfl
  have hiρ : i < ρ.length := (List.getElem?_eq_some_iff.mp h).1
  have hiτ : i < (tau σ ob).length := by rw [← len]; exact hiρ
  have e0 : (tau σ ob)[i]? = some (some (.ref (al i))) := by
    rw [List.getElem?_eq_getElem hiτ] at e1 ⊢
    rw [show (tau σ ob)[i] = some (.ref (al i)) from e1]
  refine ⟨al i, ho, e0, e2, e3, fa, ba, fun ho' o' hr => ?_, ?_⟩
  · have ne : ∀ (j : Nat) (s : Slot), ρ[j]? = some s → s.isOw = true → i ≠ j → al j ≠ al i := fun j s hj hs hij z => hij (s3 j i s _ hj h hs rfl z).symm
    refine ⟨fun b x e => ?_, fun b x e => ?_, ff, nw, n, by rw [List.length_set]; exact len, ⟨al, fun j t hj => ?_, fun j t hj ht => ?_, fun j k t u hj hk ht hu => ?_⟩, fun q fv e => ?_⟩
    · rw [upd_ne (ne_of_none e fa)]; exact fh _ _ e
    · rw [upd_ne (ne_of_none e ba)]; exact bh _ _ e
    · by_cases hij : i = j
      · subst hij
        rw [List.getElem?_set_self hiρ] at hj
        cases hj
        exact ⟨e1, ho', upd_same, hr⟩
      · rw [List.getElem?_set_ne hij] at hj
        exact (s1 j t hj).imp (Same.refl _) fun u hu e => by rw [upd_ne (ne j t hj hu hij)]; exact e
    · by_cases hij : i = j
      · subst hij; exact ⟨fa, ba⟩
      · rw [List.getElem?_set_ne hij] at hj
        exact s2 j t hj ht
    · intro z
      have g : ∀ (j : Nat) (t : Slot), (ρ.set i (.ow o'))[j]? = some t → t.isOw = true → ∃ s : Slot, ρ[j]? = some s ∧ s.isOw = true := fun j t hj ht => by
        by_cases hij : i = j
        · subst hij; exact ⟨_, h, rfl⟩
        · rw [List.getElem?_set_ne hij] at hj
          exact ⟨t, hj, ht⟩
      obtain ⟨s, a1, a2⟩ := g j t hj ht
      obtain ⟨s', b1, b2⟩ := g k u hk hu
      exact s3 j k s s' a1 b1 a2 b2 z
    · have x := hob q fv e
      obtain ⟨dx, fs, ei⟩ := x.ins
      have hq : q ≠ al i := ne_of ei e2 fun z => e3.notIns z.symm
      exact x.keep (fun h => h) (fun h => h) fun u hu => by rw [upd_ne hq]; exact hu
  · have sF : Same F (upd F (al i) ho) := same_new fa
    refine ⟨fun b x e => ?_, bh, ff.trans sF, fun b x e => ?_, n, by rw [List.length_set]; exact len, ⟨al, fun j t hj => ?_, fun j t hj ht => ?_, fun j k t u hj hk ht hu => ?_⟩, fun q fv e => ?_⟩
    · by_cases hb : b = al i
      · subst hb; rw [upd_same] at e; cases e; exact e2
      · rw [upd_ne hb] at e; exact fh _ _ e
    · by_cases hb : b = al i
      · subst hb; exact .inr (.inl ba)
      · rw [upd_ne hb] at e; exact nw _ _ e
    · by_cases hij : i = j
      · subst hij
        rw [List.getElem?_set_self hiρ] at hj
        cases hj
        exact ⟨_, e1, (e3.mono sF).rep upd_same⟩
      · rw [List.getElem?_set_ne hij] at hj
        exact (s1 j t hj).imp sF fun u hu e => e
    · by_cases hij : i = j
      · subst hij
        rw [List.getElem?_set_self hiρ] at hj
        cases hj
        cases ht
      · rw [List.getElem?_set_ne hij] at hj
        rw [upd_ne (fun z => hij (s3 j i t _ hj h ht rfl z).symm)]
        exact s2 j t hj ht
    · have g : ∀ (j : Nat) (t : Slot), (ρ.set i (.fz o.toD))[j]? = some t → t.isOw = true → ρ[j]? = some t := fun j t hj ht => by
        by_cases hij : i = j
        · subst hij
          rw [List.getElem?_set_self hiρ] at hj
          cases hj
          cases ht
        · rw [List.getElem?_set_ne hij] at hj
          exact hj
      exact s3 j k t u (g j t hj ht) (g k u hk hu) ht hu
    · have x := hob q fv e
      obtain ⟨dx, fs, ei⟩ := x.ins
      have hq : q ≠ al i := ne_of ei e2 fun z => e3.notIns z.symm
      exact x.keep (fun h => by rw [upd_ne hq]; exact h) (fun h => h) fun u hu => hu
end
end Pv

set_option Elab.async false
set_option linter.all false
set_option maxRecDepth 100000
namespace Pv
open PySem PySem.Spec PyProof.Rows L2
/-! the pure side: results, handles -/
abbrev Envi := List Slot
inductive R (α : Type) where
  | ok (a : α) (ρ : Envi) | exc (c : Exc) (ρ : Envi) | stuck
def R.bind {α β : Type} (r : R α) (k : α → Envi → R β) : R β :=
  match r with
  | .ok a ρ => k a ρ
  | .exc c ρ => .exc c ρ
  | .stuck => .stuck
inductive Hd where
  | dat (d : D) | pl (i : Nat) | fl (i : Nat) | tm (o : Own) | obj
def deref (ρ : Envi) : Hd → Option D
  | .dat d => some d
  | .pl i => match ρ[i]? with
    | some (.fz d) => some d
    | some (.ow o) => some o.toD
    | _ => none
  | .fl i => match ρ[i]? with
    | some (.fz d) => some d
    | some (.ow o) => some o.toD
    | _ => none
  | .tm _ => none
  | .obj => none
def mat (ρ : Envi) : Hd → Option (D × Envi)
  | .dat d => some (d, ρ)
  | .pl i => match ρ[i]? with
    | some (.fz d) => some (d, ρ)
    | some (.ow o) => some (o.toD, ρ.set i (.fz o.toD))
    | _ => none
  | .fl i => match ρ[i]? with
    | some (.fz d) => some (d, ρ)
    | some (.ow o) => some (o.toD, ρ.set i (.fz o.toD))
    | _ => none
  | .tm _ => none
  | .obj => none
def matAll (ρ : Envi) : List Hd → Option (List D × Envi)
  | [] => some ([], ρ)
  | h :: hs => match mat ρ h with
    | some (d, ρ1) => match matAll ρ1 hs with
      | some (ds, ρ2) => some (d :: ds, ρ2)
      | none => none
    | none => none
def derefAll (ρ : Envi) : List Hd → Option (List D)
  | [] => some []
  | h :: hs => match deref ρ h, derefAll ρ hs with
    | some d, some ds => some (d :: ds)
    | _, _ => none
def R.frz : R Hd → R Hd
  | .ok (.tm o) ρ => .ok (.dat o.toD) ρ
  | r => r

/-! what a handle says of a value -/
def HR1 (P : Pr) (F : Hp) (σ : L2.St) (ob : Ob) (v : V) : Hd → Prop
  | .dat d => Rep P.K F v d
  | .pl i => i < P.n ∧ σ[i]? = some (some v)
  | .fl i => P.n ≤ i ∧ (tau σ ob)[i]? = some (some v)
  | .tm _ => False
  | .obj => ∃ p fv, ob = some (p, fv) ∧ v = .ref p
def HR (P : Pr) (B B' F : Hp) (σ : L2.St) (ob : Ob) (v : V) : Hd → Prop
  | .tm o => ∃ a ho, v = .ref a ∧ B' = upd B a ho ∧ B a = none ∧ F a = none ∧ OwnR P.K F ho o
  | h => B' = B ∧ HR1 P F σ ob v h
def Post {α β : Type} (P : Pr) (B F0 F : Hp) (σ : L2.St) (ob : Ob) (m : Bool) (W : WX) (Rel : Hp → Hp → Ob → β → α → Prop) (Q : β → Hp → Prop) : R α → Prop
  | .ok a ρ' => ∀ B' F' H' ob' v, Wf P B' F0 F' H' σ ob' ρ' → Same F F' → (m = false → ob' = ob) → Rel B' F' ob' v a → Q v H'
  | .exc c ρ' => ∀ F' H' ob', Wf P B F0 F' H' σ ob' ρ' → Same F F' → W (P.ec c) none σ H'
  | .stuck => False
abbrev RelE (P : Pr) (B : Hp) (σ : L2.St) : Hp → Hp → Ob → V → Hd → Prop := fun B' F' ob' v h => HR P B B' F' σ ob' v h
abbrev RelF (P : Pr) (B : Hp) (σ : L2.St) : Hp → Hp → Ob → V → Hd → Prop := fun B' F' ob' v h => B' = B ∧ HR1 P F' σ ob' v h
def HRs (P : Pr) (F : Hp) (σ : L2.St) (ob : Ob) : List V → List Hd → Prop
  | [], [] => True
  | v :: vs, h :: hs => HR1 P F σ ob v h ∧ HRs P F σ ob vs hs
  | _, _ => False
abbrev RelA (P : Pr) (B : Hp) (σ : L2.St) : Hp → Hp → Ob → List V → List Hd → Prop := fun B' F' ob' vs hs => B' = B ∧ HRs P F' σ ob' vs hs
abbrev RelT (B : Hp) : Hp → Hp → Ob → Bool → Bool → Prop := fun B' _ _ b c => B' = B ∧ b = c
def SndE (P : Pr) (m : Bool) (W : WX) (te : TE) (f : Envi → R Hd) : Prop :=
  ∀ B F0 F H σ ob ρ Q, Wf P B F0 F H σ ob ρ → Post P B F0 F σ ob m W (RelE P B σ) Q (f ρ) → te σ H Q
def SndF (P : Pr) (m : Bool) (W : WX) (te : TE) (f : Envi → R Hd) : Prop :=
  ∀ B F0 F H σ ob ρ Q, Wf P B F0 F H σ ob ρ → Post P B F0 F σ ob m W (RelF P B σ) Q (f ρ) → te σ H Q
def SndA (P : Pr) (m : Bool) (W : WX) (n : Nat) (ta : TA) (f : Envi → R (List Hd)) : Prop :=
  ∀ B F0 F H σ ob ρ Q, Wf P B F0 F H σ ob ρ → Post P B F0 F σ ob m W (fun B' F' ob' vs hs => RelA P B σ B' F' ob' vs hs ∧ vs.length = n) Q (f ρ) → ta σ H Q
def SndT (P : Pr) (m : Bool) (W : WX) (tt : TT) (f : Envi → R Bool) : Prop :=
  ∀ B F0 F H σ ob ρ Q, Wf P B F0 F H σ ob ρ → Post P B F0 F σ ob m W (RelT B) Q (f ρ) → tt σ H Q

section
variable {P : Pr} {B F0 F H : Hp} {σ : L2.St} {ob : Ob} {ρ : Envi}
theorem HR1.mono {v : V} {F' : Hp} {ob' : Ob} (e : Same F F') (ho : ob' = ob) : ∀ {h : Hd}, HR1 P F σ ob v h → HR1 P F' σ ob' v h
  | .dat d, h => Rep.mono e h
  | .pl i, h => h
  | .fl i, h => by rw [ho]; exact h
  | .tm _, h => h
  | .obj, h => by rw [ho]; exact h
theorem HRs.mono {F' : Hp} {ob' : Ob} (e : Same F F') (ho : ob' = ob) : ∀ {vs : List V} {hs : List Hd}, HRs P F σ ob vs hs → HRs P F' σ ob' vs hs
  | [], [], h => h
  | v :: vs, h :: hs, ⟨a, b⟩ => ⟨a.mono e ho, HRs.mono e ho b⟩
  | [], _ :: _, h => h.elim
  | _ :: _, [], h => h.elim
theorem Post.up {α β : Type} {m : Bool} {W : WX} {Rel : Hp → Hp → Ob → β → α → Prop} {Q : β → Hp → Prop} : ∀ {r : R α}, Post P B F0 F σ ob m W Rel Q r → Post P B F0 F σ ob false W Rel Q r
  | .ok a ρ', h => fun B' F' H' ob' v w s i r => h B' F' H' ob' v w s (fun _ => i rfl) r
  | .exc c ρ', h => h
  | .stuck, h => h
theorem SndE.up {m : Bool} {W : WX} {te : TE} {f : Envi → R Hd} (h : SndE P false W te f) : SndE P m W te f := fun B F0 F H σ ob ρ Q w q => h B F0 F H σ ob ρ Q w q.up
theorem SndT.up {m : Bool} {W : WX} {te : TT} {f : Envi → R Bool} (h : SndT P false W te f) : SndT P m W te f := fun B F0 F H σ ob ρ Q w q => h B F0 F H σ ob ρ Q w q.up
theorem SndE.frz {m : Bool} {W : WX} {te : TE} {f : Envi → R Hd} (h : SndE P m W te f) : SndF P m W te (fun ρ => (f ρ).frz) := fun B F0 F H σ ob ρ Q w q => by
  refine h B F0 F H σ ob ρ Q w ?_
  dsimp only at q
  cases e : f ρ with
  | stuck => rw [e] at q; exact q
  | exc c ρ' => rw [e] at q; exact q
  | ok h ρ' =>
    rw [e] at q
    cases h with
    | tm o =>
      intro B' F' H' ob' v w' s i r
      obtain ⟨a, ho, e1, e2, e3, e4, e5⟩ := r
      subst e2
      refine q B (upd F' a ho) H' ob' v (w'.tmpFrz e4 e3) (s.trans (same_new e4)) i ⟨rfl, ?_⟩
      rw [e1]
      exact (e5.mono (same_new e4)).rep upd_same
    | dat d => exact q
    | pl d => exact q
    | fl d => exact q
    | obj => exact q
/-- the continuation behind a first part -/
theorem Post.shift {α β : Type} {m : Bool} {W : WX} {F1 : Hp} {ob1 : Ob} {Rel : Hp → Hp → Ob → β → α → Prop} {Q : β → Hp → Prop} (e : Same F F1) (ho : m = false → ob1 = ob) : ∀ {r : R α}, Post P B F0 F σ ob m W Rel Q r → Post P B F0 F1 σ ob1 m W Rel Q r
  | .ok a ρ', h => fun B' F' H' ob' v w s i r => h B' F' H' ob' v w (e.trans s) (fun z => (i z).trans (ho z)) r
  | .exc c ρ', h => fun F' H' ob' w s => h F' H' ob' w (e.trans s)
  | .stuck, h => h
/-- from one part's result to the whole's -/
theorem Post.of_bind {α β γ δ : Type} {m m' : Bool} {W : WX} {Rel : Hp → Hp → Ob → γ → α → Prop} {Rel' : Hp → Hp → Ob → δ → β → Prop} {Q : γ → Hp → Prop} {Q' : δ → Hp → Prop} {k : α → Envi → R β} {r : R α}
    (h : Post P B F0 F σ ob m W Rel' Q' (r.bind k))
    (step : ∀ a ρ' B' F' H' ob' v, Wf P B' F0 F' H' σ ob' ρ' → Same F F' → (m' = false → ob' = ob) → Rel B' F' ob' v a → Post P B F0 F σ ob m W Rel' Q' (k a ρ') → Q v H') : Post P B F0 F σ ob m' W Rel Q r := by
  cases r with
  | ok a ρ' => exact fun B' F' H' ob' v w s i r => step a ρ' B' F' H' ob' v w s i r h
  | exc c ρ' => exact h
  | stuck => exact h

/-! a borrowed thing -/
def BRep (K : PySem.W.Frag) (F H : Hp) (v : V) (d : D) : Prop := Rep K F v d ∨ ∃ a ho o, v = .ref a ∧ H a = some ho ∧ OwnR K F ho o ∧ d = o.toD
theorem Wf.deref (w : Wf P B F0 F H σ ob ρ) {v : V} {h : Hd} {d : D} (r : HR1 P F σ ob v h) (e : deref ρ h = some d) : BRep P.K F H v d := by
  have key : ∀ i : Nat, (tau σ ob)[i]? = some (some v) → (match ρ[i]? with | some (.fz d) => some d | some (.ow o) => some o.toD | _ => none) = some d → BRep P.K F H v d := fun i hi e => by
    obtain ⟨al, s1, s2, s3⟩ := w.sl
    cases q : ρ[i]? with
    | none => rw [q] at e; cases e
    | some s =>
      have x := s1 i s q
      rw [hi] at x
      rw [q] at e
      cases s with
      | un => cases e
      | self => cases e
      | fz d' =>
        cases e
        obtain ⟨u, e1, e2⟩ := x
        cases e1
        exact .inl e2
      | ow o =>
        cases e
        obtain ⟨e1, ho, e2, e3⟩ := x
        cases e1
        exact .inr ⟨_, ho, o, rfl, e2, e3, rfl⟩
  cases h with
  | dat d' => cases e; exact .inl r
  | pl i => exact key i (by rw [tau_lt (by rw [w.n]; exact r.1)]; exact r.2) e
  | fl i => exact key i r.2 e
  | tm o => exact r.elim
  | obj => cases e
theorem Wf.mat (w : Wf P B F0 F H σ ob ρ) {v : V} {h : Hd} {d : D} {ρ' : Envi} (r : HR1 P F σ ob v h) (e : mat ρ h = some (d, ρ')) : ∃ F', Wf P B F0 F' H σ ob ρ' ∧ Same F F' ∧ Rep P.K F' v d := by
  have key : ∀ i : Nat, (tau σ ob)[i]? = some (some v) → (match ρ[i]? with | some (.fz d) => some (d, ρ) | some (.ow o) => some (o.toD, ρ.set i (.fz o.toD)) | _ => none) = some (d, ρ') → ∃ F', Wf P B F0 F' H σ ob ρ' ∧ Same F F' ∧ Rep P.K F' v d := fun i hi e => by
    cases q : ρ[i]? with
    | none => rw [q] at e; cases e
    | some s =>
      rw [q] at e
      cases s with
      | un => cases e
      | self => cases e
      | fz d' =>
        cases e
        obtain ⟨al, s1, s2, s3⟩ := w.sl
        have x := s1 i _ q
        rw [hi] at x
        obtain ⟨u, e1, e2⟩ := x
        cases e1
        exact ⟨F, w, Same.refl _, e2⟩
      | ow o =>
        cases e
        obtain ⟨a, ho, e1, e2, e3, fa, ba, _, w'⟩ := w.owned q
        rw [hi] at e1
        cases e1
        exact ⟨_, w', same_new fa, (e3.mono (same_new fa)).rep upd_same⟩
  cases h with
  | dat d' => cases e; exact ⟨F, w, Same.refl _, r⟩
  | pl i => exact key i (by rw [tau_lt (by rw [w.n]; exact r.1)]; exact r.2) e
  | fl i => exact key i r.2 e
  | tm o => exact r.elim
  | obj => cases e
theorem Wf.matAll : ∀ {hs : List Hd} {F : Hp} {ρ : Envi} {vs : List V} {ds : List D} {ρ' : Envi}, Wf P B F0 F H σ ob ρ → HRs P F σ ob vs hs → matAll ρ hs = some (ds, ρ') → ∃ F', Wf P B F0 F' H σ ob ρ' ∧ Same F F' ∧ Reps P.K F' vs ds
  | [], F, ρ, [], ds, ρ', w, r, e => by cases e; exact ⟨F, w, Same.refl _, .nil⟩
  | [], F, ρ, _ :: _, ds, ρ', w, r, e => r.elim
  | h :: hs, F, ρ, [], ds, ρ', w, r, e => r.elim
  | h :: hs, F, ρ, v :: vs, ds, ρ', w, ⟨r, rs⟩, e => by
    unfold Pv.matAll at e
    cases q : Pv.mat ρ h with
    | none => rw [q] at e; cases e
    | some x =>
      obtain ⟨d, ρ1⟩ := x
      rw [q] at e
      obtain ⟨F1, w1, s1, r1⟩ := w.mat r q
      dsimp only at e
      cases q2 : Pv.matAll ρ1 hs with
      | none => rw [q2] at e; cases e
      | some x =>
        obtain ⟨ds', ρ2⟩ := x
        rw [q2] at e
        cases e
        obtain ⟨F2, w2, s2, r2⟩ := Wf.matAll w1 (rs.mono s1 rfl) q2
        exact ⟨F2, w2, s1.trans s2, .cons (Rep.mono s2 r1) r2⟩
inductive BReps (K : PySem.W.Frag) (F H : Hp) : List V → List D → Prop
  | nil : BReps K F H [] []
  | cons {v : V} {vs : List V} {d : D} {ds : List D} : BRep K F H v d → BReps K F H vs ds → BReps K F H (v :: vs) (d :: ds)
theorem Wf.derefAll (w : Wf P B F0 F H σ ob ρ) : ∀ {hs : List Hd} {vs : List V} {ds : List D}, HRs P F σ ob vs hs → derefAll ρ hs = some ds → BReps P.K F H vs ds
  | [], [], ds, r, e => by cases e; exact .nil
  | [], _ :: _, ds, r, e => r.elim
  | h :: hs, [], ds, r, e => r.elim
  | h :: hs, v :: vs, ds, ⟨r, rs⟩, e => by
    unfold Pv.derefAll at e
    cases q : Pv.deref ρ h with
    | none => rw [q] at e; cases e
    | some d =>
      cases q2 : Pv.derefAll ρ hs with
      | none => rw [q, q2] at e; cases e
      | some ds' =>
        rw [q, q2] at e
        cases e
        exact .cons (w.deref r q) (w.derefAll rs q2)
inductive Grow : Hp → Hp → Hp → Hp → Prop
  | refl (F H : Hp) : Grow F H F H
  | new {F H F1 H1 : Hp} {p : Addr} {o : HO} : Grow F H F1 H1 → H1 p = none → Grow F H (upd F1 p o) (upd H1 p o)
  | known {F H F1 H1 : Hp} {p : Addr} {vs : List V} : Grow F H F1 H1 → H1 p = some (.tup vs) → Grow F H (upd F1 p (.tup vs)) H1
/-- a tuple that stands there may be known -/
theorem Wf.growT (w : Wf P B F0 F H σ ob ρ) {p : Addr} {vs : List V} (hp : H p = some (.tup vs)) : Wf P B F0 (upd F p (.tup vs)) H σ ob ρ ∧ Same F (upd F p (.tup vs)) := by
  obtain ⟨fh, bh, ff, nw, n, len, ⟨al, s1, s2, s3⟩, hob⟩ := w
  have sF : Same F (upd F p (.tup vs)) := fun b x e => by
    by_cases hb : b = p
    · subst hb
      have := fh _ _ e
      rw [hp] at this
      rw [upd_same]; exact this
    · rw [upd_ne hb]; exact e
  refine ⟨⟨fun b x e => ?_, bh, ff.trans sF, fun b x e => ?_, n, len, ⟨al, fun i s h => (s1 i s h).imp sF fun ho _ e => e, fun i s h ho => ?_, s3⟩, fun q fv e => ?_⟩, sF⟩
  · by_cases hb : b = p
    · subst hb; rw [upd_same] at e; rw [← e]; exact hp
    · rw [upd_ne hb] at e; exact fh _ _ e
  · by_cases hb : b = p
    · subst hb; rw [upd_same] at e; cases e; exact .inr (.inr ⟨_, rfl⟩)
    · rw [upd_ne hb] at e; exact nw _ _ e
  · obtain ⟨z, e, _, hz⟩ := (s1 i s h).there ho
    have hne : al i ≠ p := fun g => by
      rw [g, hp] at e
      exact hz vs (Option.some.inj e).symm
    rw [upd_ne hne]
    exact s2 i s h ho
  · have x := hob q fv e
    obtain ⟨dx, fs, e1⟩ := x.ins
    have hne : q ≠ p := fun g => by
      rw [g, hp] at e1
      cases e1
    exact x.keep (fun h => by rw [upd_ne hne]; exact h) (fun h => h) (fun ho h => h)
theorem Wf.growN {F' H' : Hp} (w : Wf P B F0 F H σ ob ρ) (g : Grow F H F' H') : Wf P B F0 F' H' σ ob ρ ∧ Same F F' := by
  induction g with
  | refl => exact ⟨w, Same.refl _⟩
  | @new F1 H1 p o g hp ih =>
    obtain ⟨w1, s1⟩ := ih
    exact ⟨w1.grow hp, s1.trans (same_new (w1.fh.free hp))⟩
  | @known F1 H1 p vs g hp ih =>
    obtain ⟨w1, s1⟩ := ih
    have w2 := w1.growT hp
    exact ⟨w2.1, s1.trans w2.2⟩
end
end Pv

set_option Elab.async false
set_option linter.all false
set_option maxRecDepth 100000
namespace Pv
open PySem PySem.Spec PyProof.Rows L2
/-! expressions: the pure functions -/
def eVar (i : Nat) : Envi → R Hd := fun ρ => match ρ[i]? with
  | some (.fz d) => .ok (.dat d) ρ
  | some (.ow _) => .ok (.pl i) ρ
  | some .self => .ok .obj ρ
  | _ => .stuck
def eC (d : D) : Envi → R Hd := fun ρ => .ok (.dat d) ρ
def eMat (f : Envi → R Hd) : Envi → R Hd := fun ρ => (f ρ).frz.bind fun h ρ1 => match mat ρ1 h with
  | some (d, ρ2) => .ok (.dat d) ρ2
  | none => .stuck
def opt1 (ρ : Envi) : Option D → R Hd
  | some d => .ok (.dat d) ρ
  | none => .stuck
def on1 (op : D → Option D) (ρ : Envi) (h : Hd) : R Hd := match deref ρ h with
  | some a => opt1 ρ (op a)
  | none => .stuck
def on2 (op : D → D → Option D) (ρ : Envi) (h k : Hd) : R Hd := match deref ρ h, deref ρ k with
  | some a, some b => opt1 ρ (op a b)
  | _, _ => .stuck
def eBin (op : D → D → Option D) (f g : Envi → R Hd) : Envi → R Hd := fun ρ => (f ρ).frz.bind fun h ρ1 => (g ρ1).frz.bind fun k ρ2 => on2 op ρ2 h k
def eUn (op : D → Option D) (f : Envi → R Hd) : Envi → R Hd := fun ρ => (f ρ).frz.bind fun h ρ1 => on1 op ρ1 h
def aNil : Envi → R (List Hd) := fun ρ => .ok [] ρ
def aCons (f : Envi → R Hd) (g : Envi → R (List Hd)) : Envi → R (List Hd) := fun ρ => (f ρ).frz.bind fun h ρ1 => (g ρ1).bind fun hs ρ2 => .ok (h :: hs) ρ2
def eTup (g : Envi → R (List Hd)) : Envi → R Hd := fun ρ => (g ρ).bind fun hs ρ1 => match matAll ρ1 hs with
  | some (ds, ρ2) => .ok (.dat (.tup ds)) ρ2
  | none => .stuck
def eLst (g : Envi → R (List Hd)) : Envi → R Hd := fun ρ => (g ρ).bind fun hs ρ1 => match matAll ρ1 hs with
  | some (ds, ρ2) => .ok (.tm (.li ds)) ρ2
  | none => .stuck
/-- what a def gives -/
inductive Rf where
  | fz (d : D) | ow (o : Own) | exc (c : Exc) | stuck
def ofRf (ρ : Envi) : Rf → R Hd
  | .fz d => .ok (.dat d) ρ
  | .ow o => .ok (.tm o) ρ
  | .exc c => .exc c ρ
  | .stuck => .stuck
def eCall (fs : List D → Rf) (g : Envi → R (List Hd)) : Envi → R Hd := fun ρ => (g ρ).bind fun hs ρ1 => match matAll ρ1 hs with
  | some (ds, ρ2) => ofRf ρ2 (fs ds)
  | none => .stuck
/-- a built-in's call: its arguments are looked at only -/
def eCB (fs : List D → Rf) (g : Envi → R (List Hd)) : Envi → R Hd := fun ρ => (g ρ).bind fun hs ρ1 => match derefAll ρ1 hs with
  | some ds => ofRf ρ1 (fs ds)
  | none => .stuck
def ofBl (ρ : Envi) : Option D → R Bool
  | some (.bl b) => .ok b ρ
  | _ => .stuck
def tsE (f : Envi → R Hd) : Envi → R Bool := fun ρ => (f ρ).frz.bind fun h ρ1 => ofBl ρ1 (deref ρ1 h)
def tsAnd (f g : Envi → R Bool) : Envi → R Bool := fun ρ => (f ρ).bind fun b ρ1 => if b = true then g ρ1 else .ok false ρ1
def tsOr (f g : Envi → R Bool) : Envi → R Bool := fun ρ => (f ρ).bind fun b ρ1 => if b = true then .ok true ρ1 else g ρ1
def tsNot (f : Envi → R Bool) : Envi → R Bool := fun ρ => (f ρ).bind fun b ρ1 => .ok (!b) ρ1
/-- a test's answer as a value -/
def eOfT (f : Envi → R Bool) : Envi → R Hd := fun ρ => (f ρ).bind fun b ρ1 => .ok (.dat (.bl b)) ρ1
def eIf (c : Envi → R Bool) (f g : Envi → R Hd) : Envi → R Hd := fun ρ => (c ρ).bind fun b ρ1 => if b = true then f ρ1 else g ρ1

/-! the promises of values' rules, by data -/
def OpS (K : PySem.W.Frag) (r : R2) (op : D → D → Option D) : Prop :=
  ∀ F H x y a b c Q, Same F H → BRep K F H x a → BRep K F H y b → op a b = some c → (∀ F' H' v, Grow F H F' H' → Rep K F' v c → Q v H') → r x y H Q
def UnS (K : PySem.W.Frag) (r : V → Hp → VK → Prop) (op : D → Option D) : Prop :=
  ∀ F H x a c Q, Same F H → BRep K F H x a → op a = some c → (∀ F' H' v, Grow F H F' H' → Rep K F' v c → Q v H') → r x H Q
/-- a built-in's answer -/
def PostB (K : PySem.W.Frag) (F H : Hp) (Q : VK) : Rf → Prop
  | .fz d => ∀ F' H' v, Grow F H F' H' → Rep K F' v d → Q v H'
  | .ow o => ∀ F' H' a ho, Grow F H F' H' → H' a = none → OwnR K F' ho o → Q (.ref a) (upd H' a ho)
  | .exc _ => False
  | .stuck => False
def CallS (K : PySem.W.Frag) (r : List V → Hp → VK → Prop) (fs : List D → Rf) : Prop :=
  ∀ F H xs ds Q, Same F H → BReps K F H xs ds → PostB K F H Q (fs ds) → r xs H Q
/-- a def's promise by a pure function -/
def PostF (K : PySem.W.Frag) (ec : Exc → Value) (F H : Hp) (Q : VK) (E : XK) : Rf → Prop
  | .fz d => ∀ F' H' v, Same F F' → Same F' H' → Same H H' → (∀ b o, F' b = some o → F b = some o ∨ H b = none ∨ ∃ vs, o = .tup vs) → Rep K F' v d → Q v H'
  | .ow o => ∀ F' H' a ho, Same F F' → Same F' H' → Same H H' → (∀ b o, F' b = some o → F b = some o ∨ H b = none ∨ ∃ vs, o = .tup vs) → H' a = some ho → F' a = none → H a = none → OwnR K F' ho o → Q (.ref a) H'
  | .exc c => ∀ H', Same H H' → E (ec c) none H'
  | .stuck => False
def spF (K : PySem.W.Frag) (ec : Exc → Value) (n : Nat) (fs : List D → Rf) : Sp := fun vs H Q E => vs.length = n ∧ ∃ F ds, Same F H ∧ Reps K F vs ds ∧ PostF K ec F H Q E (fs ds)

section
variable {P : Pr} {m : Bool} {W : WX} {te ta tb : TE} {f g : Envi → R Hd} {F H : Hp}
theorem snd_var {i : Nat} (hi : i < P.n) : SndE P m W (tVar i) (eVar i) := fun B F0 F H σ ob ρ Q w q => by
  unfold eVar at q
  cases e : ρ[i]? with
  | none => rw [e] at q; exact q.elim
  | some s =>
    rw [e] at q
    obtain ⟨al, s1, s2, s3⟩ := w.sl
    have x := s1 i s e
    have hi' : i < σ.length := by rw [w.n]; exact hi
    rw [tau_lt hi'] at x
    have e1 : ∀ u, (σ[i]?).join = some u → σ[i]? = some (some u) := fun u h => by
      rw [List.getElem?_eq_getElem hi'] at h ⊢
      rw [show σ[i] = some u from h]
    cases s with
    | un => exact q.elim
    | fz d =>
      obtain ⟨u, h1, h2⟩ := x
      exact ⟨u, e1 u h1, q B F H ob u w (Same.refl _) (fun _ => rfl) ⟨rfl, h2⟩⟩
    | ow o =>
      obtain ⟨h1, _⟩ := x
      exact ⟨_, e1 _ h1, q B F H ob _ w (Same.refl _) (fun _ => rfl) ⟨rfl, hi, e1 _ h1⟩⟩
    | self =>
      obtain ⟨p, fv, h1, h2⟩ := x
      exact ⟨_, e1 _ h2, q B F H ob _ w (Same.refl _) (fun _ => rfl) ⟨rfl, p, fv, h1, rfl⟩⟩
theorem snd_con {v : V} {d : D} (r : ∀ F, Rep P.K F v d) : SndE P m W (tC v) (eC d) := fun B F0 F H σ ob ρ Q w q => q B F H ob v w (Same.refl _) (fun _ => rfl) ⟨rfl, r F⟩
theorem snd_int {i : Int} : SndE P m W (tC (.int i)) (eC (.int i)) := snd_con fun _ => .int i
theorem snd_bl {b : Bool} : SndE P m W (tC (.bl b)) (eC (.bl b)) := snd_con fun _ => .bl b
theorem snd_str {x : Str} : SndE P m W (tC (.str x)) (eC (.str x)) := snd_con fun _ => .str x
theorem snd_non : SndE P m W (tC .non) (eC .non) := snd_con fun _ => .non
theorem snd_ty {n : String} : SndE P m W (tC (.ty n)) (eC (.ty n)) := snd_con fun _ => .ty n
theorem snd_adr {a : Addr} : SndE P m W (tC (.ref a)) (eC (.adr a)) := snd_con fun _ => .adr a
theorem snd_ktup {a : Addr} {vs : List V} {ds : List D} (h : KTup P.K (fun _ => none) a vs) (hl : vs.length ≤ sizeLine) (r : Reps P.K (fun _ => none) vs ds) : SndE P m W (tC (.ref a)) (eC (.ktup ds)) :=
  snd_con fun F => .ktup (h.mono (same_nil F)) hl (Reps.mono (same_nil F) r)
theorem snd_mat (h : SndE P m W te f) : SndE P m W te (eMat f) := fun B F0 F H σ ob ρ Q w q => by
  refine h.frz B F0 F H σ ob ρ Q w (Post.of_bind (k := fun h ρ1 => match mat ρ1 h with | some (d, ρ2) => R.ok (Hd.dat d) ρ2 | none => R.stuck) q ?_)
  rintro a ρ' B' F' H' ob' v w' s i ⟨rfl, r⟩ q
  cases e : mat ρ' a with
  | none => rw [e] at q; exact q.elim
  | some x =>
    obtain ⟨d, ρ2⟩ := x
    rw [e] at q
    obtain ⟨F2, w2, s2, r2⟩ := w'.mat r e
    exact q B' F2 H' ob' v w2 (s.trans s2) i ⟨rfl, r2⟩
theorem opt_post {B F0 : Hp} {σ : L2.St} {ob ob' : Ob} {F' H' : Hp} {ρ' : Envi} {Q : VK} {c : Option D} (w : Wf P B F0 F' H' σ ob' ρ') (s : Same F F') (i : m = false → ob' = ob)
    (q : Post P B F0 F σ ob m W (RelE P B σ) Q (opt1 ρ' c)) {r : VK → Prop} (hr : ∀ d, c = some d → (∀ F2 H2 v, Grow F' H' F2 H2 → Rep P.K F2 v d → Q v H2) → r Q) : r Q := by
  cases c with
  | none => exact q.elim
  | some d =>
    refine hr d rfl fun F2 H2 v g r2 => ?_
    obtain ⟨w2, s2⟩ := w.growN g
    exact q B F2 H2 ob' v w2 (s.trans s2) i ⟨rfl, r2⟩
theorem snd_bin0 {r : R2} {op : D → D → Option D} (ho : OpS P.K r op) (ha : SndE P m W ta f) (hb : SndE P m W tb g) (hm : m = false ∨ ∀ ρ h ρ', (f ρ).frz = .ok h ρ' → ∃ d, h = .dat d) : SndE P m W (tOp r ta tb) (eBin op f g) := fun B F0 F H σ ob ρ Q w q => by
  show ta σ H _
  have keep : ∀ h ρ', (f ρ).frz = .ok h ρ' → ∀ {F1 F2 : Hp} {ob1 ob2 : Ob} {x : V}, Same F1 F2 → (m = false → ob2 = ob1) → HR1 P F1 σ ob1 x h → HR1 P F2 σ ob2 x h := fun h ρ' e => by
    intro F1 F2 ob1 ob2 x s hob r
    rcases hm with z | z
    · exact r.mono s (hob z)
    · obtain ⟨d, rfl⟩ := z ρ h ρ' e
      exact Rep.mono s r
  refine ha.frz B F0 F H σ ob ρ _ w ?_
  dsimp only
  cases e : (f ρ).frz with
  | stuck =>
    unfold eBin at q
    rw [e] at q; exact q
  | exc c ρ' =>
    unfold eBin at q
    rw [e] at q; exact q
  | ok h ρ1 =>
    unfold eBin at q
    rw [e] at q
    have q : Post P B F0 F σ ob m W (RelE P B σ) Q ((g ρ1).frz.bind fun k ρ2 => on2 op ρ2 h k) := q
    rintro B' F1 H1 ob1 x w1 s1 i1 ⟨rfl, r1⟩
    refine hb.frz _ F0 F1 H1 σ ob1 ρ1 _ w1 (Post.of_bind (q.shift s1 i1) ?_)
    rintro k ρ2 B' F2 H2 ob2 y w2 s2 i2 ⟨rfl, r2⟩ q
    have r1' := keep h ρ1 e s2 i2 r1
    unfold on2 at q
    cases d1 : deref ρ2 h with
    | none => rw [d1] at q; exact q.elim
    | some a =>
      cases d2 : deref ρ2 k with
      | none => rw [d1, d2] at q; exact q.elim
      | some b =>
        rw [d1, d2] at q
        exact opt_post (r := fun Q => r x y H2 Q) w2 s2 i2 q fun c e hq => ho F2 H2 x y a b c Q w2.fh (w2.deref r1' d1) (w2.deref r2 d2) e hq
theorem snd_bin {r : R2} {op : D → D → Option D} (ho : OpS P.K r op) (ha : SndE P false W ta f) (hb : SndE P false W tb g) : SndE P m W (tOp r ta tb) (eBin op f g) := (snd_bin0 ho ha hb (.inl rfl)).up
theorem eMat_dat {ρ : Envi} {h : Hd} {ρ' : Envi} (e : (eMat f ρ).frz = .ok h ρ') : ∃ d, h = .dat d := by
  unfold eMat at e
  cases q : (f ρ).frz with
  | stuck => rw [q] at e; cases e
  | exc c ρ' => rw [q] at e; cases e
  | ok k ρ1 =>
    rw [q] at e
    have e : R.frz (match mat ρ1 k with | some (d, ρ2) => R.ok (.dat d) ρ2 | none => .stuck) = .ok h ρ' := e
    cases q2 : mat ρ1 k with
    | none => rw [q2] at e; cases e
    | some x =>
      obtain ⟨d, ρ2⟩ := x
      rw [q2] at e
      cases e
      exact ⟨d, rfl⟩
theorem snd_binM {r : R2} {op : D → D → Option D} (ho : OpS P.K r op) (ha : SndE P m W ta f) (hb : SndE P m W tb g) : SndE P m W (tOp r ta tb) (eBin op (eMat f) g) :=
  snd_bin0 ho (snd_mat ha) hb (.inr fun _ _ _ e => eMat_dat e)
theorem snd_un {r : V → Hp → VK → Prop} {op : D → Option D} (ho : UnS P.K r op) (ha : SndE P m W ta f) : SndE P m W (tUn r ta) (eUn op f) := fun B F0 F H σ ob ρ Q w q => by
  refine ha.frz B F0 F H σ ob ρ _ w (Post.of_bind q ?_)
  rintro k ρ2 B' F2 H2 ob2 y w2 s2 i2 ⟨rfl, r2⟩ q
  unfold on1 at q
  cases d1 : deref ρ2 k with
  | none => rw [d1] at q; exact q.elim
  | some a =>
    rw [d1] at q
    exact opt_post (r := fun Q => r y H2 Q) w2 s2 i2 q fun c e hq => ho F2 H2 y a c Q w2.fh (w2.deref r2 d1) e hq
/-! arguments -/
variable {fa : Envi → R (List Hd)} {tr : TA} {n : Nat}
theorem snd_nil : SndA P m W 0 tNil aNil := fun B F0 F H σ ob ρ Q w q => q B F H ob [] w (Same.refl _) (fun _ => rfl) ⟨⟨rfl, True.intro⟩, rfl⟩
theorem SndA.up (h : SndA P false W n tr fa) : SndA P m W n tr fa := fun B F0 F H σ ob ρ Q w q => h B F0 F H σ ob ρ Q w q.up
theorem snd_cons0 (ha : SndE P m W ta f) (hr : SndA P m W n tr fa) (hm : m = false ∨ ∀ ρ h ρ', (f ρ).frz = .ok h ρ' → ∃ d, h = .dat d) : SndA P m W (n + 1) (tCons ta tr) (aCons f fa) := fun B F0 F H σ ob ρ Q w q => by
  show ta σ H _
  have keep : ∀ h ρ', (f ρ).frz = .ok h ρ' → ∀ {F1 F2 : Hp} {ob1 ob2 : Ob} {x : V}, Same F1 F2 → (m = false → ob2 = ob1) → HR1 P F1 σ ob1 x h → HR1 P F2 σ ob2 x h := fun h ρ' e => by
    intro F1 F2 ob1 ob2 x s hob r
    rcases hm with z | z
    · exact r.mono s (hob z)
    · obtain ⟨d, rfl⟩ := z ρ h ρ' e
      exact Rep.mono s r
  refine ha.frz B F0 F H σ ob ρ _ w ?_
  dsimp only
  cases e : (f ρ).frz with
  | stuck =>
    unfold aCons at q
    rw [e] at q; exact q
  | exc c ρ' =>
    unfold aCons at q
    rw [e] at q; exact q
  | ok h ρ1 =>
    unfold aCons at q
    rw [e] at q
    have q : Post P B F0 F σ ob m W (fun B' F' ob' vs hs => RelA P B σ B' F' ob' vs hs ∧ vs.length = n + 1) Q ((fa ρ1).bind fun hs ρ2 => .ok (h :: hs) ρ2) := q
    rintro B' F1 H1 ob1 x w1 s1 i1 ⟨rfl, r1⟩
    refine hr _ F0 F1 H1 σ ob1 ρ1 _ w1 (Post.of_bind (q.shift s1 i1) ?_)
    rintro hs ρ2 B' F2 H2 ob2 ys w2 s2 i2 ⟨⟨rfl, r2⟩, hl⟩ q
    exact q _ F2 H2 ob2 (x :: ys) w2 s2 i2 ⟨⟨rfl, keep h ρ1 e s2 i2 r1, r2⟩, congrArg (· + 1) hl⟩
theorem snd_cons (ha : SndE P false W ta f) (hr : SndA P false W n tr fa) : SndA P m W (n + 1) (tCons ta tr) (aCons f fa) := (snd_cons0 ha hr (.inl rfl)).up
theorem snd_consM (ha : SndE P m W ta f) (hr : SndA P m W n tr fa) : SndA P m W (n + 1) (tCons ta tr) (aCons (eMat f) fa) := snd_cons0 (snd_mat ha) hr (.inr fun _ _ _ e => eMat_dat e)
theorem snd_one (ha : SndE P m W ta f) : SndA P m W 1 (tCons ta tNil) (aCons f aNil) := fun B F0 F H σ ob ρ Q w q => by
  refine ha.frz B F0 F H σ ob ρ _ w (Post.of_bind q ?_)
  rintro k ρ2 B' F2 H2 ob2 y w2 s2 i2 ⟨rfl, r2⟩ q
  exact q _ F2 H2 ob2 [y] w2 s2 i2 ⟨⟨rfl, r2, True.intro⟩, rfl⟩
theorem small_line {n : Nat} (h : n ≤ 1000) : n ≤ sizeLine := Nat.le_of_lt (small1000 h)
theorem snd_tup (h : SndA P m W n tr fa) (hn : n ≤ 1000 := by decide) : SndE P m W (tTup tr) (eTup fa) := fun B F0 F H σ ob ρ Q w q => by
  refine h B F0 F H σ ob ρ _ w (Post.of_bind (k := fun hs ρ1 => match matAll ρ1 hs with | some (ds, ρ2) => R.ok (Hd.dat (.tup ds)) ρ2 | none => R.stuck) q ?_)
  rintro hs ρ2 B' F2 H2 ob2 ys w2 s2 i2 ⟨⟨rfl, r2⟩, hl⟩ q
  have hl' : ys.length ≤ sizeLine := by rw [hl]; exact small_line hn
  refine ⟨hl', fun p hp => ?_⟩
  cases e : matAll ρ2 hs with
  | none => rw [e] at q; exact q.elim
  | some x =>
    obtain ⟨ds, ρ3⟩ := x
    rw [e] at q
    obtain ⟨F3, w3, s3, r3⟩ := w2.matAll r2 e
    have w4 := w3.grow (o := .tup ys) hp
    have s4 : Same F3 (upd F3 p (.tup ys)) := same_new (w3.fh.free hp)
    exact q B' _ _ ob2 _ w4 ((s2.trans s3).trans s4) i2 ⟨rfl, .tup upd_same hl' (Reps.mono s4 r3)⟩
theorem snd_lst (h : SndA P m W n tr fa) (hn : n ≤ 1000 := by decide) : SndE P m W (tLst tr) (eLst fa) := fun B F0 F H σ ob ρ Q w q => by
  refine h B F0 F H σ ob ρ _ w (Post.of_bind (k := fun hs ρ1 => match matAll ρ1 hs with | some (ds, ρ2) => R.ok (Hd.tm (.li ds)) ρ2 | none => R.stuck) q ?_)
  rintro hs ρ2 B' F2 H2 ob2 ys w2 s2 i2 ⟨⟨rfl, r2⟩, hl⟩ q
  have hl' : ys.length ≤ sizeLine := by rw [hl]; exact small_line hn
  refine ⟨hl', fun p hp => ?_⟩
  cases e : matAll ρ2 hs with
  | none => rw [e] at q; exact q.elim
  | some x =>
    obtain ⟨ds, ρ3⟩ := x
    rw [e] at q
    obtain ⟨F3, w3, s3, r3⟩ := w2.matAll r2 e
    exact q (upd B' p (.lst ys)) F3 _ ob2 _ (w3.tmp hp) (s2.trans s3) i2 ⟨p, _, rfl, rfl, w3.bh.free hp, w3.fh.free hp, ys, rfl, hl', r3⟩
/-! calls -/
theorem Wf.call {B F0 : Hp} {σ : L2.St} {ob : Ob} {ρ : Envi} {F' H' : Hp} (w : Wf P B F0 F H σ ob ρ) (h1 : Same F F') (h2 : Same F' H') (h3 : Same H H') (h4 : ∀ b o, F' b = some o → F b = some o ∨ H b = none ∨ ∃ vs, o = .tup vs) : Wf P B F0 F' H' σ ob ρ := by
  obtain ⟨fh, bh, ff, nw, n, len, ⟨al, s1, s2, s3⟩, hob⟩ := w
  have out : ∀ {a : Addr} {u : HO}, H a = some u → (∀ vs, u ≠ .tup vs) → F a = none → F' a = none := fun {a u} ha hu hf => by
    cases e : F' a with
    | none => rfl
    | some o =>
      rcases h4 a o e with z | z | ⟨vs, rfl⟩
      · rw [hf] at z; cases z
      · rw [ha] at z; cases z
      · have q := h2 _ _ e
        rw [h3 _ _ ha] at q
        exact absurd (Option.some.inj q) (hu vs)
  refine ⟨h2, bh.trans h3, ff.trans h1, fun b o e => ?_, n, len, ⟨al, fun i s h => (s1 i s h).imp h1 fun ho _ e => h3 _ _ e, fun i s h hs => ?_, s3⟩, fun q fv e => ?_⟩
  · rcases h4 b o e with z | z
    · exact nw b o z
    · exact .inr (z.imp_left bh.free)
  · obtain ⟨z, e, _, hz⟩ := (s1 i s h).there hs
    exact ⟨out e hz (s2 i s h hs).1, (s2 i s h hs).2⟩
  · have x := hob q fv e
    obtain ⟨dx, fs, ei⟩ := x.ins
    exact x.keep (fun z => out ei (fun _ => nofun) z) (fun z => z) fun u hu => h3 _ _ hu
theorem Wf.callOw {B F0 : Hp} {σ : L2.St} {ob : Ob} {ρ : Envi} {F' H' : Hp} {a : Addr} {ho : HO} (w : Wf P B F0 F H σ ob ρ) (h1 : Same F F') (h2 : Same F' H') (h3 : Same H H') (h4 : ∀ b o, F' b = some o → F b = some o ∨ H b = none ∨ ∃ vs, o = .tup vs) (ha : H' a = some ho) (fa : F' a = none) (na : H a = none) :
    Wf P (upd B a ho) F0 F' H' σ ob ρ := by
  have w' := w.call h1 h2 h3 h4
  have ba : B a = none := w.bh.free na
  have f0 : F a = none := w.fh.free na
  obtain ⟨fh, bh, ff, nw, n, len, ⟨al, s1, s2, s3⟩, hob⟩ := w
  have out : ∀ {a : Addr} {u : HO}, H a = some u → (∀ vs, u ≠ .tup vs) → F a = none → F' a = none := fun {a u} ha hu hf => by
    cases e : F' a with
    | none => rfl
    | some o =>
      rcases h4 a o e with z | z | ⟨vs, rfl⟩
      · rw [hf] at z; cases z
      · rw [ha] at z; cases z
      · have q := h2 _ _ e
        rw [h3 _ _ ha] at q
        exact absurd (Option.some.inj q) (hu vs)
  refine ⟨h2, fun b o e => ?_, ff.trans h1, fun b o e => ?_, n, len, ⟨al, fun i s h => (s1 i s h).imp h1 fun ho _ e => h3 _ _ e, fun i s h hs => ?_, s3⟩, fun q fv e => ?_⟩
  · by_cases hb : b = a
    · subst hb; rw [upd_same] at e; rw [← e]; exact ha
    · rw [upd_ne hb] at e; exact h3 _ _ (bh _ _ e)
  · have hb : b ≠ a := ne_of_none e fa
    rw [upd_ne hb]
    rcases h4 b o e with z | z
    · exact nw b o z
    · exact .inr (z.imp_left bh.free)
  · obtain ⟨z, e, _, hz⟩ := (s1 i s h).there hs
    rw [upd_ne (ne_of_none e na)]
    exact ⟨out e hz (s2 i s h hs).1, (s2 i s h hs).2⟩
  · have x := hob q fv e
    obtain ⟨dx, fs, ei⟩ := x.ins
    exact x.keep (fun z => out ei (fun _ => nofun) z) (fun z => by rw [upd_ne (ne_of_none ei na)]; exact z) fun u hu => h3 _ _ hu
theorem snd_call {fs : List D → Rf} (h : SndA P m W n tr fa) : SndE P m W (tCallS (spF P.K P.ec n fs) (WE W) tr) (eCall fs fa) := fun B F0 F H σ ob ρ Q w q => by
  refine h B F0 F H σ ob ρ _ w (Post.of_bind (k := fun hs ρ1 => match matAll ρ1 hs with | some (ds, ρ2) => ofRf ρ2 (fs ds) | none => .stuck) q ?_)
  rintro hs ρ2 B' F2 H2 ob2 ys w2 s2 i2 ⟨⟨rfl, r2⟩, hl⟩ q
  refine ⟨hl, ?_⟩
  cases e : matAll ρ2 hs with
  | none => rw [e] at q; exact q.elim
  | some x =>
    obtain ⟨ds, ρ3⟩ := x
    rw [e] at q
    obtain ⟨F3, w3, s3, r3⟩ := w2.matAll r2 e
    refine ⟨F3, ds, w3.fh, r3, ?_⟩
    have q : Post P B' F0 F σ ob m W (RelE P B' σ) Q (ofRf ρ3 (fs ds)) := q
    cases e2 : fs ds with
    | stuck => rw [e2] at q; exact q
    | exc c =>
      rw [e2] at q
      intro H' s
      exact q F3 H' ob2 (w3.call (Same.refl _) (w3.fh.trans s) s fun b o z => .inl z) (s2.trans s3)
    | fz d =>
      rw [e2] at q
      intro F' H' v h1 h2 h3 h4 r
      exact q B' F' H' ob2 v (w3.call h1 h2 h3 h4) ((s2.trans s3).trans h1) i2 ⟨rfl, r⟩
    | ow o =>
      rw [e2] at q
      intro F' H' a ho h1 h2 h3 h4 ha fa na r
      exact q (upd B' a ho) F' H' ob2 _ (w3.callOw h1 h2 h3 h4 ha fa na) ((s2.trans s3).trans h1) i2 ⟨a, ho, rfl, rfl, w3.bh.free na, fa, r⟩
theorem ofRf_post {B F0 : Hp} {σ : L2.St} {ob ob' : Ob} {F' H' : Hp} {ρ' : Envi} {Q : VK} {c : Rf} (hx : ∀ e, c ≠ .exc e) (w : Wf P B F0 F' H' σ ob' ρ') (s : Same F F') (i : m = false → ob' = ob)
    (q : Post P B F0 F σ ob m W (RelE P B σ) Q (ofRf ρ' c)) : PostB P.K F' H' Q c := by
  cases c with
  | stuck => exact q
  | exc c => exact absurd rfl (hx c)
  | fz d =>
    intro F2 H2 v g r
    obtain ⟨w2, s2⟩ := w.growN g
    exact q B F2 H2 ob' v w2 (s.trans s2) i ⟨rfl, r⟩
  | ow o =>
    intro F2 H2 a ho g ha r
    obtain ⟨w2, s2⟩ := w.growN g
    exact q (upd B a ho) F2 (upd H2 a ho) ob' _ (w2.tmp ha) (s.trans s2) i ⟨a, ho, rfl, rfl, w2.bh.free ha, w2.fh.free ha, r⟩
theorem snd_cb {fs : List D → Rf} {r : List V → Hp → VK → Prop} (hc : CallS P.K r fs) (hx : ∀ ds e, fs ds ≠ .exc e) (h : SndA P m W n tr fa) : SndE P m W (tCB r tr) (eCB fs fa) := fun B F0 F H σ ob ρ Q w q => by
  refine h B F0 F H σ ob ρ _ w (Post.of_bind (k := fun hs ρ1 => match derefAll ρ1 hs with | some ds => ofRf ρ1 (fs ds) | none => .stuck) q ?_)
  rintro hs ρ2 B' F2 H2 ob2 ys w2 s2 i2 ⟨⟨rfl, r2⟩, hl⟩ q
  cases e : derefAll ρ2 hs with
  | none => rw [e] at q; exact q.elim
  | some ds =>
    rw [e] at q
    exact hc F2 H2 ys ds Q w2.fh (w2.derefAll r2 e) (ofRf_post (hx ds) w2 s2 i2 q)
/-! tests -/
variable {tt tu : TT} {ft fu : Envi → R Bool}
theorem BRep.bl {K : PySem.W.Frag} {v : V} {b : Bool} (h : BRep K F H v (.bl b)) : v = .bl b := by
  rcases h with h | ⟨a, ho, o, _, _, _, e⟩
  · cases h; rfl
  · cases o <;> cases e
theorem snd_ts (h : SndE P m W te f) : SndT P m W (tTest te) (tsE f) := fun B F0 F H σ ob ρ Q w q => by
  refine h.frz B F0 F H σ ob ρ _ w (Post.of_bind q ?_)
  rintro k ρ2 B' F2 H2 ob2 y w2 s2 i2 ⟨rfl, r2⟩ q
  cases e : deref ρ2 k with
  | none => rw [e] at q; exact q.elim
  | some d =>
    rw [e] at q
    have x := w2.deref r2 e
    cases d with
    | bl b => exact ⟨b, x.bl, q B' F2 H2 ob2 b w2 s2 i2 ⟨rfl, rfl⟩⟩
    | _ => exact q.elim
theorem snd_tand (h1 : SndT P m W tt ft) (h2 : SndT P m W tu fu) : SndT P m W (tAnd tt tu) (tsAnd ft fu) := fun B F0 F H σ ob ρ Q w q => by
  refine h1 B F0 F H σ ob ρ _ w (Post.of_bind q ?_)
  rintro k ρ2 B' F2 H2 ob2 y w2 s2 i2 ⟨rfl, rfl⟩ q
  cases y with
  | true => exact h2 _ F0 F2 H2 σ ob2 ρ2 Q w2 (q.shift s2 i2)
  | false => exact q _ F2 H2 ob2 false w2 s2 i2 ⟨rfl, rfl⟩
theorem snd_tor (h1 : SndT P m W tt ft) (h2 : SndT P m W tu fu) : SndT P m W (tOr tt tu) (tsOr ft fu) := fun B F0 F H σ ob ρ Q w q => by
  refine h1 B F0 F H σ ob ρ _ w (Post.of_bind q ?_)
  rintro k ρ2 B' F2 H2 ob2 y w2 s2 i2 ⟨rfl, rfl⟩ q
  cases y with
  | false => exact h2 _ F0 F2 H2 σ ob2 ρ2 Q w2 (q.shift s2 i2)
  | true => exact q _ F2 H2 ob2 true w2 s2 i2 ⟨rfl, rfl⟩
theorem snd_tnot (h1 : SndT P m W tt ft) : SndT P m W (tNot tt) (tsNot ft) := fun B F0 F H σ ob ρ Q w q => by
  refine h1 B F0 F H σ ob ρ _ w (Post.of_bind q ?_)
  rintro k ρ2 B' F2 H2 ob2 y w2 s2 i2 ⟨rfl, rfl⟩ q
  exact q _ F2 H2 ob2 (!y) w2 s2 i2 ⟨rfl, rfl⟩
/-- and, or, not as values of bools -/
theorem snd_andV (h1 : SndE P m W ta f) (h2 : SndE P m W tb g) : SndE P m W (tAndV ta tb) (eIf (tsE f) g (eC (.bl false))) := fun B F0 F H σ ob ρ Q w q => by
  show ta σ H _
  have z : tTest ta σ H (fun c H1 => if c = true then tb σ H1 Q else Q (.bl false) H1) := by
    refine snd_ts h1 B F0 F H σ ob ρ _ w (Post.of_bind q ?_)
    rintro k ρ2 B' F2 H2 ob2 y w2 s2 i2 ⟨rfl, rfl⟩ q
    cases y with
    | true => exact h2 _ F0 F2 H2 σ ob2 ρ2 Q w2 (q.shift s2 i2)
    | false => exact q _ F2 H2 ob2 _ w2 s2 i2 ⟨rfl, .bl false⟩
  exact z
theorem snd_orV (h1 : SndE P m W ta f) (h2 : SndE P m W tb g) : SndE P m W (tOrV ta tb) (eIf (tsE f) (eC (.bl true)) g) := fun B F0 F H σ ob ρ Q w q => by
  show ta σ H _
  have z : tTest ta σ H (fun c H1 => if c = true then Q (.bl true) H1 else tb σ H1 Q) := by
    refine snd_ts h1 B F0 F H σ ob ρ _ w (Post.of_bind q ?_)
    rintro k ρ2 B' F2 H2 ob2 y w2 s2 i2 ⟨rfl, rfl⟩ q
    cases y with
    | false => exact h2 _ F0 F2 H2 σ ob2 ρ2 Q w2 (q.shift s2 i2)
    | true => exact q _ F2 H2 ob2 _ w2 s2 i2 ⟨rfl, .bl true⟩
  exact z
theorem snd_notV (h1 : SndE P m W ta f) : SndE P m W (tNotV ta) (eOfT (tsNot (tsE f))) := fun B F0 F H σ ob ρ Q w q => by
  show ta σ H _
  have z : tTest ta σ H (fun c H1 => Q (.bl (!c)) H1) := by
    refine snd_ts h1 B F0 F H σ ob ρ _ w ?_
    unfold eOfT tsNot at q
    cases e : tsE f ρ with
    | stuck => rw [e] at q; exact q
    | exc c ρ' => rw [e] at q; exact q
    | ok b ρ' =>
      rw [e] at q
      rintro B' F2 H2 ob2 y w2 s2 i2 ⟨rfl, rfl⟩
      exact q _ F2 H2 ob2 (.bl (!y)) w2 s2 i2 ⟨rfl, .bl _⟩
  exact z
theorem snd_ifE (hc : SndT P m W tt ft) (h1 : SndE P m W ta f) (h2 : SndE P m W tb g) : SndE P m W (tIf tt ta tb) (eIf ft f g) := fun B F0 F H σ ob ρ Q w q => by
  refine hc B F0 F H σ ob ρ _ w (Post.of_bind q ?_)
  rintro k ρ2 B' F2 H2 ob2 y w2 s2 i2 ⟨rfl, rfl⟩ q
  cases y with
  | true => exact h1 _ F0 F2 H2 σ ob2 ρ2 Q w2 (q.shift s2 i2)
  | false => exact h2 _ F0 F2 H2 σ ob2 ρ2 Q w2 (q.shift s2 i2)
end
end Pv

set_option Elab.async false
set_option linter.all false
set_option maxRecDepth 100000
namespace Pv
open PySem PySem.Spec PyProof.Rows L2
/-! statements: the pure functions -/
inductive Rv where
  | fz (d : D) | ow (o : Own)
inductive Fl where
  | nx (ρ : Envi) | ret (v : Rv) (ρ : Envi) | bk (ρ : Envi) | ct (ρ : Envi) | exc (c : Exc) (ρ : Envi) | stuck
def R.toFl {α : Type} (r : R α) (k : α → Envi → Fl) : Fl :=
  match r with
  | .ok a ρ => k a ρ
  | .exc c ρ => .exc c ρ
  | .stuck => .stuck
abbrev Sem := Envi → Fl
def sNext : Sem := fun ρ => .nx ρ
def sSeq (g h : Sem) : Sem := fun ρ => match g ρ with
  | .nx ρ1 => h ρ1
  | r => r
def sIf (c : Envi → R Bool) (g h : Sem) : Sem := fun ρ => (c ρ).toFl fun b ρ1 => if b = true then g ρ1 else h ρ1
def retH (ρ : Envi) : Hd → Fl
  | .tm o => .ret (.ow o) ρ
  | h => match mat ρ h with
    | some (d, ρ2) => .ret (.fz d) ρ2
    | none => .stuck
def sRet (f : Envi → R Hd) : Sem := fun ρ => (f ρ).toFl fun h ρ1 => retH ρ1 h
def sRetN : Sem := fun ρ => .ret (.fz .non) ρ
def sDrop (f : Envi → R Hd) : Sem := fun ρ => (f ρ).frz.toFl fun _ ρ1 => .nx ρ1
def setH (i : Nat) (ρ : Envi) : Hd → Fl
  | .tm o => .nx (ρ.set i (.ow o))
  | .obj => .nx (ρ.set i .self)
  | h => match mat ρ h with
    | some (d, ρ2) => .nx (ρ2.set i (.fz d))
    | none => .stuck
def sSet (i : Nat) (f : Envi → R Hd) : Sem := fun ρ => (f ρ).toFl fun h ρ1 => setH i ρ1 h
def sRaise (c : Exc) : Sem := fun ρ => .exc c ρ
def sBreak : Sem := fun ρ => .bk ρ
def sCont : Sem := fun ρ => .ct ρ
abbrev Bnd := D → Envi → Option Envi
def bN (i : Nat) : Bnd := fun d ρ => some (ρ.set i (.fz d))
abbrev Bnds := List D → Envi → Option Envi
def bsNil : Bnds := fun ds ρ => match ds with
  | [] => some ρ
  | _ => none
def bsCons (b : Bnd) (bs : Bnds) : Bnds := fun ds ρ => match ds with
  | d :: r => match b d ρ with
    | some ρ1 => bs r ρ1
    | none => none
  | [] => none
def bT (n : Nat) (bs : Bnds) : Bnd := fun d ρ => match d with
  | .tup ds => if ds.length = n then bs ds ρ else none
  | .ktup ds => if ds.length = n then bs ds ρ else none
  | _ => none
def bL (n : Nat) (bs : Bnds) : Bnd := fun d ρ => match d with
  | .lst ds => if ds.length = n then bs ds ρ else none
  | _ => none
def bindFl (b : Bnd) (h : Hd) (ρ : Envi) (k : Envi → Fl) : Fl := match h with
  | .dat d => match b d ρ with
    | some ρ1 => k ρ1
    | none => .stuck
  | _ => .stuck
def sAsg (f : Envi → R Hd) (b : Bnd) : Sem := fun ρ => (eMat f ρ).toFl fun h ρ1 => bindFl b h ρ1 .nx
/-- a for over given items -/
def runFor (b : Bnd) (g : Sem) : List D → Envi → Fl
  | [], ρ => .nx ρ
  | d :: ds, ρ => match b d ρ with
    | none => .stuck
    | some ρ1 => match g ρ1 with
      | .nx ρ2 => runFor b g ds ρ2
      | .ct ρ2 => runFor b g ds ρ2
      | .bk ρ2 => .nx ρ2
      | r => r
def sFor (it : Envi → R (List D)) (b : Bnd) (g : Sem) : Sem := fun ρ => (it ρ).toFl fun ds ρ1 => runFor b g ds ρ1
/-- a while, by so many turns -/
def runW (c : Envi → R Bool) (g : Sem) : Nat → Envi → Fl
  | 0, _ => .stuck
  | n + 1, ρ => (c ρ).toFl fun b ρ1 => if b = true then (match g ρ1 with
      | .nx ρ2 => runW c g n ρ2
      | .ct ρ2 => runW c g n ρ2
      | .bk ρ2 => .nx ρ2
      | r => r) else .nx ρ1
open Classical in
noncomputable def sWhile (c : Envi → R Bool) (g : Sem) : Sem := fun ρ => if h : ∃ n, runW c g n ρ ≠ .stuck then runW c g h.choose ρ else .stuck

def RetR (P : Pr) (B B' F : Hp) (u : V) : Rv → Prop
  | .fz d => B' = B ∧ Rep P.K F u d
  | .ow o => ∃ a ho, u = .ref a ∧ B' = upd B a ho ∧ B a = none ∧ F a = none ∧ OwnR P.K F ho o
def PostS (P : Pr) (B F0 F : Hp) (W : WX) (D : Ends) : Fl → Prop
  | .nx ρ' => ∀ F' H' σ' ob', Wf P B F0 F' H' σ' ob' ρ' → Same F F' → D.nx σ' H'
  | .bk ρ' => ∀ F' H' σ' ob', Wf P B F0 F' H' σ' ob' ρ' → Same F F' → D.bk σ' H'
  | .ct ρ' => ∀ F' H' σ' ob', Wf P B F0 F' H' σ' ob' ρ' → Same F F' → D.ct σ' H'
  | .ret v ρ' => ∀ B' F' H' σ' ob' u, Wf P B' F0 F' H' σ' ob' ρ' → Same F F' → RetR P B B' F' u v → D.rt u H'
  | .exc c ρ' => ∀ F' H' σ' ob', Wf P B F0 F' H' σ' ob' ρ' → Same F F' → W (P.ec c) none σ' H'
  | .stuck => False
def SndS (P : Pr) (W : WX) (ts : TS) (g : Sem) : Prop :=
  ∀ B F0 F H σ ob ρ D, Wf P B F0 F H σ ob ρ → PostS P B F0 F W D (g ρ) → ts D σ H
def SndG (P : Pr) (us : List Nat) (tg : TG) (b : Bnd) : Prop :=
  ∀ B F0 F H σ ob ρ v d ρ' Q, Wf P B F0 F H σ ob ρ → Rep P.K F v d → b d ρ = some ρ' → (∀ σ', Wf P B F0 F H σ' ob ρ' → (∀ vs, (∀ u ∈ us, u ∈ vs) → wipe σ' vs = wipe σ vs) → Q σ' H) → tg v σ H Q
def SndGs (P : Pr) (us : List Nat) (tg : TGs) (b : Bnds) : Prop :=
  ∀ B F0 F H σ ob ρ vs ds ρ' Q, Wf P B F0 F H σ ob ρ → Reps P.K F vs ds → b ds ρ = some ρ' → (∀ σ', Wf P B F0 F H σ' ob ρ' → (∀ vs, (∀ u ∈ us, u ∈ vs) → wipe σ' vs = wipe σ vs) → Q σ' H) → tg vs σ H Q
/-- an iterator that will yield these -/
def ItOk (K : PySem.W.Frag) (J : It) (F : Hp) (ds : List D) : Prop :=
  ∀ F2 H2, Same F F2 → Same F2 H2 → (∀ i d, ds[i]? = some d → J.go i H2 ∧ ∀ x H3, J.yld i H2 x H3 → ∃ F3, Grow F2 H2 F3 H3 ∧ Rep K F3 x d) ∧ (∀ i, ds.length ≤ i → J.stop i H2)
def SndI (P : Pr) (m : Bool) (W : WX) (ti : TI) (f : Envi → R (List D)) : Prop :=
  ∀ B F0 F H σ ob ρ Q, Wf P B F0 F H σ ob ρ → Post P B F0 F σ ob m W (fun B' F' _ J ds => B' = B ∧ ItOk P.K J F' ds ∧ ds.length ≤ sizeLine) Q (f ρ) → ti σ H Q

section
variable {P : Pr} {m : Bool} {W : WX} {te ta tb : TE} {f : Envi → R Hd} {B F0 F H : Hp} {D : Ends} {ts tu : TS} {g h : Sem}
theorem PostS.shift {F1 : Hp} (e : Same F F1) : ∀ {r : Fl}, PostS P B F0 F W D r → PostS P B F0 F1 W D r
  | .nx _, h => fun F' H' σ' ob' w s => h F' H' σ' ob' w (e.trans s)
  | .bk _, h => fun F' H' σ' ob' w s => h F' H' σ' ob' w (e.trans s)
  | .ct _, h => fun F' H' σ' ob' w s => h F' H' σ' ob' w (e.trans s)
  | .ret _ _, h => fun B' F' H' σ' ob' u w s r => h B' F' H' σ' ob' u w (e.trans s) r
  | .exc _ _, h => fun F' H' σ' ob' w s => h F' H' σ' ob' w (e.trans s)
  | .stuck, h => h
theorem Post.of_toFl {α β : Type} {m' : Bool} {σ : L2.St} {ob : Ob} {Rel : Hp → Hp → Ob → β → α → Prop} {Q : β → Hp → Prop} {k : α → Envi → Fl} {r : R α} {H : Hp} {ρ : Envi} (h : PostS P B F0 F W D (r.toFl k))
    (step : ∀ a ρ' B' F' H' ob' v, Wf P B' F0 F' H' σ ob' ρ' → Same F F' → (m' = false → ob' = ob) → Rel B' F' ob' v a → PostS P B F0 F W D (k a ρ') → Q v H') : Post P B F0 F σ ob m' W Rel Q r := by
  cases r with
  | ok a ρ' => exact fun B' F' H' ob' v w s i r => step a ρ' B' F' H' ob' v w s i r h
  | exc c ρ' => exact fun F' H' ob' w s => h F' H' σ ob' w s
  | stuck => exact h
theorem snd_next : SndS P W tNext sNext := fun B F0 F H σ ob ρ D w q => q F H σ ob w (Same.refl _)
theorem snd_seq (h1 : SndS P W ts g) (h2 : SndS P W tu h) : SndS P W (tSeq ts tu) (sSeq g h) := fun B F0 F H σ ob ρ D w q => by
  refine h1 B F0 F H σ ob ρ _ w ?_
  unfold sSeq at q
  cases e : g ρ with
  | nx ρ' =>
    rw [e] at q
    intro F' H' σ' ob' w' s
    exact h2 B F0 F' H' σ' ob' ρ' D w' (q.shift s)
  | ret v ρ' => rw [e] at q; exact q
  | bk ρ' => rw [e] at q; exact q
  | ct ρ' => rw [e] at q; exact q
  | exc c ρ' => rw [e] at q; exact q
  | stuck => rw [e] at q; exact q
theorem snd_if {tt : TT} {c : Envi → R Bool} (hc : SndT P true W tt c) (h1 : SndS P W ts g) (h2 : SndS P W tu h) : SndS P W (tIfS tt ts tu) (sIf c g h) := fun B F0 F H σ ob ρ D w q => by
  refine hc B F0 F H σ ob ρ _ w (Post.of_toFl (H := H) (ρ := ρ) q ?_)
  rintro b ρ' B' F' H' ob' v w' s i ⟨rfl, rfl⟩ q
  cases v with
  | true => exact h1 _ F0 F' H' σ ob' ρ' D w' (q.shift s)
  | false => exact h2 _ F0 F' H' σ ob' ρ' D w' (q.shift s)
theorem mat_post {σ : L2.St} {ob : Ob} {ρ : Envi} {v : V} {a : Hd} {kk : Option (Pv.D × Envi) → Fl} (w : Wf P B F0 F H σ ob ρ) (r : HR1 P F σ ob v a) (q : PostS P B F0 F W D (kk (mat ρ a))) (hs : kk none = .stuck) :
    ∃ d ρ2 F2, mat ρ a = some (d, ρ2) ∧ Wf P B F0 F2 H σ ob ρ2 ∧ Same F F2 ∧ Rep P.K F2 v d ∧ PostS P B F0 F2 W D (kk (some (d, ρ2))) := by
  cases e : mat ρ a with
  | none => rw [e, hs] at q; exact q.elim
  | some x =>
    obtain ⟨d, ρ2⟩ := x
    rw [e] at q
    obtain ⟨F2, w2, s2, r2⟩ := w.mat r e
    exact ⟨d, ρ2, F2, rfl, w2, s2, r2, q.shift s2⟩
theorem snd_ret (h : SndE P m W te f) : SndS P W (tRet te) (sRet f) := fun B F0 F H σ ob ρ D w q => by
  refine h B F0 F H σ ob ρ _ w (Post.of_toFl (H := H) (ρ := ρ) q ?_)
  intro a ρ' B' F' H' ob' v w' s i r q
  cases a with
  | tm o => exact q B' F' H' σ ob' v w' s r
  | dat d =>
    obtain ⟨rfl, r⟩ := r
    exact q _ F' H' σ ob' v w' s ⟨rfl, r⟩
  | pl j =>
    obtain ⟨rfl, r⟩ := r
    obtain ⟨d, ρ2, F2, e, w2, s2, r2, q2⟩ := mat_post (kk := fun x => match x with | some (d, ρ2) => .ret (.fz d) ρ2 | none => .stuck) w' r (q.shift s) rfl
    exact q2 _ F2 H' σ ob' v w2 (Same.refl _) ⟨rfl, r2⟩
  | fl j =>
    obtain ⟨rfl, r⟩ := r
    obtain ⟨d, ρ2, F2, e, w2, s2, r2, q2⟩ := mat_post (kk := fun x => match x with | some (d, ρ2) => .ret (.fz d) ρ2 | none => .stuck) w' r (q.shift s) rfl
    exact q2 _ F2 H' σ ob' v w2 (Same.refl _) ⟨rfl, r2⟩
  | obj => exact q.elim
theorem snd_retN : SndS P W tRetN sRetN := fun B F0 F H σ ob ρ D w q => q B F H σ ob _ w (Same.refl _) ⟨rfl, .non⟩
theorem snd_drop (h : SndE P m W te f) : SndS P W (tDrop te) (sDrop f) := fun B F0 F H σ ob ρ D w q => by
  refine h.frz B F0 F H σ ob ρ _ w (Post.of_toFl (H := H) (ρ := ρ) q ?_)
  rintro a ρ' B' F' H' ob' v w' s i ⟨rfl, r⟩ q
  exact q F' H' σ ob' w' s
theorem snd_set {i : Nat} (hi : i < P.n) (h : SndE P m W te f) : SndS P W (tAsg te (gName i)) (sSet i f) := fun B F0 F H σ ob ρ D w q => by
  refine h B F0 F H σ ob ρ _ w (Post.of_toFl (H := H) (ρ := ρ) q ?_)
  intro a ρ' B' F' H' ob' v w' s i' r q
  show D.nx (σ.set i (some v)) H'
  cases a with
  | tm o =>
    obtain ⟨a, ho, rfl, rfl, e3, e4, e5⟩ := r
    exact q F' H' _ ob' (w'.setOw hi e4 e3 e5) s
  | dat d =>
    obtain ⟨rfl, r⟩ := r
    exact q F' H' _ ob' (w'.set hi rfl fun _ => ⟨v, rfl, r⟩) s
  | pl j =>
    obtain ⟨rfl, r⟩ := r
    obtain ⟨d, ρ2, F2, e, w2, s2, r2, q2⟩ := mat_post (kk := fun x => match x with | some (d, ρ2) => .nx (ρ2.set i (.fz d)) | none => .stuck) w' r (q.shift s) rfl
    exact q2 F2 H' _ ob' (w2.set hi rfl fun _ => ⟨v, rfl, r2⟩) (Same.refl _)
  | fl j =>
    obtain ⟨rfl, r⟩ := r
    obtain ⟨d, ρ2, F2, e, w2, s2, r2, q2⟩ := mat_post (kk := fun x => match x with | some (d, ρ2) => .nx (ρ2.set i (.fz d)) | none => .stuck) w' r (q.shift s) rfl
    exact q2 F2 H' _ ob' (w2.set hi rfl fun _ => ⟨v, rfl, r2⟩) (Same.refl _)
  | obj =>
    obtain ⟨rfl, p, fv, e1, e2⟩ := r
    exact q F' H' _ ob' (w'.set hi rfl fun _ => ⟨p, fv, e1, by rw [e2]⟩) s
/-! targets -/
theorem wipe_set {σ : L2.St} {i : Nat} {v : Option V} : ∀ {vs : List Nat}, i ∈ vs → wipe (σ.set i v) vs = wipe σ vs
  | [], h => nomatch h
  | u :: vs, h => by
    unfold wipe
    by_cases hm : i ∈ vs
    · rw [wipe_set hm]
    · have e : i = u := by
        rcases List.mem_cons.mp h with e | e
        · exact e
        · exact absurd e hm
      subst e
      have key : ∀ (vs : List Nat), i ∉ vs → wipe (σ.set i v) vs = (wipe σ vs).set i v := by
        intro vs
        induction vs with
        | nil => intro _; rfl
        | cons u vs ih =>
          intro hn
          unfold wipe
          rw [ih (fun z => hn (List.mem_cons_of_mem _ z)), List.set_comm _ _ (fun z => hn (by rw [z]; exact List.mem_cons_self))]
      rw [key vs hm, List.set_set]
theorem sg_name {i : Nat} (hi : i < P.n) : SndG P [i] (gName i) (bN i) := fun B F0 F H σ ob ρ v d ρ' Q w r e q => by
  cases e
  exact q _ (w.set hi rfl fun _ => ⟨v, rfl, r⟩) fun vs h => wipe_set (h i List.mem_cons_self)
theorem sgs_nil : SndGs P [] gNil bsNil := fun B F0 F H σ ob ρ vs ds ρ' Q w r e q => by
  cases ds with
  | nil =>
    cases e
    cases r
    exact ⟨rfl, q _ w fun _ _ => rfl⟩
  | cons d r => cases e
theorem sgs_cons {us us' : List Nat} {tg : TG} {tgs : TGs} {b : Bnd} {bs : Bnds} (h1 : SndG P us tg b) (h2 : SndGs P us' tgs bs) : SndGs P (us ++ us') (gCons tg tgs) (bsCons b bs) := fun B F0 F H σ ob ρ vs ds ρ' Q w r e q => by
  cases ds with
  | nil => cases e
  | cons d dr =>
    cases r with
    | @cons v vs _ _ r1 r2 =>
      unfold bsCons at e
      dsimp only at e
      cases e1 : b d ρ with
      | none => rw [e1] at e; cases e
      | some ρ1 =>
        rw [e1] at e
        exact ⟨_, _, rfl, h1 B F0 F H σ ob ρ v d ρ1 _ w r1 e1 fun σ' w' e1 => h2 B F0 F H σ' ob ρ1 vs dr ρ' Q w' r2 e fun σ2 w2 e2 => q σ2 w2 fun vs hv =>
          (e2 vs fun u hu => hv u (List.mem_append_right _ hu)).trans (e1 vs fun u hu => hv u (List.mem_append_left _ hu))⟩
theorem sg_tup {us : List Nat} {n : Nat} {tgs : TGs} {bs : Bnds} (h : SndGs P us tgs bs) : SndG P us (gTup P.K n tgs) (bT n bs) := fun B F0 F H σ ob ρ v d ρ' Q w r e q => by
  cases r with
  | @tup a vs ds h1 h2 h3 =>
    have e : (if ds.length = n then bs ds ρ else none) = some ρ' := e
    split at e
    · rename_i hl
      exact ⟨a, vs, rfl, .inl (.inl (w.fh _ _ h1)), h3.length.trans hl, h B F0 F H σ ob ρ vs ds ρ' Q w h3 e q⟩
    · cases e
  | @ktup a vs ds h1 h2 h3 =>
    have e : (if ds.length = n then bs ds ρ else none) = some ρ' := e
    split at e
    · rename_i hl
      exact ⟨a, vs, rfl, same_sqt w.fh h1.sqt, h3.length.trans hl, h B F0 F H σ ob ρ vs ds ρ' Q w h3 e q⟩
    · cases e
  | _ => cases e
theorem sg_lst {us : List Nat} {n : Nat} {tgs : TGs} {bs : Bnds} (h : SndGs P us tgs bs) : SndG P us (gLst P.K n tgs) (bL n bs) := fun B F0 F H σ ob ρ v d ρ' Q w r e q => by
  cases r with
  | @lst a vs ds h1 h2 h3 =>
    have e : (if ds.length = n then bs ds ρ else none) = some ρ' := e
    split at e
    · rename_i hl
      exact ⟨a, vs, rfl, .inl (.inl (w.fh _ _ h1)), h3.length.trans hl, h B F0 F H σ ob ρ vs ds ρ' Q w h3 e q⟩
    · cases e
  | _ => cases e
theorem snd_asg {us : List Nat} {tg : TG} {b : Bnd} (h : SndE P m W te f) (hg : SndG P us tg b) : SndS P W (tAsg te tg) (sAsg f b) := fun B F0 F H σ ob ρ D w q => by
  refine snd_mat h B F0 F H σ ob ρ _ w (Post.of_toFl (H := H) (ρ := ρ) q ?_)
  intro a ρ' B' F' H' ob' v w' s i' r q
  cases a with
  | dat d =>
    obtain ⟨rfl, r⟩ := r
    have q : PostS P B' F0 F W D (match b d ρ' with | some ρ1 => .nx ρ1 | none => .stuck) := q
    cases e : b d ρ' with
    | none => rw [e] at q; exact q.elim
    | some ρ1 =>
      rw [e] at q
      exact hg B' F0 F' H' σ ob' ρ' v d ρ1 _ w' r e fun σ' w2 _ => q F' H' σ' ob' w2 s
  | _ => exact q.elim
/-! loops -/
theorem snd_for {ti : TI} {it : Envi → R (List Pv.D)} {us : List Nat} {tg : TG} {b : Bnd} (hi : SndI P m W ti it) (hg : SndG P us tg b) (hb : SndS P W ts g) : SndS P W (tFor ti tg ts) (sFor it b g) := fun B F0 F H σ ob ρ D w q => by
  refine hi B F0 F H σ ob ρ _ w (Post.of_toFl (H := H) (ρ := ρ) q ?_)
  rintro ds ρ' B' F' H' ob' J w' s i' ⟨rfl, hJ, hsz⟩ q
  refine ⟨fun i mm σ2 H2 => ∃ F2 ob2 ρ2, mm = ds.length - i ∧ Wf P B' F0 F2 H2 σ2 ob2 ρ2 ∧ Same F' F2 ∧ PostS P B' F0 F2 W D (runFor b g (ds.drop i) ρ2),
    ⟨ds.length, F', ob', ρ', rfl, w', Same.refl _, q.shift s⟩, ?_⟩
  rintro i mm σ2 H2 ⟨F2, ob2, ρ2, rfl, w2, s2, q2⟩
  obtain ⟨j1, j2⟩ := hJ F2 H2 s2 w2.fh
  by_cases hlt : i < ds.length
  · refine .inr ⟨(j1 i ds[i] (List.getElem?_eq_getElem hlt)).1, fun σ3 H3 => ∃ F3 ob3 ρ3, Wf P B' F0 F3 H3 σ3 ob3 ρ3 ∧ Same F' F3 ∧ PostS P B' F0 F3 W D (runFor b g (ds.drop (i + 1)) ρ3), fun σ3 H3 ⟨F3, ob3, ρ3, w3, s3, q3⟩ => ⟨ds.length - (i + 1), by omega, F3, ob3, ρ3, rfl, w3, s3, q3⟩, fun x H3 y => ?_⟩
    obtain ⟨F3, gr, r3⟩ := (j1 i ds[i] (List.getElem?_eq_getElem hlt)).2 x H3 y
    obtain ⟨w3, s3⟩ := w2.growN gr
    rw [List.drop_eq_getElem_cons hlt] at q2
    unfold runFor at q2
    cases e : b ds[i] ρ2 with
    | none => rw [e] at q2; exact q2.elim
    | some ρ3 =>
      rw [e] at q2
      refine hg B' F0 F3 H3 σ2 ob2 ρ2 x _ ρ3 _ w3 r3 e fun σ3 w4 _ => ?_
      refine hb B' F0 F3 H3 σ3 ob2 ρ3 _ w4 ?_
      have q3 := q2.shift s3
      dsimp only at q3
      cases e2 : g ρ3 with
      | nx ρ4 => rw [e2] at q3; exact fun F5 H5 σ5 ob5 w5 s5 => ⟨F5, ob5, ρ4, w5, (s2.trans s3).trans s5, q3.shift s5⟩
      | ct ρ4 => rw [e2] at q3; exact fun F5 H5 σ5 ob5 w5 s5 => ⟨F5, ob5, ρ4, w5, (s2.trans s3).trans s5, q3.shift s5⟩
      | bk ρ4 => rw [e2] at q3; exact q3
      | ret v ρ4 => rw [e2] at q3; exact q3
      | exc c ρ4 => rw [e2] at q3; exact q3
      | stuck => rw [e2] at q3; exact q3
  · refine .inl ⟨j2 i (by omega), ?_⟩
    rw [List.drop_eq_nil_of_le (by omega)] at q2
    exact q2 F2 H2 σ2 ob2 w2 (Same.refl _)
theorem runW_mono {c : Envi → R Bool} {g : Sem} : ∀ {n k : Nat} {ρ : Envi} {r : Fl}, runW c g n ρ = r → r ≠ .stuck → n ≤ k → runW c g k ρ = r
  | 0, _, _, _, e, h, _ => absurd e.symm h
  | n + 1, 0, _, _, _, _, hk => absurd hk (by omega)
  | n + 1, k + 1, ρ, r, e, h, hk => by
    unfold runW at e ⊢
    cases ec : c ρ with
    | stuck => rw [ec] at e; exact absurd e.symm h
    | exc x ρ' => rw [ec] at e; exact e
    | ok b ρ1 =>
      rw [ec] at e
      simp only [R.toFl] at e ⊢
      cases b with
      | false => exact e
      | true =>
        simp only [if_true] at e ⊢
        cases eg : g ρ1 with
        | nx ρ2 => rw [eg] at e; exact runW_mono e h (by omega)
        | ct ρ2 => rw [eg] at e; exact runW_mono e h (by omega)
        | bk ρ2 => rw [eg] at e; exact e
        | ret v ρ2 => rw [eg] at e; exact e
        | exc x ρ2 => rw [eg] at e; exact e
        | stuck => rw [eg] at e; exact e
theorem sWhile_of {c : Envi → R Bool} {g : Sem} {n : Nat} {ρ : Envi} {r : Fl} (e : runW c g n ρ = r) (h : r ≠ .stuck) : sWhile c g ρ = r := by
  have ex : ∃ n, runW c g n ρ ≠ .stuck := ⟨n, by rw [e]; exact h⟩
  unfold sWhile
  rw [dif_pos ex]
  have h1 := ex.choose_spec
  rcases Nat.le_total n ex.choose with hk | hk
  · exact runW_mono e h hk
  · have := runW_mono (r := runW c g ex.choose ρ) rfl h1 hk
    rw [← this, e]
theorem sWhile_run {c : Envi → R Bool} {g : Sem} {ρ : Envi} (h : sWhile c g ρ ≠ .stuck) : ∃ n, runW c g n ρ = sWhile c g ρ := by
  unfold sWhile at h ⊢
  split
  · exact ⟨_, rfl⟩
  · rename_i hn
    rw [dif_neg hn] at h
    exact absurd rfl h
/-- one turn -/
theorem sWhile_eq {c : Envi → R Bool} {g : Sem} (ρ : Envi) : sWhile c g ρ = (c ρ).toFl fun b ρ1 => if b = true then (match g ρ1 with
      | .nx ρ2 => sWhile c g ρ2
      | .ct ρ2 => sWhile c g ρ2
      | .bk ρ2 => .nx ρ2
      | r => r) else .nx ρ1 := by
  cases ec : c ρ with
  | stuck =>
    by_cases h : sWhile c g ρ = .stuck
    · exact h
    · obtain ⟨n, e⟩ := sWhile_run h
      cases n with
      | zero => exact absurd e.symm h
      | succ n => unfold runW at e; rw [ec] at e; exact e.symm
  | exc x ρ' => exact sWhile_of (n := 1) (by unfold runW; rw [ec]; rfl) (fun z => nomatch z)
  | ok b ρ1 =>
    cases b with
    | false => exact sWhile_of (n := 1) (by unfold runW; rw [ec]; rfl) (fun z => nomatch z)
    | true =>
      simp only [R.toFl, if_true]
      cases eg : g ρ1 with
      | bk ρ2 => exact sWhile_of (n := 1) (by unfold runW; rw [ec]; simp only [R.toFl, if_true, eg]) (fun z => nomatch z)
      | ret v ρ2 => exact sWhile_of (n := 1) (by unfold runW; rw [ec]; simp only [R.toFl, if_true, eg]) (fun z => nomatch z)
      | exc v ρ2 => exact sWhile_of (n := 1) (by unfold runW; rw [ec]; simp only [R.toFl, if_true, eg]) (fun z => nomatch z)
      | stuck =>
        by_cases h : sWhile c g ρ = .stuck
        · exact h
        · obtain ⟨n, e⟩ := sWhile_run h
          cases n with
          | zero => exact absurd e.symm h
          | succ n => unfold runW at e; rw [ec] at e; simp only [R.toFl, if_true, eg] at e; exact e.symm
      | nx ρ2 =>
        dsimp only
        by_cases h : sWhile c g ρ2 = .stuck
        · by_cases h' : sWhile c g ρ = .stuck
          · rw [h, h']
          · obtain ⟨n, e⟩ := sWhile_run h'
            cases n with
            | zero => exact absurd e.symm h'
            | succ n =>
              unfold runW at e; rw [ec] at e; simp only [R.toFl, if_true, eg] at e
              rw [← sWhile_of e h'] 
        · obtain ⟨n, e⟩ := sWhile_run h
          exact sWhile_of (n := n + 1) (by unfold runW; rw [ec]; simp only [R.toFl, if_true, eg]; exact e) h
      | ct ρ2 =>
        dsimp only
        by_cases h : sWhile c g ρ2 = .stuck
        · by_cases h' : sWhile c g ρ = .stuck
          · rw [h, h']
          · obtain ⟨n, e⟩ := sWhile_run h'
            cases n with
            | zero => exact absurd e.symm h'
            | succ n =>
              unfold runW at e; rw [ec] at e; simp only [R.toFl, if_true, eg] at e
              rw [← sWhile_of e h'] 
        · obtain ⟨n, e⟩ := sWhile_run h
          exact sWhile_of (n := n + 1) (by unfold runW; rw [ec]; simp only [R.toFl, if_true, eg]; exact e) h
theorem snd_while {tt : TT} {c : Envi → R Bool} (hc : SndT P true W tt c) (hb : SndS P W ts g) : SndS P W (tWhile tt ts) (sWhile c g) := fun B F0 F H σ ob ρ D w q => by
  have hn : sWhile c g ρ ≠ .stuck := fun z => by rw [z] at q; exact q
  obtain ⟨n, e⟩ := sWhile_run hn
  rw [← e] at q
  refine ⟨fun k σ2 H2 => ∃ F2 ob2 ρ2, Wf P B F0 F2 H2 σ2 ob2 ρ2 ∧ Same F F2 ∧ PostS P B F0 F2 W D (runW c g k ρ2), ⟨n, F, ob, ρ, w, Same.refl _, q⟩, ?_⟩
  rintro k σ2 H2 ⟨F2, ob2, ρ2, w2, s2, q2⟩
  cases k with
  | zero => exact q2.elim
  | succ k =>
    unfold runW at q2
    refine hc B F0 F2 H2 σ2 ob2 ρ2 _ w2 (Post.of_toFl (H := H) (ρ := ρ) q2 ?_)
    rintro b ρ3 B' F3 H3 ob3 v w3 s3 i3 ⟨rfl, rfl⟩ q3
    cases v with
    | false => exact q3 F3 H3 σ2 ob3 w3 s3
    | true =>
      simp only [if_true] at q3 ⊢
      refine ⟨fun σ4 H4 => ∃ F4 ob4 ρ4, Wf P B' F0 F4 H4 σ4 ob4 ρ4 ∧ Same F F4 ∧ PostS P B' F0 F4 W D (runW c g k ρ4), fun σ4 H4 z => ⟨k, Nat.lt_succ_self k, z⟩, ?_⟩
      refine hb _ F0 F3 H3 σ2 ob3 ρ3 _ w3 ?_
      have q4 := q3.shift s3
      cases e2 : g ρ3 with
      | nx ρ4 => rw [e2] at q4; exact fun F5 H5 σ5 ob5 w5 s5 => ⟨F5, ob5, ρ4, w5, (s2.trans s3).trans s5, q4.shift s5⟩
      | ct ρ4 => rw [e2] at q4; exact fun F5 H5 σ5 ob5 w5 s5 => ⟨F5, ob5, ρ4, w5, (s2.trans s3).trans s5, q4.shift s5⟩
      | bk ρ4 => rw [e2] at q4; exact q4
      | ret v ρ4 => rw [e2] at q4; exact q4
      | exc c ρ4 => rw [e2] at q4; exact q4
      | stuck => rw [e2] at q4; exact q4
theorem snd_break : SndS P W tBreak sBreak := fun B F0 F H σ ob ρ D w q => q F H σ ob w (Same.refl _)
theorem snd_cont : SndS P W tCont sCont := fun B F0 F H σ ob ρ D w q => q F H σ ob w (Same.refl _)
theorem snd_raise {c : Exc} : SndS P W (fun D σ H => (fun (H : Hp) (Q : XK) => Q (P.ec c) none H) H fun cls d H' => W cls d σ H') (sRaise c) := fun B F0 F H σ ob ρ D w q => q F H σ ob w (Same.refl _)
end
end Pv

set_option Elab.async false
set_option linter.all false
set_option maxRecDepth 100000
namespace Pv
open PySem PySem.Spec PyProof.Rows L2
/-! a def's body against its pure function -/
def initE (n : Nat) (ds : List D) : Envi := ds.map Slot.fz ++ List.replicate (n - ds.length) .un
def toRf : Fl → Rf
  | .nx _ => .fz .non
  | .ret (.fz d) _ => .fz d
  | .ret (.ow o) _ => .ow o
  | .exc c _ => .exc c
  | _ => .stuck
theorem Wf.init {K : PySem.W.Frag} {ec : Exc → Value} {N : List Str} {F H : Hp} {vs : List V} {ds : List D} (hn : vs.length ≤ N.length) (s : Same F H) (r : Reps K F vs ds) :
    Wf ⟨K, ec, N.length, [], 0, 0⟩ H F F H (L2.start N vs) none (initE N.length ds) := by
  have hl := r.length
  have l1 : (L2.start N vs).length = N.length := by
    unfold L2.start
    rw [List.length_append, List.length_map, List.length_replicate]; omega
  refine ⟨s, Same.refl _, Same.refl _, fun b o e => .inl e, l1, ?_, ⟨fun _ => 0, fun i t h => ?_, fun i t h ht => ?_, fun i j t u h h' ht hu => ?_⟩, fun p fv e => nomatch e⟩
  · show (initE N.length ds).length = (L2.start N vs).length
    unfold initE
    rw [l1, List.length_append, List.length_map, List.length_replicate]; omega
  · unfold initE at h
    show SlotR K F H none 0 ((L2.start N vs)[i]?).join t
    by_cases hi : i < ds.length
    · rw [List.getElem?_append_left (by simpa using hi), List.getElem?_map] at h
      cases e : ds[i]? with
      | none => rw [e] at h; cases h
      | some d =>
        rw [e] at h
        cases h
        obtain ⟨v, h1, h2⟩ := r.get e
        refine ⟨v, ?_, h2⟩
        unfold L2.start
        rw [List.getElem?_append_left (by simp; omega), List.getElem?_map, h1]
        rfl
    · rw [List.getElem?_append_right (by simpa using Nat.le_of_not_lt hi), List.getElem?_replicate] at h
      split at h
      · cases h; exact True.intro
      · cases h
  all_goals
    unfold initE at h
    exfalso
    by_cases hi : i < ds.length
    · rw [List.getElem?_append_left (by simpa using hi), List.getElem?_map] at h
      cases e : ds[i]? with
      | none => rw [e] at h; cases h
      | some d => rw [e] at h; cases h; cases ht
    · rw [List.getElem?_append_right (by simpa using Nat.le_of_not_lt hi), List.getElem?_replicate] at h
      split at h
      · cases h; cases ht
      · cases h
/-- the reading of a def's body does what the promise wants -/
theorem fin_of {K : PySem.W.Frag} {ec : Exc → Value} {N : List Str} {n : Nat} {ts : TS} {g : Sem} {fs : List D → Rf} {vs : List V} {H : Hp} {Q : VK} {E : XK} (hs : SndS ⟨K, ec, N.length, [], 0, 0⟩ (fun cls d _ H => E cls d H) ts g) (hn : n ≤ N.length)
    (pure : ∀ ds, ds.length = n → fs ds ≠ .stuck → toRf (g (initE N.length ds)) = fs ds) (h : spF K ec n fs vs H Q E) : ts { nx := fun _ H' => Q .non H', rt := Q } (L2.start N vs) H := by
  obtain ⟨hl, F, ds, s, r, q⟩ := h
  have hd : fs ds ≠ .stuck := fun z => by rw [z] at q; exact q
  have e := pure ds (by rw [← r.length]; exact hl) hd
  refine hs H F F H _ none _ _ (Wf.init (by rw [hl]; exact hn) s r) ?_
  have out : ∀ {B' F' H' σ' ob' ρ'}, Wf (⟨K, ec, N.length, [], 0, 0⟩ : Pr) B' F F' H' σ' ob' ρ' → Same H B' → (∀ b o, F' b = some o → F b = some o ∨ H b = none ∨ ∃ vs, o = .tup vs) := fun {B' F' H' σ' ob' ρ'} w hb b o z => by
    rcases w.nw b o z with x | x
    · exact .inl x
    · exact .inr (x.imp_left hb.free)
  cases eg : g (initE N.length ds) with
  | nx ρ' =>
    rw [eg] at e
    rw [← e] at q
    exact fun F' H' σ' ob' w s' => q F' H' .non s' w.fh w.bh (out w (Same.refl _)) .non
  | ret v ρ' =>
    rw [eg] at e
    cases v with
    | fz d =>
      rw [← e] at q
      rintro B' F' H' σ' ob' u w s' ⟨rfl, r'⟩
      exact q F' H' u s' w.fh w.bh (out w (Same.refl _)) r'
    | ow o =>
      rw [← e] at q
      rintro B' F' H' σ' ob' u w s' ⟨a, ho, rfl, rfl, e3, e4, e5⟩
      exact q F' H' a ho s' w.fh ((same_new e3).trans w.bh) (out w (same_new e3)) w.getH e4 e3 e5
  | exc c ρ' =>
    rw [eg] at e
    rw [← e] at q
    exact fun F' H' σ' ob' w s' => q H' w.bh
  | bk ρ' => rw [eg] at e; exact absurd e.symm hd
  | ct ρ' => rw [eg] at e; exact absurd e.symm hd
  | stuck => rw [eg] at e; exact absurd e.symm hd

/-! iterators -/
def itemsOf : D → Option (List D)
  | .tup ds => some ds
  | .ktup ds => some ds
  | .lst ds => some ds
  | .klst ds => some ds
  | _ => none
def lstOf : D → Option (List D)
  | .lst ds => some ds
  | .klst ds => some ds
  | _ => none
def tupOf : D → Option (List D)
  | .tup ds => some ds
  | .ktup ds => some ds
  | _ => none
def opt2 {α : Type} (ρ : Envi) : Option α → R α
  | some d => .ok d ρ
  | none => .stuck
def itBy (op : D → Option (List D)) (f : Envi → R Hd) : Envi → R (List D) := fun ρ => (eMat f ρ).bind fun h ρ1 => match h with
  | .dat d => opt2 ρ1 (op d)
  | _ => .stuck
def rangeD (lo : Int) (n : Nat) : List D := (List.range n).map fun (i : Nat) => D.int (lo + i)
def itRng1 (g : Envi → R (List Hd)) : Envi → R (List D) := fun ρ => (g ρ).bind fun hs ρ1 => match derefAll ρ1 hs with
  | some [.int j] => if -16777216 < j ∧ j < 16777216 then .ok (rangeD 0 j.toNat) ρ1 else .stuck
  | _ => .stuck
def itRng2 (g : Envi → R (List Hd)) : Envi → R (List D) := fun ρ => (g ρ).bind fun hs ρ1 => match derefAll ρ1 hs with
  | some [.int i, .int j] => if -16777216 < i ∧ i < 16777216 ∧ j < 16777216 ∧ -16777216 < j ∧ j - i ≤ 16777216 then .ok (rangeD i (j - i).toNat) ρ1 else .stuck
  | _ => .stuck
section
variable {P : Pr} {m : Bool} {W : WX} {te ta tb : TE} {f : Envi → R Hd} {B F0 F H : Hp} {tr : TA} {n : Nat} {fa : Envi → R (List Hd)}
theorem itOk_list {K : PySem.W.Frag} {a : Addr} {vs : List V} {ds : List D} (h : SqL K F a vs) (r : Reps K F vs ds) (inj : ∀ F2 H2, Same F F2 → Same F2 H2 → ∀ xs, SqL K H2 a xs → True) : ItOk K (Itl K a) F ds := fun F2 H2 s1 s2 => by
  have h2 := same_sql s2 (same_sql s1 h)
  refine ⟨fun i d e => ?_, fun i hi => ⟨vs, h2, by rw [r.length]; exact hi⟩⟩
  obtain ⟨v, e1, e2⟩ := r.get e
  refine ⟨⟨vs, v, h2, e1⟩, fun x H3 y => ?_⟩
  obtain ⟨rfl, y⟩ := y
  have := y vs h2
  rw [e1] at this
  cases this
  exact ⟨F2, .refl _ _, Rep.mono s1 e2⟩
theorem itOk_tup {K : PySem.W.Frag} {a : Addr} {vs : List V} {ds : List D} (h : SqT K F a vs) (r : Reps K F vs ds) : ItOk K (Itt K a) F ds := fun F2 H2 s1 s2 => by
  have h2 := same_sqt s2 (same_sqt s1 h)
  refine ⟨fun i d e => ?_, fun i hi => ⟨vs, h2, by rw [r.length]; exact hi⟩⟩
  obtain ⟨v, e1, e2⟩ := r.get e
  refine ⟨⟨vs, v, h2, e1⟩, fun x H3 y => ?_⟩
  obtain ⟨rfl, y⟩ := y
  have := y vs h2
  rw [e1] at this
  cases this
  exact ⟨F2, .refl _ _, Rep.mono s1 e2⟩
theorem rep_lstOf {K : PySem.W.Frag} {v : V} {d : D} {ds : List D} (r : Rep K F v d) (e : lstOf d = some ds) : ∃ a vs, v = .ref a ∧ SqL K F a vs ∧ vs.length ≤ sizeLine ∧ Reps K F vs ds := by
  cases r with
  | @lst a vs ds' h1 h2 h3 => cases e; exact ⟨a, vs, rfl, .inl (.inl h1), h2, h3⟩
  | @klst a vs ds' h1 h2 h3 => cases e; exact ⟨a, vs, rfl, h1, h2, h3⟩
  | _ => cases e
theorem rep_tupOf {K : PySem.W.Frag} {v : V} {d : D} {ds : List D} (r : Rep K F v d) (e : tupOf d = some ds) : ∃ a vs, v = .ref a ∧ SqT K F a vs ∧ vs.length ≤ sizeLine ∧ Reps K F vs ds := by
  cases r with
  | @tup a vs ds' h1 h2 h3 => cases e; exact ⟨a, vs, rfl, .inl (.inl h1), h2, h3⟩
  | @ktup a vs ds' h1 h2 h3 => cases e; exact ⟨a, vs, rfl, h1.sqt, h2, h3⟩
  | _ => cases e
theorem si_list (h : SndE P m W te f) : SndI P m W (iList P.K te) (itBy lstOf f) := fun B F0 F H σ ob ρ Q w q => by
  refine snd_mat h B F0 F H σ ob ρ _ w (Post.of_bind q ?_)
  intro a ρ' B' F' H' ob' v w' s i r q
  cases a with
  | dat d =>
    obtain ⟨rfl, r⟩ := r
    cases e : lstOf d with
    | none => simp only [e, opt2] at q; exact q.elim
    | some ds =>
      simp only [e, opt2] at q
      obtain ⟨a, vs, rfl, h1, h2, h3⟩ := rep_lstOf r e
      refine ⟨a, rfl, ⟨vs, same_sql w'.fh h1⟩, q _ F' H' ob' _ w' s i ⟨rfl, itOk_list h1 h3 (fun _ _ _ _ _ _ => trivial), by rw [← h3.length]; exact h2⟩⟩
  | _ => exact q.elim
theorem si_tup (h : SndE P m W te f) : SndI P m W (iTup P.K te) (itBy tupOf f) := fun B F0 F H σ ob ρ Q w q => by
  refine snd_mat h B F0 F H σ ob ρ _ w (Post.of_bind q ?_)
  intro a ρ' B' F' H' ob' v w' s i r q
  cases a with
  | dat d =>
    obtain ⟨rfl, r⟩ := r
    cases e : tupOf d with
    | none => simp only [e, opt2] at q; exact q.elim
    | some ds =>
      simp only [e, opt2] at q
      obtain ⟨a, vs, rfl, h1, h2, h3⟩ := rep_tupOf r e
      refine ⟨a, rfl, ⟨vs, same_sqt w'.fh h1⟩, q _ F' H' ob' _ w' s i ⟨rfl, itOk_tup h1 h3, by rw [← h3.length]; exact h2⟩⟩
  | _ => exact q.elim
theorem rangeD_get (lo : Int) (n i : Nat) : (rangeD lo n)[i]? = if i < n then some (.int (lo + i)) else none := by
  unfold rangeD
  rw [List.getElem?_map]
  by_cases h : i < n
  · rw [if_pos h, List.getElem?_range h]
    rfl
  · rw [if_neg h, List.getElem?_eq_none (by simpa using Nat.le_of_not_lt h)]
    rfl
theorem rangeD_length (lo : Int) (n : Nat) : (rangeD lo n).length = n := by unfold rangeD; simp
theorem itOk_rng {K : PySem.W.Frag} (lo : Int) (n : Nat) : ItOk K (Itr lo n) F (rangeD lo n) := fun F2 H2 s1 s2 => by
  refine ⟨fun i d e => ?_, fun i hi => by rw [rangeD_length] at hi; exact hi⟩
  rw [rangeD_get] at e
  split at e
  · rename_i h
    cases e
    refine ⟨h, fun x H3 y => ?_⟩
    obtain ⟨rfl, rfl⟩ := y
    exact ⟨F2, .refl _ _, .int _⟩
  · cases e
theorem BRep.int {K : PySem.W.Frag} {v : V} {b : Int} (h : BRep K F H v (.int b)) : v = .int b := by
  rcases h with h | ⟨a, ho, o, _, _, _, e⟩
  · cases h; rfl
  · cases o <;> cases e
theorem breps_one {K : PySem.W.Frag} {vs : List V} {d : D} (h : BReps K F H vs [d]) : ∃ v, vs = [v] ∧ BRep K F H v d := by
  cases h with
  | cons a b => cases b; exact ⟨_, rfl, a⟩
theorem breps_two {K : PySem.W.Frag} {vs : List V} {d e : D} (h : BReps K F H vs [d, e]) : ∃ v u, vs = [v, u] ∧ BRep K F H v d ∧ BRep K F H u e := by
  cases h with
  | cons a b =>
    cases b with
    | cons c z => cases z; exact ⟨_, _, rfl, a, c⟩
theorem si_rng1 (h : SndA P m W n tr fa) : SndI P m W (iRng1 tr) (itRng1 fa) := fun B F0 F H σ ob ρ Q w q => by
  refine h B F0 F H σ ob ρ _ w (Post.of_bind q ?_)
  rintro hs ρ2 B' F2 H2 ob2 ys w2 s2 i2 ⟨⟨rfl, r2⟩, hl⟩ q
  cases e : derefAll ρ2 hs with
  | none => simp only [e] at q; exact q.elim
  | some ds =>
    simp only [e] at q
    have br := w2.derefAll r2 e
    split at q
    · rename_i j e1
      cases e1
      split at q
      · rename_i hj
        obtain ⟨v, rfl, b1⟩ := breps_one br
        cases b1.int
        exact ⟨j, rfl, by omega, by omega, q _ F2 H2 ob2 _ w2 s2 i2 ⟨rfl, itOk_rng 0 _, by rw [rangeD_length, sizeLine_eq]; omega⟩⟩
      · exact q.elim
    · exact q.elim
theorem si_rng2 (h : SndA P m W n tr fa) : SndI P m W (iRng2 tr) (itRng2 fa) := fun B F0 F H σ ob ρ Q w q => by
  refine h B F0 F H σ ob ρ _ w (Post.of_bind q ?_)
  rintro hs ρ2 B' F2 H2 ob2 ys w2 s2 i2 ⟨⟨rfl, r2⟩, hl⟩ q
  cases e : derefAll ρ2 hs with
  | none => simp only [e] at q; exact q.elim
  | some ds =>
    simp only [e] at q
    have br := w2.derefAll r2 e
    split at q
    · rename_i i j e1
      cases e1
      split at q
      · rename_i hj
        obtain ⟨v, u, rfl, b1, b2⟩ := breps_two br
        cases b1.int
        cases b2.int
        exact ⟨i, j, rfl, by omega, q _ F2 H2 ob2 _ w2 s2 i2 ⟨rfl, itOk_rng i _, by rw [rangeD_length, sizeLine_eq]; omega⟩⟩
      · exact q.elim
    · exact q.elim
end
end Pv

set_option Elab.async false
set_option linter.all false
set_option maxRecDepth 100000
namespace Pv
open PySem PySem.Spec PyProof.Rows L2
/-! comprehensions -/
def wipeE (ρ : Envi) : List Nat → Envi
  | [] => ρ
  | v :: vs => (wipeE ρ vs).set v .un
def runComp (b : Bnd) (c : Envi → R Bool) (e : Envi → R Hd) (vs : List Nat) : List D → Envi → Option (List D × Envi)
  | [], ρ => some ([], ρ)
  | d :: ds, ρ => match b d ρ with
    | none => none
    | some ρ1 => match c ρ1 with
      | .ok true ρ2 => match eMat e ρ2 with
        | .ok (.dat d') ρ3 => match runComp b c e vs ds (wipeE ρ3 vs) with
          | some (r, ρ4) => some (d' :: r, ρ4)
          | none => none
        | _ => none
      | .ok false ρ2 => runComp b c e vs ds (wipeE ρ2 vs)
      | _ => none
def opt3 : Option (List D × Envi) → R Hd
  | some (r, ρ) => .ok (.tm (.li r)) ρ
  | none => .stuck
def eComp (it : Envi → R (List D)) (b : Bnd) (c : Envi → R Bool) (e : Envi → R Hd) (vs : List Nat) : Envi → R Hd := fun ρ => (it ρ).bind fun ds ρ1 => opt3 (runComp b c e vs ds (wipeE ρ1 vs))
def tTrue : Envi → R Bool := fun ρ => .ok true ρ
section
variable {P : Pr} {m : Bool} {W : WX} {te ta tb : TE} {f : Envi → R Hd} {B F0 F H : Hp} {σ : L2.St} {ob : Ob} {ρ : Envi}
theorem Wf.forget (w : Wf P B F0 F H σ ob ρ) (i : Nat) : Wf P B F0 F H σ ob (ρ.set i .un) := by
  obtain ⟨fh, bh, ff, nw, n, len, ⟨al, s1, s2, s3⟩, hob⟩ := w
  have back : ∀ (j : Nat) (t : Slot), (ρ.set i .un)[j]? = some t → t = .un ∨ ρ[j]? = some t := fun j t h => by
    by_cases hj : i = j
    · subst hj
      by_cases hl : i < ρ.length
      · rw [List.getElem?_set_self hl] at h; cases h; exact .inl rfl
      · rw [List.getElem?_eq_none (by simpa using Nat.le_of_not_lt hl)] at h; cases h
    · rw [List.getElem?_set_ne hj] at h; exact .inr h
  refine ⟨fh, bh, ff, nw, n, by rw [List.length_set]; exact len, ⟨al, fun j t h => ?_, fun j t h ht => ?_, fun j k t u h h' ht hu => ?_⟩, hob⟩
  · rcases back j t h with e | e
    · subst e; exact True.intro
    · exact s1 j t e
  · rcases back j t h with e | e
    · subst e; cases ht
    · exact s2 j t e ht
  · rcases back j t h with e | e
    · subst e; cases ht
    · rcases back k u h' with e' | e'
      · subst e'; cases hu
      · exact s3 j k t u e e' ht hu
theorem Wf.wipeE (w : Wf P B F0 F H σ ob ρ) : ∀ vs : List Nat, Wf P B F0 F H σ ob (wipeE ρ vs)
  | [] => w
  | v :: vs => (w.wipeE vs).forget v
/-- other values at slots of which nothing is known -/
theorem Wf.reslot {σ' : L2.St} (w : Wf P B F0 F H σ ob ρ) (hl : σ'.length = σ.length) (h : ∀ (i : Nat) (s : Slot), ρ[i]? = some s → s ≠ .un → σ'[i]? = σ[i]?) : Wf P B F0 F H σ' ob ρ := by
  obtain ⟨fh, bh, ff, nw, n, len, ⟨al, s1, s2, s3⟩, hob⟩ := w
  refine ⟨fh, bh, ff, nw, hl.trans n, ?_, ⟨al, fun j t e => ?_, s2, s3⟩, hob⟩
  · rw [len]
    cases ob with
    | none => exact hl.symm
    | some x =>
      obtain ⟨p, fv⟩ := x
      show (σ ++ fv).length = (σ' ++ fv).length
      rw [List.length_append, List.length_append, hl]
  · have x := s1 j t e
    by_cases ht : t = .un
    · subst ht; exact True.intro
    · have e2 := h j _ e ht
      have q : (tau σ' ob)[j]? = (tau σ ob)[j]? := by
        cases ob with
        | none => exact e2
        | some pf =>
          obtain ⟨p, fv⟩ := pf
          show (σ' ++ fv)[j]? = (σ ++ fv)[j]?
          by_cases hj : j < σ.length
          · rw [List.getElem?_append_left hj, List.getElem?_append_left (by omega)]; exact e2
          · rw [List.getElem?_append_right (by omega), List.getElem?_append_right (by omega), hl]
      rw [q]; exact x
theorem wipeE_un : ∀ {vs : List Nat} {i : Nat} {s : Slot}, (Pv.wipeE ρ vs)[i]? = some s → s ≠ .un → i ∉ vs
  | [], _, _, _, _ => by simp
  | v :: vs, i, s, h, hs => by
    unfold Pv.wipeE at h
    by_cases hv : v = i
    · subst hv
      by_cases hl : v < (Pv.wipeE ρ vs).length
      · rw [List.getElem?_set_self hl] at h; cases h; exact absurd rfl hs
      · rw [List.getElem?_eq_none (by simpa using Nat.le_of_not_lt hl)] at h; cases h
    · rw [List.getElem?_set_ne hv] at h
      have := wipeE_un h hs
      simp only [List.mem_cons, not_or]
      exact ⟨fun e => hv e.symm, this⟩
theorem wipe_outS : ∀ {σ : L2.St} {vs : List Nat} {i : Nat}, i ∉ vs → (wipe σ vs)[i]? = σ[i]? := fun {σ vs i} h => by
  induction vs with
  | nil => rfl
  | cons v vs ih =>
    unfold wipe
    rw [List.getElem?_set_ne (fun e => h (by rw [e]; exact List.mem_cons_self))]
    exact ih fun z => h (List.mem_cons_of_mem _ z)
theorem wipe_in {σ : L2.St} : ∀ {vs : List Nat} {i : Nat}, i ∈ vs → i < σ.length → (wipe σ vs)[i]? = some none := fun {vs i} h hl => by
  induction vs with
  | nil => exact nomatch h
  | cons v vs ih =>
    unfold wipe
    by_cases hv : v = i
    · subst hv
      rw [List.getElem?_set_self (by rw [wipe_length]; exact hl)]
    · rw [List.getElem?_set_ne hv]
      rcases List.mem_cons.mp h with z | z
      · exact absurd z.symm hv
      · exact ih z
theorem wipe_idem (σ : L2.St) (vs : List Nat) : wipe (wipe σ vs) vs = wipe σ vs := by
  refine List.ext_getElem? fun i => ?_
  by_cases h : i ∈ vs
  · by_cases hl : i < σ.length
    · rw [wipe_in h (by rw [wipe_length]; exact hl), wipe_in h hl]
    · rw [List.getElem?_eq_none (by rw [wipe_length, wipe_length]; omega), List.getElem?_eq_none (by rw [wipe_length]; omega)]
  · exact wipe_outS h
abbrev W0 : WX := fun _ _ _ _ => False
theorem snd_pts0 : SndT P m W tYes tTrue := fun B F0 F H σ ob ρ Q w q => q B F H ob true w (Same.refl _) (fun _ => rfl) ⟨rfl, rfl⟩
theorem snd_comp {us vs : List Nat} {ti : TI} {it : Envi → R (List Pv.D)} {tg : TG} {b : Bnd} {tt : TT} {c : Envi → R Bool} {e : Envi → R Hd} (hi : SndI P m W ti it) (hg : SndG P us tg b) (hc : SndT P m W0 tt c) (he : SndE P m W0 te e) (hu : ∀ u ∈ us, u ∈ vs := by decide) :
    SndE P m W (tLc ti tg tt te vs) (eComp it b c e vs) := fun B F0 F H σ ob ρ Q w q => by
  refine hi B F0 F H σ ob ρ _ w (Post.of_bind q ?_)
  rintro ds ρ' B' F' H' ob' J w' s i' ⟨rfl, hJ, hsz⟩ q D hD
  have fD : F' D = none := w'.fh.free hD
  have bD : B' D = none := w'.bh.free hD
  have f0D : F0 D = none := w'.ff.free fD
  refine ⟨fun i mm H2 => ∃ F2 ob2 ρ2 av acc, mm = ds.length - i ∧ i ≤ ds.length ∧ Wf P (upd B' D (.lst av)) F0 F2 H2 σ ob2 (Pv.wipeE ρ2 vs) ∧ Same F' F2 ∧ F2 D = none ∧ (m = false → ob2 = ob') ∧ Reps P.K F2 av acc ∧ acc.length ≤ i ∧
      Post P B' F0 F σ ob m W (RelE P B' σ) Q (opt3 ((runComp b c e vs (ds.drop i) (Pv.wipeE ρ2 vs)).map fun x => (acc ++ x.1, x.2))),
    ⟨ds.length, F', ob', ρ', [], [], rfl, Nat.zero_le _, (w'.wipeE vs).tmp hD, Same.refl _, fD, fun _ => rfl, .nil, Nat.le_refl _, ?_⟩, ?_⟩
  · have q : Post P B' F0 F σ ob m W (RelE P B' σ) Q (opt3 (runComp b c e vs ds (Pv.wipeE ρ' vs))) := q
    rw [List.drop_zero]
    cases e1 : runComp b c e vs ds (Pv.wipeE ρ' vs) with
    | none => rw [e1] at q; exact q
    | some x => rw [e1] at q; exact q
  rintro i mm H2 ⟨F2, ob2, ρ2, av, acc, rfl, hle, w2, s2, f2D, i2, r2, hacc, q2⟩
  obtain ⟨j1, j2⟩ := hJ F2 H2 s2 w2.fh
  by_cases hlt : i < ds.length
  · refine .inr ⟨(j1 i ds[i] (List.getElem?_eq_getElem hlt)).1, fun H3 => ∃ F3 ob3 ρ3 av acc, Wf P (upd B' D (.lst av)) F0 F3 H3 σ ob3 (Pv.wipeE ρ3 vs) ∧ Same F' F3 ∧ F3 D = none ∧ (m = false → ob3 = ob') ∧ Reps P.K F3 av acc ∧ acc.length ≤ i + 1 ∧
      Post P B' F0 F σ ob m W (RelE P B' σ) Q (opt3 ((runComp b c e vs (ds.drop (i + 1)) (Pv.wipeE ρ3 vs)).map fun x => (acc ++ x.1, x.2))),
      fun H3 ⟨F3, ob3, ρ3, av, acc, w3, s3, f3, i3, r3, h3, q3⟩ => ⟨ds.length - (i + 1), by omega, F3, ob3, ρ3, av, acc, rfl, hlt, w3, s3, f3, i3, r3, h3, q3⟩, fun x H3 y => ?_⟩
    obtain ⟨F3, gr, r3⟩ := (j1 i ds[i] (List.getElem?_eq_getElem hlt)).2 x H3 y
    obtain ⟨w3, s3⟩ := w2.growN gr
    rw [List.drop_eq_getElem_cons hlt] at q2
    unfold runComp at q2
    have w3' : Wf P (upd B' D (.lst av)) F0 F3 H3 (wipe σ vs) ob2 (Pv.wipeE ρ2 vs) := w3.reslot (wipe_length σ vs) fun i s h hs => wipe_outS (wipeE_un h hs)
    cases e1 : b ds[i] (Pv.wipeE ρ2 vs) with
    | none => rw [e1] at q2; exact q2.elim
    | some ρ3 =>
      rw [e1] at q2
      dsimp only at q2
      refine hg _ F0 F3 H3 (wipe σ vs) ob2 _ x _ ρ3 _ w3' r3 e1 fun σ3 w4 hw4 => ⟨(hw4 vs hu).trans ?_, ?_⟩
      · exact wipe_idem σ vs
      -- behind a turn: back at σ
      have back : ∀ {Bx Fx Hx : Hp} {obx : Ob} {ρx : Envi}, Wf P Bx F0 Fx Hx σ3 obx ρx → Wf P Bx F0 Fx Hx σ obx (Pv.wipeE ρx vs) := fun {Bx Fx Hx obx ρx} wx => by
        refine (wx.wipeE vs).reslot ?_ fun i s h hs => ?_
        · have := w4.n
          rw [this, w.n]
        · have hn := wipeE_un h hs
          have := congrArg (fun l => l[i]?) (hw4 vs hu)
          rw [wipe_outS hn] at this
          rw [this]
          have h2 : (wipe (wipe σ vs) vs)[i]? = (wipe σ vs)[i]? := wipe_outS hn
          rw [h2, wipe_outS hn]
      refine hc _ F0 F3 H3 σ3 ob2 ρ3 _ w4 ?_
      cases e2 : c ρ3 with
      | stuck => rw [e2] at q2; exact q2.elim
      | exc x ρ4 => rw [e2] at q2; exact q2.elim
      | ok bb ρ4 =>
        rw [e2] at q2
        rintro _ F4 H4 ob4 v w5 s4 i4 ⟨rfl, rfl⟩
        have f4D : F4 D = none := by
          cases z : F4 D with
          | none => rfl
          | some o =>
            rcases w5.nw D o z with h | h | ⟨us, rfl⟩
            · rw [f0D] at h; cases h
            · rw [upd_same] at h; cases h
            · have h := w5.fh _ _ z
              rw [w5.getH] at h; cases h
        cases v with
        | false =>
          dsimp only at q2
          rw [if_neg Bool.false_ne_true]
          exact ⟨F4, ob4, ρ4, av, acc, back w5, (s2.trans s3).trans s4, f4D, fun z => (i4 z).trans (i2 z), r2.mono (s3.trans s4), by omega, q2⟩
        | true =>
          dsimp only at q2
          rw [if_pos rfl]
          refine snd_mat he _ F0 F4 H4 σ3 ob4 ρ4 _ w5 ?_
          cases e3 : eMat e ρ4 with
          | stuck => rw [e3] at q2; exact q2.elim
          | exc x ρ5 => rw [e3] at q2; exact q2.elim
          | ok hd ρ5 =>
            rw [e3] at q2
            cases hd with
            | dat d' =>
              rintro _ F5 H5 ob5 y w6 s5 i5 ⟨rfl, r5⟩
              have f5D : F5 D = none := by
                cases z : F5 D with
                | none => rfl
                | some o =>
                  rcases w6.nw D o z with h | h | ⟨us, rfl⟩
                  · rw [f0D] at h; cases h
                  · rw [upd_same] at h; cases h
                  · have h := w6.fh _ _ z
                    rw [w6.getH] at h; cases h
              have hl : av.length = acc.length := r2.length
              refine ⟨av, w6.getH, by omega, F5, ob5, ρ5, av ++ [y], acc ++ [d'], back (w6.tmpUpd f5D), ((s2.trans s3).trans s4).trans s5, f5D, fun z => ((i5 z).trans (i4 z)).trans (i2 z), (r2.mono ((s3.trans s4).trans s5)).append (.cons r5 .nil), by rw [List.length_append]; show acc.length + 1 ≤ i + 1; omega, ?_⟩
              dsimp only at q2
              cases e4 : runComp b c e vs (ds.drop (i + 1)) (Pv.wipeE ρ5 vs) with
              | none => rw [e4] at q2; exact q2
              | some x =>
                rw [e4] at q2
                have q2 : Post P B' F0 F σ ob m W (RelE P B' σ) Q (opt3 (some (acc ++ (d' :: x.1), x.2))) := q2
                rw [show acc ++ (d' :: x.1) = (acc ++ [d']) ++ x.1 by simp] at q2
                exact q2
            | _ => exact q2.elim
  · refine .inl ⟨j2 i (by omega), ?_⟩
    rw [List.drop_eq_nil_of_le (by omega)] at q2
    have q2 : Post P B' F0 F σ ob m W (RelE P B' σ) Q (.ok (.tm (.li (acc ++ []))) (Pv.wipeE ρ2 vs)) := q2
    rw [List.append_nil] at q2
    exact q2 (upd B' D (.lst av)) F2 H2 ob2 _ w2 (s.trans s2) (fun z => (i2 z).trans (i' z)) ⟨D, _, rfl, rfl, bD, f2D, av, rfl, by rw [r2.length]; omega, r2⟩
end
end Pv

set_option Elab.async false
set_option linter.all false
set_option maxRecDepth 100000
namespace Pv
open PySem PySem.Spec PyProof.Rows L2
/-! rules of our own over the machine: tuples of which the whole object is known -/
theorem frz_ok {P : Program} {w : World} {H : Hp} {h : Heap} {a : Addr} {xs : List V} {its : List Value} (hz : xs.length ≤ sizeLine) (r : Vals xs its) (e : h.get? a = some { cls := .type "tuple", data := .seq its.toArray }) :
    ObjOk P w H h a (.frz { cls := .type "tuple", data := .seq its.toArray } (.tup xs)) := ⟨e, hz, its, r, ⟨_, e, rfl, _, rfl⟩⟩
def tTupF (t : TA) : TE := fun σ H Q => t σ H fun xs H1 => xs.length ≤ sizeLine ∧ ∀ p o, H1 p = none → o.dict = none → Q (.ref p) (upd H1 p (.frz o (.tup xs)))
section
variable {X : Cx}
theorem pe_tupF {es : List Expr} {t : TA} {pos : Pos} {x1} (h : PA X es t) : PE X (.Tuple es x1 pos) (tTupF t) := by
  refine ⟨fun pins s σ H Q I hq => ?_⟩
  refine wpAny_Tuple_spliced (thn (h.run pos pins s σ H _ I hq) fun us s1 ⟨xs, H1, I1, r, z, q⟩ => ⟨by rw [← r.length]; exact z, ?_⟩)
  have hf : H1 s1.heap.objs.size = none := I1.hok.fresh (Nat.le_refl _)
  refine ⟨.ref s1.heap.objs.size, _, I1.laid (t' := s1.toks) (o := .frz { cls := .type "tuple", data := .seq us.toArray } (.tup xs)) (fun b u e => Heap.get?_push_of_some _ e) (Nat.le_refl _) ?_, rfl, q _ _ hf rfl⟩
  exact frz_ok z r (Heap.get?_push_size _ rfl)
def rCatF (K : PySem.W.Frag) : R2 := fun x y H Q => ∃ a b xs ys, x = .ref a ∧ y = .ref b ∧ SqT K H a xs ∧ SqT K H b ys ∧ xs.length + ys.length ≤ sizeLine ∧
  (xs = [] → Q (.ref b) H) ∧ (xs ≠ [] → ys = [] → Q (.ref a) H) ∧ (xs ≠ [] → ys ≠ [] → ∀ p o, H p = none → o.dict = none → Q (.ref p) (upd H p (.frz o (.tup (xs ++ ys)))))
theorem op_catF : OpR X (binaryOp .Add) (rCatF X.K) := by
  intro pins s σ H x y v u Q I rx ry h
  obtain ⟨a, b, xs, ys, rfl, rfl, ha, hb, hz, q0, q1, q2⟩ := h
  cases rx
  cases ry
  obtain ⟨its, r1, p1, _⟩ := I.tuple ha
  obtain ⟨its2, r2, p2, _⟩ := I.tuple hb
  by_cases hx : xs = []
  · subst hx
    cases r1
    exact cat_tup0 p1 p2 ⟨.ref b, H, I, rfl, q0 rfl⟩
  · refine HT.cat_tup p1 p2 (fun z => hx (r1.nil_iff.mp z)) (fun z => ⟨.ref a, H, I, rfl, q1 hx (r2.nil_iff.mp z)⟩) (fun z => ?_) (by rw [← r1.length, ← r2.length]; exact hz)
    refine ⟨.ref s.heap.objs.size, _, I.laid (t' := s.toks) (o := .frz { cls := .type "tuple", data := .seq (its ++ its2).toArray } (.tup (xs ++ ys))) (fun b ob q => Heap.get?_push_of_some _ q) (Nat.le_refl _) ?_, rfl, q2 hx (fun w => z (r2.nil_iff.mpr w)) _ _ (I.hok.fresh (Nat.le_refl _)) rfl⟩
    exact frz_ok (by rw [List.length_append]; exact hz) (r1.append r2) (Heap.get?_push_size _ rfl)
def rSlF (K : PySem.W.Frag) : V → Option Int → Option Int → Hp → VK → Prop := fun x lo hi H Q => ∃ a xs, x = .ref a ∧ SqT K H a xs ∧
  (HT.sIx xs.length 0 lo = 0 ∧ HT.sIx xs.length xs.length hi = xs.length → Q (.ref a) H) ∧ (¬ (HT.sIx xs.length 0 lo = 0 ∧ HT.sIx xs.length xs.length hi = xs.length) → ∀ p o, H p = none → o.dict = none → Q (.ref p) (upd H p (.frz o (.tup (cutV xs lo hi)))))
theorem sl_tupF : SlR X (rSlF X.K) := by
  intro pins s σ H x v vl vu lo hi sl Q I rx hs pl pu h
  obtain ⟨a, xs, rfl, hx, q1, q2⟩ := h
  cases rx
  obtain ⟨its, r, ht, hz⟩ := I.tuple hx
  have hlen : its.toArray.size = xs.length := by rw [List.size_toArray]; exact r.length.symm
  by_cases hw : HT.sIx xs.length 0 lo = 0 ∧ HT.sIx xs.length xs.length hi = xs.length
  · refine ⟨"tuple", _, PyProof.Rows.slot_tuple_getitem.lookup, ht.typeIs, ?_⟩
    exact getItem_tuple_whole ht hs pl pu (by rw [hlen]; exact hw) ⟨.ref a, H, I, rfl, q1 hw⟩
  · refine ⟨"tuple", _, PyProof.Rows.slot_tuple_getitem.lookup, ht.typeIs, ?_⟩
    refine HT.getItem_tuple_cut ht hs pl pu (by rw [hlen]; exact hw) ?_ (by rw [hlen]; exact hz)
    rw [hlen]
    refine ⟨.ref s.heap.objs.size, _, I.laid (t' := s.toks) (o := .frz { cls := .type "tuple", data := .seq (((its.drop (HT.sIx xs.length 0 lo)).take (HT.sIx xs.length xs.length hi - HT.sIx xs.length 0 lo)).toArray) } (.tup (cutV xs lo hi))) (fun b ob q => Heap.get?_push_of_some _ q) (Nat.le_refl _) ?_, rfl, q2 hw _ _ (I.hok.fresh (Nat.le_refl _)) rfl⟩
    exact frz_ok (Nat.le_trans (cutV_length xs lo hi) hz) ((r.drop (HT.sIx xs.length 0 lo)).take (HT.sIx xs.length xs.length hi - HT.sIx xs.length 0 lo)) (Heap.get?_push_size _ rfl)
theorem call_tuple_ofF : CallR X (.type "tuple") (fun xs H Q => ∃ p ys, xs = [.ref p] ∧ ((SqL X.K H p ys ∧ ∀ l o, H l = none → o.dict = none → Q (.ref l) (upd H l (.frz o (.tup ys)))) ∨ (SqT X.K H p ys ∧ Q (.ref p) H))) := by
  intro pins s σ H xs us Q I r h
  obtain ⟨p, ys, rfl, h⟩ := h
  obtain ⟨u, rfl, rx⟩ := vals1 r
  cases rx
  rcases h with ⟨hq, q⟩ | ⟨hq, q⟩
  · obtain ⟨its, r', pl, hz⟩ := I.list hq
    have hlen := r'.length
    refine call_tuple_list pl.isList (fun h' kp => ?_) (by simp only [List.size_toArray] <;> omega)
    have I1 : Inv X pins σ H { s with heap := h' } := I.kept (t' := s.toks) kp
    have I2 : Inv X pins σ (upd H h'.objs.size (.frz { cls := .type "tuple", data := .seq its.toArray } (.tup ys))) { s with heap := h'.push { cls := .type "tuple", data := .seq its.toArray } } :=
      I1.laid (t' := s.toks) (fun b o e => Heap.get?_push_of_some _ e) (Nat.le_refl _) (frz_ok hz r' (Heap.get?_push_size _ rfl))
    exact ⟨.ref h'.objs.size, _, I2, rfl, q _ _ (I1.hok.fresh (Nat.le_refl _)) rfl⟩
  · obtain ⟨its, r', pl, hz⟩ := I.tuple hq
    exact call_tuple_same pl ⟨.ref p, H, I, rfl, q⟩
theorem KTup.has {pins : List (Addr × Obj)} {σ : L2.St} {H : Hp} {s : Shared} {a : Addr} {vs : List V} (I : Inv X pins σ H s) (h : KTup X.K H a vs) : ∃ (o : Obj) (its : List Value) (n : Nat), s.heap.get? a = some o ∧ o.cls = .type "tuple" ∧ o.dict = none ∧ o.data = .seq its.toArray n ∧ Vals vs its ∧ vs.length ≤ sizeLine := by
  rcases h with ⟨o, h, d⟩ | ⟨o, its, n, h1, h2, h3, h4, h5, h6⟩
  · obtain ⟨e, hz, its, r, o', e', c, n, dt⟩ := (show ObjOk X.prog X.w H s.heap a (.frz o (.tup vs)) from I.hok a _ h)
    rw [e] at e'
    cases e'
    exact ⟨o, its, n, e, c, d, dt, r, hz⟩
  · refine ⟨o, its.toList, n, I.kIn a o h1, h2, h3, by simpa using h4, h6, ?_⟩
    have := h6.length
    simp only [Array.length_toList] at this
    omega
/-- t.m(e) of a tuple of which the object is known -/
def tTM (K : PySem.W.Frag) (r : V → List V → Hp → VK → Prop) (to : TE) (t : TA) : TE := fun σ H Q => to σ H fun x H1 => (∃ p vs, x = .ref p ∧ KTup K H1 p vs) ∧ t σ H1 fun xs H2 => r x xs H2 Q
theorem pe_tm {o e : Expr} {es : List Expr} {to : TE} {t : TA} {name : Str} {apos cpos : Pos} {id : String} {r : V → List V → Hp → VK → Prop} (pa : PlainAttrs "tuple") (slot : PySem.Slot "tuple" name id) (hty : typeOf (.builtin id) = pure (.type "method_descriptor")) (hm : MtR X id r) (ho : PE X o to) (ha : PA X (e :: es) t)
    (hbase : attributeBase o name X.env (eval o X.env) = eval o X.env := by rfl)
    (hfew : ((backTo cpos (starEach (e :: es) X.env)).all (fun x => !x.1) && (backToKw cpos (keywordEach [] X.env)).all (fun x => x.1.isSome)
      && decide ((e :: es).length + ([] : List Keyword).length + (if ([] : List Keyword).isEmpty then 0 else 1) < 30)) = true := by rfl)
    (hline : (apos.endLine == cpos.line) = true := by rfl) (hs : starEach (e :: es) X.env = (false, eval e X.env) :: starEach es X.env := by rfl) (hplain : (backTo cpos (starEach es X.env)).any (·.1) = false := by rfl) :
    PE X (.Call (.Attribute o name apos) (e :: es) [] cpos) (tTM X.K r to t) := by
  refine ⟨fun pins s σ H Q I h => ?_⟩
  refine wpAny_Call_method_late hbase hfew hline rfl (thn (ho.run pins s σ H _ I h) fun v s1 ⟨x, H1, I1, r1, ty, q1⟩ => ?_)
  obtain ⟨p, vs, rfl, kt⟩ := ty
  cases r1
  obtain ⟨ob, its, n, h1, h2, h3, h4, h5, h6⟩ := kt.has I1
  refine ⟨"tuple", id, pa, slot, hty, ⟨ob, h1, h2⟩, fun a e => ?_, ?_⟩
  · cases e
    exact ⟨ob, h1, h3⟩
  have hA := ha.run cpos pins s1 σ H1 _ I1 q1
  rw [hs] at hA ⊢
  refine Calls.callWith_builtin (by show (false || (backTo cpos (starEach es X.env)).any (·.1)) = false; rw [hplain] <;> rfl) (Calls.evalArgs_plain ?_)
  exact thn hA fun us s2 ⟨vs, H2, I2, r2, q2⟩ => hm pins s2 σ H2 (V.ref p) vs (Value.ref p) us Q I2 rfl r2 q2
/-- t.index(x): the first place of an equal one -/
def rIndexT (K : PySem.W.Frag) : V → List V → Hp → VK → Prop := fun x xs H Q => ∃ (a : Addr) (y : V) (d : PyData) (ds : List PyData) (j : Nat) (z : PyData), x = V.ref a ∧ xs = [y] ∧ Dp K H (V.ref a) (.tuple ds) ∧ Dp K H y d ∧
  SeqAt.shaped (.tuple ds) = true ∧ SeqAt.shaped d = true ∧ ds[j]? = some z ∧ PyData.eqv z d = true ∧ (∀ (m : Nat) (z' : PyData), m < j → ds[m]? = some z' → PyData.eqv z' d = false) ∧ Q (.int (j : Nat)) H
theorem mt_indexT (hu : X.A.units + 65 < cLine) : MtR X "tuple.index" (rIndexT X.K) := by
  intro pins s σ H x xs v us Q I rx rxs h
  obtain ⟨a, y, d, ds, j, z, rfl, rfl, hl, hy, sl, sd, hz, hzj, hno, q⟩ := h
  cases rx
  cases rxs with
  | cons ry rt =>
    rename_i uy ut
    cases rt
    obtain ⟨bs, r1⟩ := Dp.reads I d y uy hy ry
    have hxs : PyData.canLayAll0 ds = true := SeqAt.canLay_of_shaped sl
    have hroom : X.A.units + 1 + min (PyData.depthAll ds) d.depth < cLine := room_in_shaped sd hu
    cases hl with
    | tup hs ha =>
      obtain ⟨its, rv, ⟨⟨cls, dd, data, sls⟩, ho, hc, n, hdt⟩, hlen⟩ := I.tuple hs
      simp only at hc hdt
      subst hc hdt
      obtain ⟨as, h4⟩ := Dp.readsAll I ds _ its ha rv
      have hn : its.length = ds.length := SeqAt.ReadsAll.length ds its as h4
      have hmap : its.map (SeqAt.readOf s.heap) = ds := SeqAt.readsAll_map ds its as hxs h4
      obtain ⟨hjd, _⟩ := List.getElem?_eq_some_iff.mp hz
      have hjl : j < its.length := by omega
      have hj : j < its.toArray.size := by simpa using hjl
      have at_ : ∀ (m : Nat) (hm : m < its.toArray.size) (z' : PyData), ds[m]? = some z' → SeqAt.readOf s.heap its.toArray[m] = z' := by
        intro m hm z' hz'
        have hml : m < its.length := by simpa using hm
        rw [← hmap, List.getElem?_map, List.getElem?_eq_getElem hml] at hz'
        have e1 : SeqAt.readOf s.heap its[m] = z' := Option.some.inj (show some (SeqAt.readOf s.heap its[m]) = some z' from hz')
        simpa using e1
      refine call_meets PySem.F.slot_tuple_index ⟨_, ho, rfl⟩ PySem.F.entry_tuple_index (PySem.F.args_tuple_index_2 _ _)
        (TI.tuple_indexAt a its.toArray n dd sls uy (fun u => PyData.eqv (SeqAt.readOf s.heap u) d) j hj ?_ ?_) ⟨ho, SeqAt.items_eqAt (vs := its.toArray) (show ReadsAll s.heap its.toArray.toList ds as from h4) r1 hxs (SeqAt.canLay_of_shaped sd) hroom, ?_⟩
      · show PyData.eqv (SeqAt.readOf s.heap its.toArray[j]) d = true
        rw [at_ j hj z hz]
        exact hzj
      · intro m hm hmj
        have hmd : m < ds.length := by
          have : m < its.length := by simpa using hm
          omega
        have hz' : ds[m]? = some ds[m] := List.getElem?_eq_getElem hmd
        show PyData.eqv (SeqAt.readOf s.heap its.toArray[m]) d = false
        rw [at_ m hm _ hz']
        exact hno m _ hmj hz'
      · exact ⟨.int (j : Nat), H, I.tok _, ⟨_, rfl⟩, q⟩
/-- l.count(x) -/
def rCountD (K : PySem.W.Frag) : V → List V → Hp → VK → Prop := fun x xs H Q => ∃ (a : Addr) (y : V) (d : PyData) (ds : List PyData), x = V.ref a ∧ xs = [y] ∧ Dp K H (V.ref a) (.list ds) ∧ Dp K H y d ∧
  SeqAt.shaped (.list ds) = true ∧ SeqAt.shaped d = true ∧ Q (.int ((ds.countP fun z => PyData.eqv z d) : Nat)) H
theorem mt_countD (hu : X.A.units + 65 < cLine) : MtR X "list.count" (rCountD X.K) := by
  intro pins s σ H x xs v us Q I rx rxs h
  obtain ⟨a, y, d, ds, rfl, rfl, hl, hy, sl, sd, q⟩ := h
  cases rx
  cases rxs with
  | cons ry rt =>
    rename_i uy ut
    cases rt
    obtain ⟨bs, r1⟩ := Dp.reads I d y uy hy ry
    have hxs : PyData.canLayAll0 ds = true := SeqAt.canLay_of_shaped sl
    have hroom : X.A.units + 1 + min (PyData.depthAll ds) d.depth < cLine := room_in_shaped sd hu
    cases hl with
    | lst hs ha =>
      obtain ⟨its, rv, ⟨⟨cls, dd, data, sls⟩, n, ho, hc, hdn, hdt⟩, hlen⟩ := I.list hs
      simp only at hc hdt
      subst hc hdt
      obtain ⟨as, h4⟩ := Dp.readsAll I ds _ its ha rv
      have hmap : its.map (SeqAt.readOf s.heap) = ds := SeqAt.readsAll_map ds its as hxs h4
      refine call_meets PySem.F.slot_list_count ⟨_, ho, rfl⟩ PySem.F.entry_list_count (PySem.F.args_list_count_2 _ _)
        (SeqAt.list_countAt a its.toArray n dd sls uy (fun u => PyData.eqv (SeqAt.readOf s.heap u) d)) ⟨ho, SeqAt.items_eqAt (vs := its.toArray) (show ReadsAll s.heap its.toArray.toList ds as from h4) r1 hxs (SeqAt.canLay_of_shaped sd) hroom, ?_⟩
      have ec : its.toArray.toList.countP (fun u => PyData.eqv (SeqAt.readOf s.heap u) d) = ds.countP fun z => PyData.eqv z d := by
        rw [← hmap, List.countP_map]
        rfl
      refine ⟨.int ((ds.countP fun z => PyData.eqv z d) : Nat), H, I.tok _, ⟨s.toks, ?_⟩, q⟩
      show Value.int ((its.toArray.toList.countP (fun u => PyData.eqv (SeqAt.readOf s.heap u) d) : Nat) : Int) s.toks = _
      rw [ec]
end
end Pv

set_option Elab.async false
set_option linter.all false
set_option maxRecDepth 100000
namespace Pv
open PySem PySem.Spec PyProof.Rows L2
/-! operators by data -/
mutual
def toPy : D → Option PyData
  | .non => some .none
  | .bl b => some (.bool b)
  | .int i => some (.int i)
  | .str x => some (.str x)
  | .tup l => (toPys l).map .tuple
  | .ktup l => (toPys l).map .tuple
  | .lst l => (toPys l).map .list
  | .klst l => (toPys l).map .list
  | .dk _ _ => none
  | .dt _ _ => none
  | .adr _ => none
  | .ty _ => none
def toPys : List D → Option (List PyData)
  | [] => some []
  | d :: ds => match toPy d, toPys ds with
    | some p, some ps => some (p :: ps)
    | _, _ => none
end
section
variable {K : PySem.W.Frag} {H : Hp}
mutual
theorem Rep.dp : ∀ {v : V} {d : D} {p : PyData}, Rep K H v d → toPy d = some p → Dp K H v p
  | _, _, _, .non, e => by simp only [toPy, Option.some.injEq] at e; subst e; exact .non
  | _, _, _, .bl _, e => by simp only [toPy, Option.some.injEq] at e; subst e; exact .bl _
  | _, _, _, .int _, e => by simp only [toPy, Option.some.injEq] at e; subst e; exact .int _
  | _, _, _, .str _, e => by simp only [toPy, Option.some.injEq] at e; subst e; exact .str _
  | _, _, _, .tup a b c, e => by
    simp only [toPy, Option.map_eq_some_iff] at e
    obtain ⟨ps, e1, rfl⟩ := e
    exact .tup (.inl (.inl a)) (Reps.dp c e1)
  | _, _, _, .ktup a b c, e => by
    simp only [toPy, Option.map_eq_some_iff] at e
    obtain ⟨ps, e1, rfl⟩ := e
    exact .tup a.sqt (Reps.dp c e1)
  | _, _, _, .lst a b c, e => by
    simp only [toPy, Option.map_eq_some_iff] at e
    obtain ⟨ps, e1, rfl⟩ := e
    exact .lst (.inl (.inl a)) (Reps.dp c e1)
  | _, _, _, .klst a b c, e => by
    simp only [toPy, Option.map_eq_some_iff] at e
    obtain ⟨ps, e1, rfl⟩ := e
    exact .lst a (Reps.dp c e1)
  | _, _, _, .dk _ _ _, e => by simp only [toPy] at e; cases e
  | _, _, _, .dt _ _ _, e => by simp only [toPy] at e; cases e
  | _, _, _, .adr _, e => by simp only [toPy] at e; cases e
  | _, _, _, .ty _, e => by simp only [toPy] at e; cases e
theorem Reps.dp : ∀ {vs : List V} {ds : List D} {ps : List PyData}, Reps K H vs ds → toPys ds = some ps → DpAll K H vs ps
  | _, _, _, .nil, e => by simp only [toPys, Option.some.injEq] at e; subst e; exact .nil
  | _, _, _, .cons (d := d) (ds := ds) a b, e => by
    unfold toPys at e
    cases e1 : toPy d with
    | none => rw [e1] at e; cases e
    | some p =>
      cases e2 : toPys ds with
      | none => rw [e1, e2] at e; cases e
      | some ps =>
        rw [e1, e2] at e
        cases e
        exact .cons (Rep.dp a e1) (Reps.dp b e2)
end
end
section
variable {K : PySem.W.Frag} {F H : Hp}
theorem BRep.up (s : Same F H) {v : V} {d : D} (h : BRep K F H v d) : Rep K H v d := by
  rcases h with h | ⟨a, ho, o, rfl, h1, h2, rfl⟩
  · exact h.mono s
  · exact (h2.mono s).rep h1
theorem BRep.dp (s : Same F H) {v : V} {d : D} {p : PyData} (h : BRep K F H v d) (e : toPy d = some p) : Dp K H v p := (h.up s).dp e
/-- items of a borrowed list -/
theorem BRep.list {v : V} {d : D} {ds : List D} (s : Same F H) (h : BRep K F H v d) (e : lstOf d = some ds) : ∃ a vs, v = .ref a ∧ SqL K H a vs ∧ vs.length ≤ sizeLine ∧ Reps K F vs ds := by
  rcases h with h | ⟨a, ho, o, rfl, h1, h2, rfl⟩
  · obtain ⟨a, vs, e1, e2, e3, e4⟩ := rep_lstOf h e
    exact ⟨a, vs, e1, same_sql s e2, e3, e4⟩
  · cases o with
    | li l =>
      cases e
      obtain ⟨vs, rfl, h3, h4⟩ := h2
      exact ⟨a, vs, rfl, .inl (.inl h1), h3, h4⟩
    | _ => cases e
/-- of a list that stands by itself -/
theorem BRep.dlist {v : V} {ds : List D} (s : Same F H) (h : BRep K F H v (.lst ds)) : ∃ a vs, v = .ref a ∧ H a = some (.lst vs) ∧ vs.length ≤ sizeLine ∧ Reps K F vs ds := by
  rcases h with h | ⟨a, ho, o, rfl, h1, h2, e⟩
  · cases h with | lst h1 h2 h3 => exact ⟨_, _, rfl, s _ _ h1, h2, h3⟩
  · cases o with
    | li l =>
      cases e
      obtain ⟨vs, rfl, h3, h4⟩ := h2
      exact ⟨a, vs, rfl, h1, h3, h4⟩
    | _ => cases e
theorem BRep.tuple {v : V} {d : D} {ds : List D} (s : Same F H) (h : BRep K F H v d) (e : tupOf d = some ds) : ∃ a vs, v = .ref a ∧ SqT K H a vs ∧ vs.length ≤ sizeLine ∧ Reps K F vs ds := by
  rcases h with h | ⟨a, ho, o, rfl, h1, h2, rfl⟩
  · obtain ⟨a, vs, e1, e2, e3, e4⟩ := rep_tupOf h e
    exact ⟨a, vs, e1, same_sqt s e2, e3, e4⟩
  · cases o <;> cases e
theorem BRep.str {v : V} {x : Str} (h : BRep K F H v (.str x)) : v = .str x := by
  rcases h with h | ⟨a, ho, o, _, _, _, e⟩
  · cases h; rfl
  · cases o <;> cases e
theorem BRep.non {v : V} (h : BRep K F H v .non) : v = .non := by
  rcases h with h | ⟨a, ho, o, _, _, _, e⟩
  · cases h; rfl
  · cases o <;> cases e
end

/-! == and != -/
def eqD (a b : D) : Option Bool := match toPy a, toPy b with
  | some p, some q => if (SeqAt.shaped p && SeqAt.shaped q) = true then some (PyData.eqv p q) else none
  | _, _ => none
def opEq (a b : D) : Option D := (eqD a b).map .bl
def opNe (a b : D) : Option D := (eqD a b).map fun x => .bl (!x)
theorem os_eq {K : PySem.W.Frag} : OpS K (rEqD K) opEq := fun F H x y a b c Q s ra rb e q => by
  unfold opEq eqD at e
  cases e1 : toPy a with
  | none => rw [e1] at e; cases e
  | some p =>
    cases e2 : toPy b with
    | none => rw [e1, e2] at e; cases e
    | some r =>
      rw [e1, e2] at e
      dsimp only at e
      split at e
      · rename_i h
        rw [Bool.and_eq_true] at h
        cases e
        exact ⟨p, r, ra.dp s e1, rb.dp s e2, h.1, h.2, q F H _ (.refl _ _) (.bl _)⟩
      · cases e
theorem os_ne {K : PySem.W.Frag} : OpS K (rNeD K) opNe := fun F H x y a b c Q s ra rb e q => by
  unfold opNe eqD at e
  cases e1 : toPy a with
  | none => rw [e1] at e; cases e
  | some p =>
    cases e2 : toPy b with
    | none => rw [e1, e2] at e; cases e
    | some r =>
      rw [e1, e2] at e
      dsimp only at e
      split at e
      · rename_i h
        rw [Bool.and_eq_true] at h
        cases e
        exact ⟨p, r, ra.dp s e1, rb.dp s e2, h.1, h.2, q F H _ (.refl _ _) (.bl _)⟩
      · cases e
/-! numbers -/
def int2 (g : Int → Int → Option D) (a b : D) : Option D := match a, b with
  | .int i, .int j => g i j
  | _, _ => none
theorem int2_some {g : Int → Int → Option D} {a b c : D} (e : int2 g a b = some c) : ∃ i j, a = .int i ∧ b = .int j ∧ g i j = some c := by
  unfold int2 at e
  split at e
  · exact ⟨_, _, rfl, rfl, e⟩
  · cases e
def opLt : D → D → Option D := int2 fun i j => some (.bl (decide (i < j)))
def opLe : D → D → Option D := int2 fun i j => some (.bl (decide (i ≤ j)))
def opGt : D → D → Option D := int2 fun i j => some (.bl (decide (j < i)))
def opGe : D → D → Option D := int2 fun i j => some (.bl (decide (j ≤ i)))
def opSub : D → D → Option D := int2 fun i j => some (.int (i - j))
theorem os_int2 {K : PySem.W.Frag} {g : Int → Int → D} {u : Int → Int → V} (hu : ∀ i j F, Rep K F (u i j) (g i j)) : OpS K (rI0 u) (int2 fun i j => some (g i j)) := fun F H x y a b c Q s ra rb e q => by
  obtain ⟨i, j, rfl, rfl, e⟩ := int2_some e
  cases e
  exact ⟨i, j, ra.int, rb.int, q F H _ (.refl _ _) (hu _ _ _)⟩
theorem os_lt {K : PySem.W.Frag} : OpS K (rI0 fun i j => .bl (decide (i < j))) opLt := os_int2 fun _ _ _ => .bl _
theorem os_le {K : PySem.W.Frag} : OpS K (rI0 fun i j => .bl (decide (i ≤ j))) opLe := os_int2 fun _ _ _ => .bl _
theorem os_gt {K : PySem.W.Frag} : OpS K (rI0 fun i j => .bl (decide (j < i))) opGt := os_int2 fun _ _ _ => .bl _
theorem os_ge {K : PySem.W.Frag} : OpS K (rI0 fun i j => .bl (decide (j ≤ i))) opGe := os_int2 fun _ _ _ => .bl _
theorem os_sub {K : PySem.W.Frag} : OpS K (rI0 fun i j => .int (i - j)) opSub := os_int2 fun _ _ _ => .int _
instance (i j : Int) : Decidable (L2.CMul i j) := by unfold L2.CMul; infer_instance
instance (i j : Int) : Decidable (L2.CMulW i j) := by unfold L2.CMulW; infer_instance
end Pv

set_option Elab.async false
set_option linter.all false
set_option maxRecDepth 100000
namespace Pv
open PySem PySem.Spec PyProof.Rows L2
def big : Nat := 16777216
theorem big_line : big = sizeLine := sizeLine_eq.symm
def intsOf : List D → Option (List Int)
  | [] => some []
  | .int i :: ds => (intsOf ds).map (i :: ·)
  | _ :: _ => none
theorem intsOf_eq : ∀ {ds : List D} {ns : List Int}, intsOf ds = some ns → ds = ns.map .int
  | [], _, e => by cases e; rfl
  | d :: ds, _, e => by
    unfold intsOf at e
    split at e
    · rename_i h; cases h
    · rename_i i ds' h
      cases h
      obtain ⟨ns, e1, rfl⟩ := Option.map_eq_some_iff.mp e
      rw [intsOf_eq e1]; rfl
    · cases e
theorem intsOf_map : ∀ ns : List Int, intsOf (ns.map .int) = some ns
  | [] => rfl
  | n :: ns => by show (intsOf (ns.map .int)).map (n :: ·) = _; rw [intsOf_map ns]; rfl
theorem Reps.ints_inv {K : PySem.W.Frag} {F : Hp} : ∀ {vs : List V} {ns : List Int}, Reps K F vs (ns.map D.int) → vs = ns.map V.int
  | _, [], h => by cases h; rfl
  | _, n :: ns, h => by
    cases h with
    | cons a b => cases a; rw [Reps.ints_inv b]; rfl
def addD (a b : D) : Option D := match tupOf a, tupOf b with
  | some xs, some ys => if xs.length + ys.length ≤ big then some (if xs = [] then b else if ys = [] then a else .ktup (xs ++ ys)) else none
  | _, _ => none
def opAdd (a b : D) : Option D := match a, b with
  | .int i, .int j => some (.int (i + j))
  | .str x, .str y => if x.length + y.length ≤ big then some (.str (x ++ y)) else none
  | .lst xs, .lst ys => if xs.length + ys.length ≤ big then some (.lst (xs ++ ys)) else none
  | .tup xs, .tup ys => if xs.length + ys.length ≤ big then some (match xs, ys with | [], _ => .tup ys | _, [] => .tup xs | _, _ => .ktup (xs ++ ys)) else none
  | .ktup xs, .tup ys => if xs.length + ys.length ≤ big then some (match xs, ys with | [], _ => .tup ys | _, [] => .ktup xs | _, _ => .ktup (xs ++ ys)) else none
  | .tup xs, .ktup ys => if xs.length + ys.length ≤ big then some (match xs, ys with | [], _ => .ktup ys | _, [] => .tup xs | _, _ => .ktup (xs ++ ys)) else none
  | .ktup xs, .ktup ys => if xs.length + ys.length ≤ big then some (.ktup (xs ++ ys)) else none
  | _, _ => none
def rAddStr : R2 := fun x y H Q => ∃ i j, x = .str i ∧ y = .str j ∧ i.length + j.length ≤ sizeLine ∧ Q (.str (i ++ j)) H
def rAddAll (K : PySem.W.Frag) : R2 := fun x y H Q => rI0 (fun i j => .int (i + j)) x y H Q ∨ (rAddStr x y H Q ∨ (rCat x y H Q ∨ rCatF K x y H Q))
theorem op_addAll {X : Cx} : OpR X (binaryOp .Add) (rAddAll X.K) := op_add.or (op_add_str.or (op_cat.or op_catF))
theorem cat_case {K : PySem.W.Frag} {F H : Hp} {x y : V} {a b : D} {xs ys : List D} {Q : VK} (s : Same F H) (ra : BRep K F H x a) (rb : BRep K F H y b) (e1 : tupOf a = some xs) (e2 : tupOf b = some ys) (hl : xs.length + ys.length ≤ big)
    (q0 : xs = [] → ∀ F' H' v, Grow F H F' H' → Rep K F' v b → Q v H') (q1 : xs ≠ [] → ys = [] → ∀ F' H' v, Grow F H F' H' → Rep K F' v a → Q v H') (q2 : xs ≠ [] → ys ≠ [] → ∀ F' H' v, Grow F H F' H' → Rep K F' v (.ktup (xs ++ ys)) → Q v H') : rCatF K x y H Q := by
  obtain ⟨p, vs, rfl, h1, h2, h3⟩ := ra.tuple s e1
  obtain ⟨p', us, rfl, g1, g2, g3⟩ := rb.tuple s e2
  have l1 := h3.length
  have l2 := g3.length
  have fz : ∀ {v : V} {d : D}, BRep K F H v d → ∀ {ds}, tupOf d = some ds → Rep K F v d := fun {v d} r {ds} e => by
    rcases r with r | ⟨a, ho, o, rfl, _, _, rfl⟩
    · exact r
    · cases o <;> cases e
  have hz : vs.length + us.length ≤ sizeLine := by rw [← big_line]; omega
  have nx : vs = [] ↔ xs = [] := by rw [← List.length_eq_zero_iff, ← List.length_eq_zero_iff, l1]
  have ny : us = [] ↔ ys = [] := by rw [← List.length_eq_zero_iff, ← List.length_eq_zero_iff, l2]
  refine ⟨p, p', vs, us, rfl, rfl, h1, g1, hz, fun z => q0 (nx.mp z) F H _ (.refl _ _) (fz rb e2), fun z z' => q1 (fun t => z (nx.mpr t)) (ny.mp z') F H _ (.refl _ _) (fz ra e1), fun z z' q o hq ho => ?_⟩
  refine q2 (fun t => z (nx.mpr t)) (fun t => z' (ny.mpr t)) _ _ _ (.new (.refl _ _) hq) (.ktup (.inl ⟨o, upd_same, ho⟩) (by rw [List.length_append]; exact hz) ?_)
  exact (h3.append g3).mono (same_new (s.free hq))
theorem os_add {K : PySem.W.Frag} : OpS K (rAddAll K) opAdd := fun F H x y a b c Q s ra rb e q => by
  unfold opAdd at e
  split at e
  · cases e; exact .inl ⟨_, _, ra.int, rb.int, q F H _ (.refl _ _) (.int _)⟩
  · split at e
    · rename_i h; cases e; exact .inr (.inl ⟨_, _, ra.str, rb.str, by rw [← big_line]; exact h, q F H _ (.refl _ _) (.str _)⟩)
    · cases e
  · split at e
    · rename_i h
      cases e
      obtain ⟨p, vs, rfl, h1, h2, h3⟩ := ra.dlist s
      obtain ⟨p', us, rfl, g1, g2, g3⟩ := rb.dlist s
      have l1 := h3.length
      have l2 := g3.length
      refine .inr (.inr (.inl ⟨p, p', vs, us, rfl, rfl, h1, g1, by rw [← big_line]; omega, fun r hr => ?_⟩))
      exact q _ _ _ (.new (.refl _ _) hr) (.lst upd_same (by rw [List.length_append, ← big_line]; omega) ((h3.append g3).mono (same_new (s.free hr))))
    · cases e
  · rename_i xs ys
    split at e
    · rename_i h
      refine .inr (.inr (.inr (cat_case (xs := xs) (ys := ys) s ra rb rfl rfl h (fun z => ?_) (fun z z' => ?_) (fun z z' => ?_))))
      · subst z; cases e; exact q
      · subst z'; cases xs with | nil => exact absurd rfl z | cons _ _ => cases e; exact q
      · cases xs with | nil => exact absurd rfl z | cons _ _ => cases ys with | nil => exact absurd rfl z' | cons _ _ => cases e; exact q
    · cases e
  · rename_i xs ys
    split at e
    · rename_i h
      refine .inr (.inr (.inr (cat_case (xs := xs) (ys := ys) s ra rb rfl rfl h (fun z => ?_) (fun z z' => ?_) (fun z z' => ?_))))
      · subst z; cases e; exact q
      · subst z'; cases xs with | nil => exact absurd rfl z | cons _ _ => cases e; exact q
      · cases xs with | nil => exact absurd rfl z | cons _ _ => cases ys with | nil => exact absurd rfl z' | cons _ _ => cases e; exact q
    · cases e
  · rename_i xs ys
    split at e
    · rename_i h
      refine .inr (.inr (.inr (cat_case (xs := xs) (ys := ys) s ra rb rfl rfl h (fun z => ?_) (fun z z' => ?_) (fun z z' => ?_))))
      · subst z; cases e; exact q
      · subst z'; cases xs with | nil => exact absurd rfl z | cons _ _ => cases e; exact q
      · cases xs with | nil => exact absurd rfl z | cons _ _ => cases ys with | nil => exact absurd rfl z' | cons _ _ => cases e; exact q
    · cases e
  · rename_i xs ys
    split at e
    · rename_i h
      cases e
      refine .inr (.inr (.inr (cat_case (xs := xs) (ys := ys) s ra rb rfl rfl h (fun z => ?_) (fun z z' => ?_) (fun z z' => ?_))))
      · subst z; exact q
      · subst z'; rw [List.append_nil] at q; exact q
      · exact q
    · cases e
  · cases e
def opMul : D → D → Option D := int2 fun i j => if L2.CMul i j ∨ L2.CMulW i j then some (.int (i * j)) else none
def rMulAll : R2 := fun x y H Q => rI L2.CMul (fun i j => .int (i * j)) x y H Q ∨ rI L2.CMulW (fun i j => .int (i * j)) x y H Q
theorem op_mulAll {X : Cx} : OpR X (binaryOp .Mult) rMulAll := op_mul.or op_mulW
theorem os_mul {K : PySem.W.Frag} : OpS K rMulAll opMul := fun F H x y a b c Q s ra rb e q => by
  obtain ⟨i, j, rfl, rfl, e'⟩ := int2_some e
  clear e
  split at e'
  · rename_i h
    cases e'
    rcases h with h | h
    · exact .inl ⟨i, j, ra.int, rb.int, h, q F H _ (.refl _ _) (.int _)⟩
    · exact .inr ⟨i, j, ra.int, rb.int, h, q F H _ (.refl _ _) (.int _)⟩
  · cases e'
instance (i j : Int) : Decidable (L2.CDivW i j) := by unfold L2.CDivW; infer_instance
def opDiv : D → D → Option D := int2 fun i j => if L2.CDivW i j then some (.int (i / j)) else none
theorem os_div {K : PySem.W.Frag} : OpS K (rI L2.CDivW fun i j => .int (i / j)) opDiv := fun F H x y a b c Q s ra rb e q => by
  obtain ⟨i, j, rfl, rfl, e'⟩ := int2_some e
  clear e
  split at e'
  · rename_i h; cases e'; exact ⟨i, j, ra.int, rb.int, h, q F H _ (.refl _ _) (.int _)⟩
  · cases e'
def opMod : D → D → Option D := int2 fun i j => if 0 < j then some (.int (i % j)) else none
theorem os_mod {K : PySem.W.Frag} : OpS K (rI (fun _ j => 0 < j) fun i j => .int (i % j)) opMod := fun F H x y a b c Q s ra rb e q => by
  obtain ⟨i, j, rfl, rfl, e'⟩ := int2_some e
  clear e
  split at e'
  · rename_i h; cases e'; exact ⟨i, j, ra.int, rb.int, h, q F H _ (.refl _ _) (.int _)⟩
  · cases e'
instance (i j : Int) : Decidable (L2.CPow i j) := by unfold L2.CPow; infer_instance
def opPow : D → D → Option D := int2 fun i j => if L2.CPow i j then some (.int (i ^ j.toNat)) else none
theorem os_pow {K : PySem.W.Frag} : OpS K (rI L2.CPow fun i j => .int (i ^ j.toNat)) opPow := fun F H x y a b c Q s ra rb e q => by
  obtain ⟨i, j, rfl, rfl, e'⟩ := int2_some e
  clear e
  split at e'
  · rename_i h; cases e'; exact ⟨i, j, ra.int, rb.int, h, q F H _ (.refl _ _) (.int _)⟩
  · cases e'
def opNeg : D → Option D
  | .int i => some (.int (-i))
  | _ => none
theorem us_neg {K : PySem.W.Frag} : UnS K (rU fun i => .int (-i)) opNeg := fun F H x a c Q s ra e q => by
  unfold opNeg at e
  split at e
  · cases e; exact ⟨_, ra.int, q F H _ (.refl _ _) (.int _)⟩
  · cases e
/-! < also of tuples of ints -/
def opLtA (a b : D) : Option D := match a, b with
  | .int i, .int j => some (.bl (decide (i < j)))
  | _, _ => match tupOf a, tupOf b with
    | some xs, some ys => match intsOf xs, intsOf ys with
      | some ns, some ms => some (.bl (HT.lexLt ns ms))
      | _, _ => none
    | _, _ => none
def rLtAll (K : PySem.W.Frag) : R2 := fun x y H Q => rI0 (fun i j => .bl (decide (i < j))) x y H Q ∨ rLtT K x y H Q
theorem op_ltAll {X : Cx} (hu : X.A.units < cLine) : OpR X (compareOp .Lt) (rLtAll X.K) := op_lt.or (op_ltT hu)
theorem os_ltA {K : PySem.W.Frag} : OpS K (rLtAll K) opLtA := fun F H x y a b c Q s ra rb e q => by
  unfold opLtA at e
  split at e
  · cases e; exact .inl ⟨_, _, ra.int, rb.int, q F H _ (.refl _ _) (.bl _)⟩
  · cases e1 : tupOf a with
    | none => rw [e1] at e; cases e
    | some xs =>
      cases e2 : tupOf b with
      | none => rw [e1, e2] at e; cases e
      | some ys =>
        rw [e1, e2] at e
        dsimp only at e
        cases f1 : intsOf xs with
        | none => rw [f1] at e; cases e
        | some ns =>
          cases f2 : intsOf ys with
          | none => rw [f1, f2] at e; cases e
          | some ms =>
            rw [f1, f2] at e
            cases e
            obtain ⟨p, vs, rfl, h1, h2, h3⟩ := ra.tuple s e1
            obtain ⟨p', us, rfl, g1, g2, g3⟩ := rb.tuple s e2
            rw [intsOf_eq f1] at h3
            rw [intsOf_eq f2] at g3
            rw [h3.ints_inv] at h1
            rw [g3.ints_inv] at g1
            exact .inr ⟨p, p', ns, ms, rfl, rfl, h1, g1, q F H _ (.refl _ _) (.bl _)⟩
/-! subscripts -/
def opIx (a b : D) : Option D := match b with
  | .int i => match itemsOf a with
    | some ds => atI ds i
    | none => match a with
      | .str z => if z.length ≤ big then (atI z.cps.toList i).map fun c => .str ⟨#[c]⟩ else none
      | _ => none
  | _ => none
theorem itemsOf_cases {d : D} {ds : List D} (e : itemsOf d = some ds) : lstOf d = some ds ∨ tupOf d = some ds := by
  cases d <;> first | (cases e; exact .inl rfl) | (cases e; exact .inr rfl) | cases e
theorem atI_reps {K : PySem.W.Frag} {F : Hp} {vs : List V} {ds : List D} {i : Int} {d : D} (r : Reps K F vs ds) (e : atI ds i = some d) : ∃ v, atI vs i = some v ∧ Rep K F v d := by
  unfold atI at e ⊢
  rw [r.length]
  cases q : ixN ds.length i with
  | none => rw [q] at e; cases e
  | some j =>
    rw [q] at e
    exact r.get e
theorem os_ix {K : PySem.W.Frag} : OpS K (rIx K) opIx := fun F H x y a b c Q s ra rb e q => by
  unfold opIx at e
  split at e
  · rename_i i
    cases e1 : itemsOf a with
    | some ds =>
      rw [e1] at e
      dsimp only at e
      rcases itemsOf_cases e1 with e2 | e2
      · obtain ⟨p, vs, rfl, h1, h2, h3⟩ := ra.list s e2
        obtain ⟨v, g1, g2⟩ := atI_reps h3 e
        exact .inl ⟨p, vs, i, v, rfl, rb.int, h1, g1, q F H _ (.refl _ _) g2⟩
      · obtain ⟨p, vs, rfl, h1, h2, h3⟩ := ra.tuple s e2
        obtain ⟨v, g1, g2⟩ := atI_reps h3 e
        exact .inr (.inl ⟨p, vs, i, v, rfl, rb.int, h1, g1, q F H _ (.refl _ _) g2⟩)
    | none =>
      rw [e1] at e
      dsimp only at e
      split at e
      · split at e
        · rename_i z h
          obtain ⟨cc, e3, rfl⟩ := Option.map_eq_some_iff.mp e
          exact .inr (.inr ⟨_, i, cc, ra.str, rb.int, by rw [← big_line]; exact h, e3, q F H _ (.refl _ _) (.str _)⟩)
        · cases e
      · cases e
  · cases e
/-! is None -/
def isNonD : D → Bool
  | .non => true
  | _ => false
theorem BRep.isNon {K : PySem.W.Frag} {F H : Hp} {v : V} {d : D} (h : BRep K F H v d) : decide (v = .non) = isNonD d := by
  rcases h with h | ⟨a, ho, o, rfl, _, _, rfl⟩
  · cases h <;> first | rfl | exact decide_eq_false (fun z => nomatch z)
  · cases o <;> exact decide_eq_false (fun z => nomatch z)
def opIs (a b : D) : Option D := match b with
  | .non => some (.bl (isNonD a))
  | _ => none
def opIsNot (a b : D) : Option D := match b with
  | .non => some (.bl (!isNonD a))
  | _ => none
theorem os_is {K : PySem.W.Frag} : OpS K (fun x y H Q => y = .non ∧ Q (.bl (decide (x = .non))) H) opIs := fun F H x y a b c Q s ra rb e q => by
  unfold opIs at e
  split at e
  · cases e
    refine ⟨rb.non, ?_⟩
    rw [ra.isNon]
    exact q F H _ (.refl _ _) (.bl _)
  · cases e
theorem os_isNot {K : PySem.W.Frag} : OpS K (fun x y H Q => y = .non ∧ Q (.bl (!decide (x = .non))) H) opIsNot := fun F H x y a b c Q s ra rb e q => by
  unfold opIsNot at e
  split at e
  · cases e
    refine ⟨rb.non, ?_⟩
    rw [ra.isNon]
    exact q F H _ (.refl _ _) (.bl _)
  · cases e
end Pv

set_option Elab.async false
set_option linter.all false
set_option maxRecDepth 100000
namespace Pv
open PySem PySem.Spec PyProof.Rows L2
/-! sorted of data of any kind -/
theorem Paired.zipped {α β : Type} {R : α → β → Prop} : ∀ {xs : List α} {ys : List β}, Paired R xs ys → ∀ p ∈ xs.zip ys, R p.1 p.2
  | _, _, .nil, p, h => nomatch h
  | _, _, .cons (a := a) (b := b) r t, p, h => by
    rcases List.mem_cons.mp h with e | e
    · rw [e]; exact r
    · exact Paired.zipped t p e
def sortV (vs : List V) (ps : List PyData) : List V := ((vs.zip ps).mergeSort (PySem.W.dataLe false (·.2))).map (·.1)
def rSortD (K : PySem.W.Frag) : List V → Hp → VK → Prop := fun xs H Q => ∃ (a : Addr) (vs : List V) (ps : List PyData), xs = [.ref a] ∧ SqL K H a vs ∧ DpAll K H vs ps ∧ PySem.W.AllAlike ps ∧ PySem.W.Sortable ps ∧ (∀ p ∈ ps, p.depth ≤ 60) ∧
  ∀ p, H p = none → Q (.ref p) (upd H p (.lst (sortV vs ps)))
theorem dpAll_len {K : PySem.W.Frag} {H : Hp} : ∀ {vs : List V} {ps : List PyData}, DpAll K H vs ps → vs.length = ps.length
  | _, _, .nil => rfl
  | _, _, .cons _ b => congrArg (· + 1) (dpAll_len b)
theorem vals_of_each : ∀ {us : List Value} {zs : List (V × PyData)}, PySem.W.EachIs (fun u (z : V × PyData) => RelV z.1 u) us zs → Vals (zs.map (·.1)) us
  | _, _, .nil => .nil
  | _, _, .cons a b => .cons a (vals_of_each b)
theorem each_of_vals : ∀ {us : List Value} {vs : List V} {ps : List PyData}, Vals vs us → vs.length = ps.length → PySem.W.EachIs (fun u (z : V × PyData) => RelV z.1 u) us (vs.zip ps)
  | _, _, [], .nil, _ => .nil
  | _, _, _ :: _, .nil, h => nomatch h
  | _, _, [], .cons _ _, h => nomatch h
  | _, _, p :: ps, .cons a b, h => .cons a (each_of_vals b (by simpa using h))
theorem each_reads {X : Cx} {pins : List (Addr × Obj)} {σ : L2.St} {H : Hp} {s : Shared} (I : Inv X pins σ H s) : ∀ {us : List Value} {vs : List V} {ps : List PyData}, Vals vs us → DpAll X.K H vs ps → PySem.W.EachIs (fun u (z : V × PyData) => ∃ as, Reads s.heap u z.2 as) us (vs.zip ps)
  | _, _, _, .nil, .nil => .nil
  | _, _, _, .cons a b, .cons c d => .cons (Dp.reads I _ _ _ c a) (each_reads I b d)
theorem zip_snd {vs : List V} {ps : List PyData} (h : vs.length = ps.length) : (vs.zip ps).map (·.2) = ps := by
  rw [List.map_snd_zip]; omega
theorem cr_sortedD {X : Cx} (hu : X.A.units + 64 < cLine) : CallR X (.builtin "sorted") (rSortD X.K) := by
  intro pins s σ H xs us Q I r h
  obtain ⟨a, vs, ps, rfl, hs, hd, hal, hsr, hdp, q⟩ := h
  obtain ⟨its, rv, hl, hz⟩ := I.list hs
  rw [Vals.ref1 r]
  have hlen := dpAll_len hd
  have ez := zip_snd hlen
  refine PySem.W.sorted_data (R := fun u (z : V × PyData) => RelV z.1 u) (bs := vs.zip ps) (enc := (·.2)) hl.isList (each_of_vals rv hlen) (each_reads I rv hd) (by rw [ez]; exact hal) (by rw [ez]; exact hsr) (by rw [List.length_zip, ← hlen, Nat.min_self]; exact hz)
    (fun b hb => by
      have : b.2 ∈ ps := by rw [← ez]; exact List.mem_map.mpr ⟨b, hb, rfl⟩
      have := hdp _ this
      omega) fun out hout he => ?_
  obtain ⟨ep, he'⟩ := PyProof.Rows.sortedAll_at s.heap its out.toArray
  have hl2 : (sortV vs ps).length ≤ sizeLine := by
    unfold sortV
    rw [List.length_map, List.length_mergeSort, List.length_zip, ← hlen, Nat.min_self]; exact hz
  exact ⟨.ref _, upd H (s.heap.objs.size + 1) (.lst (sortV vs ps)), I.laid (t' := s.toks) (fun _ _ => PyProof.Rows.sortedAll_old) (Nat.le_succ _) ⟨hl2, out, ep, vals_of_each he, he'⟩, rfl, q _ (I.hok.fresh (Nat.le_succ _))⟩
/-! dict(..) of pairs with tuples as keys -/
def mergeT (kvs more : List (List Key × V)) : List (List Key × V) := more.foldl (fun acc kv => putK acc kv.1 kv.2) kvs
theorem length_mergeT : ∀ (more kvs : List (List Key × V)), (mergeT kvs more).length ≤ kvs.length + more.length
  | [], kvs => by show kvs.length ≤ kvs.length + 0; omega
  | p :: r, kvs => by
    have h1 := length_mergeT r (putK kvs p.1 p.2)
    have h2 := length_putK kvs p.1 p.2
    show (mergeT (putK kvs p.1 p.2) r).length ≤ _
    rw [List.length_cons]; omega
def rDictT (K : PySem.W.Frag) : List V → Hp → VK → Prop := fun xs H Q => ∃ (a : Addr) (ps : List Addr) (kvs : List (List Key × Addr × V)), xs = [.ref a] ∧ SqL K H a (ps.map V.ref) ∧ Paired (fun p kv => SqT K H p [.ref kv.2.1, kv.2.2] ∧ H kv.2.1 = some (.tup (kv.1.map kV))) ps kvs ∧
  ∀ p, H p = none → Q (.ref p) (upd H p (.dT (mergeT [] (kvs.map fun x => (x.1, x.2.2)))))
/-- the values of the pairs -/
theorem pairsT {X : Cx} {pins : List (Addr × Obj)} {σ : L2.St} {H : Hp} {s : Shared} (I : Inv X pins σ H s) {ps : List Addr} {kvs : List (List Key × Addr × V)} (h : Paired (fun p kv => SqT X.K H p [.ref kv.2.1, kv.2.2] ∧ H kv.2.1 = some (.tup (kv.1.map kV))) ps kvs) :
    ∃ xs : List (List Key × Addr × Value), Paired (fun (k : List Key × Addr × V) (x : List Key × Addr × Value) => k.1 = x.1 ∧ k.2.1 = x.2.1 ∧ RelV k.2.2 x.2.2 ∧ H x.2.1 = some (.tup (x.1.map kV))) kvs xs ∧ ps.length = xs.length ∧
      ∀ (j : Nat) (x : List Key × Addr × Value), xs[j]? = some x → ∃ b, ps[j]? = some b ∧ IsTup s.heap b #[.ref x.2.1, x.2.2] := by
  induction h with
  | nil => exact ⟨[], .nil, rfl, fun j x e => by simp at e⟩
  | @cons p kv ps kvs hp t ih =>
    obtain ⟨xs, h1, h2, h3⟩ := ih
    obtain ⟨hq, hk⟩ := hp
    obtain ⟨its, rv, pt, _⟩ := I.tuple hq
    cases rv with
    | @cons _ u1 _ _ r1 rr =>
      cases rr with
      | @cons _ u2 _ _ r2 rr2 =>
        cases rr2
        cases r1
        refine ⟨(kv.1, kv.2.1, u2) :: xs, .cons ⟨rfl, rfl, r2, hk⟩ h1, congrArg (· + 1) h2, fun j x e => ?_⟩
        cases j with
        | zero => simp at e; subst e; exact ⟨p, rfl, pt⟩
        | succ j => simpa using h3 j x (by simpa using e)
theorem kt_merge {H : Hp} {kvs : List (List Key × Addr × V)} {xs : List (List Key × Addr × Value)} (h : Paired (fun (k : List Key × Addr × V) (x : List Key × Addr × Value) => k.1 = x.1 ∧ k.2.1 = x.2.1 ∧ RelV k.2.2 x.2.2 ∧ H x.2.1 = some (.tup (x.1.map kV))) kvs xs) :
    ∀ {acc : List (List Key × V)} {ac2 : List (List Key × Addr × Value)}, KT H acc ac2 → KT H (mergeT acc (kvs.map fun x => (x.1, x.2.2))) (PySem.storedAllH ac2 xs) := by
  induction h with
  | nil => intro acc ac2 h; exact h
  | @cons kv x kvs xs hx t ih =>
    intro acc ac2 h
    obtain ⟨e1, e2, r, hk⟩ := hx
    have h' : KT H (putK acc x.1 kv.2.2) (storedH ac2 x.1 x.2.1 x.2.2) := h.put x.1 hk r
    rw [← e1] at h'
    have := ih h'
    rw [show PySem.storedAllH ac2 (x :: xs) = PySem.storedAllH (storedH ac2 x.1 x.2.1 x.2.2) xs from rfl, ← e1]
    exact this
theorem keys_in {X : Cx} {pins : List (Addr × Obj)} {σ : L2.St} {H : Hp} {s : Shared} (I : Inv X pins σ H s) {kvs : List (List Key × Addr × V)} {xs : List (List Key × Addr × Value)} (h : Paired (fun (k : List Key × Addr × V) (x : List Key × Addr × Value) => k.1 = x.1 ∧ k.2.1 = x.2.1 ∧ RelV k.2.2 x.2.2 ∧ H x.2.1 = some (.tup (x.1.map kV))) kvs xs) :
    ∀ x ∈ xs, H x.2.1 = some (.tup (x.1.map kV)) := by
  induction h with
  | nil => intro x hx; exact nomatch hx
  | @cons k y _ _ a t ih =>
    intro x hx
    rcases List.mem_cons.mp hx with e | e
    · subst e; exact a.2.2.2
    · exact ih x e
theorem call_dictT {X : Cx} (hcalm : X.calm = true) (hu : X.A.units + 64 < cLine) : CallR X (.type "dict") (rDictT X.K) := by
  intro pins s σ H xs us Q I r h
  obtain ⟨a, ps, kvs, rfl, hq, hp, q⟩ := h
  obtain ⟨u, rfl, rx⟩ := vals1 r
  cases rx
  obtain ⟨its, rv, pl, hz⟩ := I.list hq
  have ei := refs_at rv
  subst ei
  rw [List.length_map] at hz
  obtain ⟨prs, rel, hl, hpr⟩ := pairsT I hp
  have hks := keys_in I rel
  obtain ⟨o, n, ho, hc, hd, hdat⟩ := pl
  have lenk : kvs.length = prs.length := Paired.length rel
  refine PySem.call_dict_pairsH (knd := tupleKind (mixKind X.prog X.w)) (ps := prs) (PySem.PairArg.list a (ps.map Value.ref).toArray (fun j => ps.getD j 0) (prs.map fun x => (.ref x.2.1, x.2.2))) (I.ok.hd hcalm) (by show X.A.in1.in1.units < cLine; show X.A.units + 1 + 1 < cLine; omega)
    ⟨⟨o, n, ho, hc, hd, hdat⟩, by simp [hl], fun j k v e => ?_⟩ ⟨by simp, fun i key v e => ?_⟩ (fun h' hk x hx => ?_) (by rw [List.length_map, ← hl]; exact hz) fun h' tk hd' hk => ?_
  · rw [List.getElem?_map] at e
    cases e1 : prs[j]? with
    | none => rw [e1] at e; cases e
    | some x =>
      rw [e1] at e
      cases e
      obtain ⟨b, h1, h2⟩ := hpr j x e1
      have hb : ps.getD j 0 = b := by rw [List.getD_eq_getElem?_getD, h1]; rfl
      refine ⟨by simp [h1, hb], .inl ?_⟩
      show IsTup s.heap (ps.getD j 0) _
      rw [hb]
      exact h2
  · rw [PySem.PairRel, List.getElem?_map] at e
    cases e1 : prs[i]? with
    | none => rw [e1] at e; cases e
    | some x =>
      rw [e1] at e
      cases e
      exact ⟨x.1, x.2.1, rfl, rfl⟩
  · have ok' : ObjOk X.prog X.w H s.heap x.2.1 (.tup (x.1.map kV)) := I.hok _ _ (hks x hx)
    obtain ⟨hz2, its2, rv2, ob, e2, e3, n3, e4⟩ := ok'
    exact ⟨ob, its2.toArray, n3, hk _ _ (Nat.ne_of_lt (Heap.lt_size e2)) (by simp) e2, e3, e4, by simpa using items_are rv2⟩
  · have hm : (s.heap.objs.size == sysModules) = false := beq_eq_false_iff_ne.mpr (Nat.ne_of_gt I.big)
    have hlen : (mergeT [] (kvs.map fun x => (x.1, x.2.2))).length ≤ sizeLine := by
      refine Nat.le_trans (length_mergeT _ []) ?_
      rw [List.length_nil, Nat.zero_add, List.length_map, lenk, ← hl]
      exact hz
    obtain ⟨o', es, ep, g1, g2, g3, g4, g5, g6⟩ := hd'
    have kt : KT H (mergeT [] (kvs.map fun x => (x.1, x.2.2))) (PySem.storedAllH [] prs) := kt_merge rel .nil
    have hf : H s.heap.objs.size = none := I.hok.fresh (Nat.le_refl _)
    refine ⟨.ref s.heap.objs.size, upd H s.heap.objs.size (.dT (mergeT [] (kvs.map fun x => (x.1, x.2.2)))), I.laid (t' := tk) (fun b o e => hk b o (by simp) e) (Nat.le_refl _) ⟨hlen, hm, _, kt.keeps fun b ys e => ?_, o', es, ep, g1, g2, g3, g4, g6⟩, rfl, q _ hf⟩
    rw [upd_ne (ne_of_none e hf)]
    exact e
end Pv

set_option Elab.async false
set_option linter.all false
set_option maxRecDepth 100000
namespace Pv
open PySem PySem.Spec PyProof.Rows L2
/-! built-ins, by data -/
def ofOpt : Option D → Rf
  | some d => .fz d
  | none => .stuck
theorem ofOpt_exc (o : Option D) (e : Exc) : ofOpt o ≠ .exc e := by cases o <;> exact fun z => nomatch z
section
variable {K : PySem.W.Frag} {F H : Hp}
/-! len -/
def lenD : D → Option D
  | .str x => if x.length ≤ big then some (.int x.length) else none
  | .dk ks l => if ks.length = l.length then some (.int ks.length) else none
  | d => match itemsOf d with
    | some ds => some (.int ds.length)
    | none => none
def fLen (ds : List D) : Rf := match ds with
  | [d] => ofOpt (lenD d)
  | _ => .stuck
def rLenA (K : PySem.W.Frag) : List V → Hp → VK → Prop := fun xs H Q => (∃ x n, xs = [x] ∧ LenV K x H n ∧ Q (.int n) H) ∨ ∃ a kvs, xs = [V.ref a] ∧ Rd H a (.dK kvs) ∧ Q (.int kvs.length) H
theorem call_lenR {X : Cx} : CallR X (.builtin "len") (fun xs H Q => ∃ a kvs, xs = [V.ref a] ∧ Rd H a (.dK kvs) ∧ Q (.int kvs.length) H) := by
  intro pins s σ H xs us Q I r h
  obtain ⟨a, kvs, rfl, ha, q⟩ := h
  obtain ⟨u, rfl, ru⟩ := vals1 r
  cases ru
  exact d_len I ha fun t s' I' => ⟨.int kvs.length, H, I', ⟨t, rfl⟩, q⟩
theorem call_lenA {X : Cx} : CallR X (.builtin "len") (rLenA X.K) := call_len.or call_lenR
theorem len_items {d : D} {v : V} {ds : List D} {Q : VK} (s : Same F H) (b : BRep K F H v d) (e : itemsOf d = some ds) (q : Q (.int ds.length) H) : rLenA K [v] H Q := by
  rcases itemsOf_cases e with e | e
  · obtain ⟨a, vs, rfl, h1, h2, h3⟩ := b.list s e
    exact .inl ⟨_, _, rfl, .inl ⟨vs, h1, rfl⟩, by rw [h3.length]; exact q⟩
  · obtain ⟨a, vs, rfl, h1, h2, h3⟩ := b.tuple s e
    exact .inl ⟨_, _, rfl, .inr ⟨vs, h1, rfl⟩, by rw [h3.length]; exact q⟩
theorem BRep.dk {v : V} {ks : List Key} {l : List D} (s : Same F H) (h : BRep K F H v (.dk ks l)) : ∃ a kvs, v = .ref a ∧ Rd H a (.dK kvs) ∧ kvs.length ≤ sizeLine ∧ kvs.map (·.1) = ks ∧ Reps K F (kvs.map (·.2)) l := by
  rcases h with h | ⟨a, ho, o, rfl, h1, h2, e⟩
  · cases h with | dk h1 h2 h3 => exact ⟨_, _, rfl, same_rd s h1, h2, rfl, h3⟩
  · cases o with
    | di l' =>
      cases e
      obtain ⟨kvs, rfl, h3, h4⟩ := h2
      exact ⟨a, kvs, rfl, .inl h1, h3, h4.keys, h4.vals⟩
    | _ => cases e
theorem BRep.dt {v : V} {ks : List (List Key)} {l : List D} (s : Same F H) (h : BRep K F H v (.dt ks l)) : ∃ a kvs, v = .ref a ∧ Rd H a (.dT kvs) ∧ kvs.length ≤ sizeLine ∧ kvs.map (·.1) = ks ∧ Reps K F (kvs.map (·.2)) l := by
  rcases h with h | ⟨a, ho, o, rfl, h1, h2, e⟩
  · cases h with | dt h1 h2 h3 => exact ⟨_, _, rfl, same_rd s h1, h2, rfl, h3⟩
  · cases o with
    | ti l' =>
      cases e
      obtain ⟨kvs, rfl, h3, h4⟩ := h2
      exact ⟨a, kvs, rfl, .inl h1, h3, h4.keys, h4.vals⟩
    | _ => cases e
theorem cs_len : CallS K (rLenA K) fLen := fun F H xs ds Q s bs q => by
  unfold fLen at q
  split at q
  · rename_i d
    obtain ⟨v, rfl, b⟩ := breps_one bs
    have go : ∀ {es : List D}, itemsOf d = some es → lenD d = some (.int es.length) → rLenA K [v] H Q := fun {es} e e2 => by
      rw [e2] at q
      exact len_items s b e (q F H _ (.refl _ _) (.int _))
    cases d with
    | str x =>
      unfold lenD at q
      dsimp only at q
      split at q
      · rename_i h
        cases b.str
        exact .inl ⟨_, _, rfl, ⟨by rw [← big_line]; exact h, rfl⟩, q F H _ (.refl _ _) (.int _)⟩
      · exact q.elim
    | dk ks l =>
      obtain ⟨a, kvs, rfl, h1, h2, h3, h4⟩ := b.dk s
      unfold lenD at q
      dsimp only at q
      split at q
      · have q := q F H _ (.refl _ _) (.int _)
        rw [← h3, List.length_map] at q
        exact .inr ⟨_, _, rfl, h1, q⟩
      · exact q.elim
    | tup l => exact go rfl rfl
    | ktup l => exact go rfl rfl
    | lst l => exact go rfl rfl
    | klst l => exact go rfl rfl
    | _ => exact q.elim
  · exact False.elim q
/-! isinstance of a built-in class -/
def kindOf : D → Option String
  | .non => some "NoneType"
  | .bl _ => some "bool"
  | .int _ => some "int"
  | .str _ => some "str"
  | .tup _ => some "tuple"
  | .ktup _ => some "tuple"
  | .lst _ => some "list"
  | _ => none
def isiD (d : D) (T : String) : Option D := match kindOf d with
  | some t => (kitB t T).map .bl
  | none => none
def fIsi (ds : List D) : Rf := match ds with
  | [d, .ty T] => ofOpt (isiD d T)
  | _ => .stuck
theorem kind_ty {v : V} {d : D} {t : String} (s : Same F H) (h : BRep K F H v d) (e : kindOf d = some t) : TyX K H v (.type t) := by
  rcases h with h | ⟨a, ho, o, rfl, h1, h2, rfl⟩
  · cases h with
    | non => cases e; exact .base .non
    | bl b => cases e; exact .base (.bl b)
    | int b => cases e; exact .base (.int b)
    | str b => cases e; exact .base (.str b)
    | tup h => cases e; exact .base (.tup (s _ _ h))
    | ktup h =>
      cases e
      rcases h with ⟨o, h, _⟩ | ⟨o, its, n, h1, h2, _⟩
      · exact .fTuple (s _ _ h)
      · exact .kTuple h1 h2
    | lst h => cases e; exact .base (.lst (s _ _ h))
    | _ => cases e
  · cases o with
    | li l => cases e; obtain ⟨vs, rfl, h3, h4⟩ := h2; exact .base (.lst h1)
    | _ => cases e
theorem BRep.ty {v : V} {n : String} (h : BRep K F H v (.ty n)) : v = .ty n := by
  rcases h with h | ⟨a, ho, o, _, _, _, e⟩
  · cases h; rfl
  · cases o <;> cases e
theorem cs_isi : CallS K (rIsi K) fIsi := fun F H xs ds Q s bs q => by
  unfold fIsi at q
  split at q
  · rename_i d T
    obtain ⟨v, u, rfl, b1, b2⟩ := breps_two bs
    unfold isiD at q
    cases e : kindOf d with
    | none => rw [e] at q; exact q.elim
    | some t =>
      rw [e] at q
      dsimp only at q
      cases e2 : kitB t T with
      | none => rw [e2] at q; exact q.elim
      | some b =>
        rw [e2] at q
        cases b2.ty
        exact ⟨v, .ty T, .type t, .type T, b, rfl, .ty T, kind_ty s b1 e, kit_ty e2, q F H _ (.refl _ _) (.bl _)⟩
  · exact False.elim q
/-! list(x), tuple(x) -/
def fList (ds : List D) : Rf := match ds with
  | [d] => match itemsOf d with
    | some es => .ow (.li es)
    | none => .stuck
  | _ => .stuck
theorem cs_list : CallS K (fun xs H Q => ∃ p ys, xs = [.ref p] ∧ (SqL K H p ys ∨ SqT K H p ys) ∧ ∀ l, H l = none → Q (.ref l) (upd H l (.lst ys))) fList := fun F H xs ds Q s bs q => by
  unfold fList at q
  split at q
  · rename_i d
    obtain ⟨v, rfl, b⟩ := breps_one bs
    cases e : itemsOf d with
    | none => rw [e] at q; exact q.elim
    | some es =>
      rw [e] at q
      rcases itemsOf_cases e with e | e
      · obtain ⟨a, vs, rfl, h1, h2, h3⟩ := b.list s e
        exact ⟨a, vs, rfl, .inl h1, fun l hl => q F H l _ (.refl _ _) hl ⟨vs, rfl, h2, h3⟩⟩
      · obtain ⟨a, vs, rfl, h1, h2, h3⟩ := b.tuple s e
        exact ⟨a, vs, rfl, .inr h1, fun l hl => q F H l _ (.refl _ _) hl ⟨vs, rfl, h2, h3⟩⟩
  · exact False.elim q
/-- tuple(x): of a list a new one of which the object is known -/
def tupD (d : D) : Option D := match lstOf d with
  | some es => some (.ktup es)
  | none => match tupOf d with
    | some _ => some d
    | none => none
def fTup (ds : List D) : Rf := match ds with
  | [d] => ofOpt (tupD d)
  | _ => .stuck
def rTupF (K : PySem.W.Frag) : List V → Hp → VK → Prop := fun xs H Q => ∃ p ys, xs = [.ref p] ∧ ((SqL K H p ys ∧ ∀ l o, H l = none → o.dict = none → Q (.ref l) (upd H l (.frz o (.tup ys)))) ∨ (SqT K H p ys ∧ Q (.ref p) H))
theorem cs_tup : CallS K (rTupF K) fTup := fun F H xs ds Q s bs q => by
  unfold fTup at q
  split at q
  · rename_i d
    obtain ⟨v, rfl, b⟩ := breps_one bs
    unfold tupD at q
    cases e : lstOf d with
    | some es =>
      rw [e] at q
      obtain ⟨a, vs, rfl, h1, h2, h3⟩ := b.list s e
      exact ⟨a, vs, rfl, .inl ⟨h1, fun l o hl ho => q _ _ _ (.new (.refl _ _) hl) (.ktup (.inl ⟨o, upd_same, ho⟩) h2 (h3.mono (same_new (s.free hl))))⟩⟩
    | none =>
      rw [e] at q
      dsimp only at q
      cases e2 : tupOf d with
      | none => rw [e2] at q; exact q.elim
      | some es =>
        rw [e2] at q
        obtain ⟨a, vs, rfl, h1, h2, h3⟩ := b.tuple s e2
        refine ⟨a, vs, rfl, .inr ⟨h1, q F H _ (.refl _ _) ?_⟩⟩
        rcases b with b | ⟨a, ho, o, _, _, _, rfl⟩
        · exact b
        · cases o <;> cases e2
  · exact False.elim q
/-- tuple(x): of a list a plain new one (a key, maybe) -/
def tupDP (d : D) : Option D := match lstOf d with
  | some es => some (.tup es)
  | none => match tupOf d with
    | some _ => some d
    | none => none
def fTupP (ds : List D) : Rf := match ds with
  | [d] => ofOpt (tupDP d)
  | _ => .stuck
theorem cs_tupP : CallS K (fun xs H Q => ∃ p ys, xs = [.ref p] ∧ ((SqL K H p ys ∧ ∀ l, H l = none → Q (.ref l) (upd H l (.tup ys))) ∨ (SqT K H p ys ∧ Q (.ref p) H))) fTupP := fun F H xs ds Q s bs q => by
  unfold fTupP at q
  split at q
  · rename_i d
    obtain ⟨v, rfl, b⟩ := breps_one bs
    unfold tupDP at q
    cases e : lstOf d with
    | some es =>
      rw [e] at q
      obtain ⟨a, vs, rfl, h1, h2, h3⟩ := b.list s e
      exact ⟨a, vs, rfl, .inl ⟨h1, fun l hl => q _ _ _ (.new (.refl _ _) hl) (.tup upd_same h2 (h3.mono (same_new (s.free hl))))⟩⟩
    | none =>
      rw [e] at q
      dsimp only at q
      cases e2 : tupOf d with
      | none => rw [e2] at q; exact q.elim
      | some es =>
        rw [e2] at q
        obtain ⟨a, vs, rfl, h1, h2, h3⟩ := b.tuple s e2
        refine ⟨a, vs, rfl, .inr ⟨h1, q F H _ (.refl _ _) ?_⟩⟩
        rcases b with b | ⟨a, ho, o, _, _, _, rfl⟩
        · exact b
        · cases o <;> cases e2
  · exact False.elim q
/-! numbers -/
theorem BRep.blv {v : V} {b : Bool} (h : BRep K F H v (.bl b)) : v = .bl b := h.bl
def intD (d : D) : Option D := match d with
  | .int i => some (.int i)
  | .bl b => some (.int (if b then 1 else 0))
  | _ => none
def fInt (ds : List D) : Rf := match ds with
  | [d] => ofOpt (intD d)
  | _ => .stuck
theorem cs_int : CallS K (fun xs H Q => (∃ i, xs = [.int i] ∧ Q (.int i) H) ∨ ∃ k, xs = [.bl k] ∧ Q (.int (if k then 1 else 0)) H) fInt := fun F H xs ds Q s bs q => by
  unfold fInt at q
  split at q
  · rename_i d
    obtain ⟨v, rfl, b⟩ := breps_one bs
    cases d with
    | int i => cases b.int; exact .inl ⟨i, rfl, q F H _ (.refl _ _) (.int _)⟩
    | bl i => cases b.bl; exact .inr ⟨i, rfl, q F H _ (.refl _ _) (.int _)⟩
    | _ => exact q.elim
  · exact False.elim q
def fAbs (ds : List D) : Rf := match ds with
  | [.int i] => .fz (.int (if i < 0 then -i else i))
  | _ => .stuck
theorem cs_abs : CallS K (fun xs H Q => ∃ i, xs = [.int i] ∧ Q (.int (if i < 0 then -i else i)) H) fAbs := fun F H xs ds Q s bs q => by
  unfold fAbs at q
  split at q
  · rename_i i
    obtain ⟨v, rfl, b⟩ := breps_one bs
    cases b.int
    exact ⟨i, rfl, q F H _ (.refl _ _) (.int _)⟩
  · exact False.elim q
def fMax2 (ds : List D) : Rf := match ds with
  | [.int i, .int j] => .fz (.int (if j > i then j else i))
  | _ => .stuck
theorem cs_max2 : CallS K (fun xs H Q => ∃ i j, xs = [.int i, .int j] ∧ Q (.int (if j > i then j else i)) H) fMax2 := fun F H xs ds Q s bs q => by
  unfold fMax2 at q
  split at q
  · rename_i i j
    obtain ⟨v, u, rfl, b1, b2⟩ := breps_two bs
    cases b1.int
    cases b2.int
    exact ⟨i, j, rfl, q F H _ (.refl _ _) (.int _)⟩
  · exact False.elim q
def fMin2 (ds : List D) : Rf := match ds with
  | [.int i, .int j] => .fz (.int (if j < i then j else i))
  | _ => .stuck
theorem cs_min2 : CallS K (fun xs H Q => ∃ i j, xs = [.int i, .int j] ∧ Q (.int (if j < i then j else i)) H) fMin2 := fun F H xs ds Q s bs q => by
  unfold fMin2 at q
  split at q
  · rename_i i j
    obtain ⟨v, u, rfl, b1, b2⟩ := breps_two bs
    cases b1.int
    cases b2.int
    exact ⟨i, j, rfl, q F H _ (.refl _ _) (.int _)⟩
  · exact False.elim q
def fStrI (ds : List D) : Rf := match ds with
  | [.int i] => if i.natAbs.log2 < 1920 then .fz (.str (toString i)) else .stuck
  | _ => .stuck
theorem cs_strI : CallS K (fun xs H Q => ∃ i, xs = [.int i] ∧ i.natAbs.log2 < 1920 ∧ Q (.str (toString i)) H) fStrI := fun F H xs ds Q s bs q => by
  unfold fStrI at q
  split at q
  · split at q
    · rename_i h
      obtain ⟨v, rfl, b⟩ := breps_one bs
      cases b.int
      exact ⟨_, rfl, h, q F H _ (.refl _ _) (.str _)⟩
    · exact q.elim
  · exact False.elim q
/-! of lists of ints, of bools -/
def lstInts (d : D) : Option (List Int) := match lstOf d with
  | some ds => intsOf ds
  | none => none
theorem BRep.lints {v : V} {d : D} {ns : List Int} (s : Same F H) (h : BRep K F H v d) (e : lstInts d = some ns) : ∃ a, v = .ref a ∧ SqL K H a (ns.map V.int) := by
  unfold lstInts at e
  cases e1 : lstOf d with
  | none => rw [e1] at e; cases e
  | some ds =>
    rw [e1] at e
    obtain ⟨a, vs, rfl, h1, h2, h3⟩ := h.list s e1
    rw [intsOf_eq e] at h3
    rw [h3.ints_inv] at h1
    exact ⟨a, rfl, h1⟩
def fSum (ds : List D) : Rf := match ds with
  | [d] => match lstInts d with
    | some ns => .fz (.int ns.sum)
    | none => .stuck
  | _ => .stuck
theorem cs_sum : CallS K (rSum K) fSum := fun F H xs ds Q s bs q => by
  unfold fSum at q
  split at q
  · rename_i d
    obtain ⟨v, rfl, b⟩ := breps_one bs
    cases e : lstInts d with
    | none => rw [e] at q; exact q.elim
    | some ns =>
      rw [e] at q
      obtain ⟨a, rfl, h⟩ := b.lints s e
      exact ⟨a, ns, rfl, h, q F H _ (.refl _ _) (.int _)⟩
  · exact False.elim q
def leastI : List Int → Int
  | [] => 0
  | [x] => x
  | x :: y :: r => if leastI (y :: r) < x then leastI (y :: r) else x
theorem leastI_spec : ∀ {ns : List Int}, ns ≠ [] → leastI ns ∈ ns ∧ ∀ y ∈ ns, leastI ns ≤ y
  | [], h => absurd rfl h
  | [x], _ => by simp [leastI]
  | x :: y :: r, _ => by
    obtain ⟨h1, h2⟩ := leastI_spec (ns := y :: r) (by simp)
    unfold leastI
    split
    · rename_i h
      refine ⟨List.mem_cons_of_mem _ h1, fun z hz => ?_⟩
      rcases List.mem_cons.mp hz with e | e
      · omega
      · exact h2 z e
    · rename_i h
      refine ⟨List.mem_cons_self, fun z hz => ?_⟩
      rcases List.mem_cons.mp hz with e | e
      · omega
      · have := h2 z e; omega
theorem least_unique {ns : List Int} {m k : Int} (h1 : m ∈ ns ∧ ∀ y ∈ ns, m ≤ y) (h2 : k ∈ ns ∧ ∀ y ∈ ns, k ≤ y) : m = k := by
  have := h1.2 k h2.1
  have := h2.2 m h1.1
  omega
def fMin (ds : List D) : Rf := match ds with
  | [d] => match lstInts d with
    | some ns => if ns = [] then .stuck else .fz (.int (leastI ns))
    | none => .stuck
  | _ => .stuck
theorem cs_min : CallS K (rMin K) fMin := fun F H xs ds Q s bs q => by
  unfold fMin at q
  split at q
  · rename_i d
    obtain ⟨v, rfl, b⟩ := breps_one bs
    cases e : lstInts d with
    | none => rw [e] at q; exact q.elim
    | some ns =>
      rw [e] at q
      dsimp only at q
      split at q
      · exact q.elim
      · rename_i hn
        obtain ⟨a, rfl, h⟩ := b.lints s e
        refine ⟨a, ns, rfl, h, by cases ns with | nil => exact absurd rfl hn | cons _ _ => simp, fun m h1 h2 => ?_⟩
        rw [least_unique ⟨h1, h2⟩ (leastI_spec hn)]
        exact q F H _ (.refl _ _) (.int _)
  · exact False.elim q
def bolsOf : List D → Option (List Bool)
  | [] => some []
  | .bl i :: ds => (bolsOf ds).map (i :: ·)
  | _ :: _ => none
theorem bolsOf_eq : ∀ {ds : List D} {ns : List Bool}, bolsOf ds = some ns → ds = ns.map .bl
  | [], _, e => by cases e; rfl
  | d :: ds, _, e => by
    unfold bolsOf at e
    split at e
    · rename_i h; cases h
    · rename_i i ds' h
      cases h
      obtain ⟨ns, e1, rfl⟩ := Option.map_eq_some_iff.mp e
      rw [bolsOf_eq e1]; rfl
    · cases e
theorem bolsOf_map : ∀ ns : List Bool, bolsOf (ns.map .bl) = some ns
  | [] => rfl
  | n :: ns => by show (bolsOf (ns.map .bl)).map (n :: ·) = _; rw [bolsOf_map ns]; rfl
theorem Reps.bols_inv : ∀ {vs : List V} {ns : List Bool}, Reps K F vs (ns.map D.bl) → vs = ns.map V.bl
  | _, [], h => by cases h; rfl
  | _, n :: ns, h => by
    cases h with
    | cons a b => cases a; rw [Reps.bols_inv b]; rfl
def lstBols (d : D) : Option (List Bool) := match lstOf d with
  | some ds => bolsOf ds
  | none => none
theorem BRep.lbols {v : V} {d : D} {ns : List Bool} (s : Same F H) (h : BRep K F H v d) (e : lstBols d = some ns) : ∃ a, v = .ref a ∧ SqL K H a (ns.map V.bl) := by
  unfold lstBols at e
  cases e1 : lstOf d with
  | none => rw [e1] at e; cases e
  | some ds =>
    rw [e1] at e
    obtain ⟨a, vs, rfl, h1, h2, h3⟩ := h.list s e1
    rw [bolsOf_eq e] at h3
    rw [h3.bols_inv] at h1
    exact ⟨a, rfl, h1⟩
def fAll (ds : List D) : Rf := match ds with
  | [d] => match lstBols d with
    | some ns => .fz (.bl (ns.all id))
    | none => .stuck
  | _ => .stuck
def fAny (ds : List D) : Rf := match ds with
  | [d] => match lstBols d with
    | some ns => .fz (.bl (ns.any id))
    | none => .stuck
  | _ => .stuck
theorem cs_all : CallS K (rAll K) fAll := fun F H xs ds Q s bs q => by
  unfold fAll at q
  split at q
  · rename_i d
    obtain ⟨v, rfl, b⟩ := breps_one bs
    cases e : lstBols d with
    | none => rw [e] at q; exact q.elim
    | some ns =>
      rw [e] at q
      obtain ⟨a, rfl, h⟩ := b.lbols s e
      exact ⟨a, ns, rfl, h, q F H _ (.refl _ _) (.bl _)⟩
  · exact False.elim q
theorem cs_any : CallS K (rAny K) fAny := fun F H xs ds Q s bs q => by
  unfold fAny at q
  split at q
  · rename_i d
    obtain ⟨v, rfl, b⟩ := breps_one bs
    cases e : lstBols d with
    | none => rw [e] at q; exact q.elim
    | some ns =>
      rw [e] at q
      obtain ⟨a, rfl, h⟩ := b.lbols s e
      exact ⟨a, ns, rfl, h, q F H _ (.refl _ _) (.bl _)⟩
  · exact False.elim q
end
end Pv

set_option Elab.async false
set_option linter.all false
set_option maxRecDepth 100000
namespace Pv
open PySem PySem.Spec PyProof.Rows L2
/-! membership -/
def keyOf : D → Option Key
  | .int i => some (.inl i)
  | .str x => some (.inr x)
  | _ => none
def keysOf : List D → Option (List Key)
  | [] => some []
  | d :: ds => match keyOf d, keysOf ds with
    | some k, some ks => some (k :: ks)
    | _, _ => none
def lookA {κ α : Type} [DecidableEq κ] (kvs : List (κ × α)) (k : κ) : Option α := (kvs.find? fun kv => decide (kv.1 = k)).map (·.2)
def putA {κ α : Type} [DecidableEq κ] (kvs : List (κ × α)) (k : κ) (v : α) : List (κ × α) :=
  if (kvs.any fun kv => decide (kv.1 = k)) = true then kvs.map (fun kv => if kv.1 = k then (kv.1, v) else kv) else kvs ++ [(k, v)]
section
variable {K : PySem.W.Frag} {F H : Hp}
theorem keyOf_rep {v : V} {d : D} {k : Key} (r : Rep K F v d) (e : keyOf d = some k) : v = kV k := by
  cases r with
  | int i => cases e; rfl
  | str x => cases e; rfl
  | _ => cases e
theorem keysOf_reps : ∀ {vs : List V} {ds : List D} {ks : List Key}, Reps K F vs ds → keysOf ds = some ks → vs = ks.map kV
  | _, _, _, .nil, e => by cases e; rfl
  | _, _, _, .cons (d := d) (ds := ds) a b, e => by
    unfold keysOf at e
    cases e1 : keyOf d with
    | none => rw [e1] at e; cases e
    | some k =>
      cases e2 : keysOf ds with
      | none => rw [e1, e2] at e; cases e
      | some ks =>
        rw [e1, e2] at e
        cases e
        rw [keyOf_rep a e1, keysOf_reps b e2]
        rfl
/-- a tuple that is a key -/
theorem keyTup {v : V} {ds : List D} {ks : List Key} (r : Rep K F v (.tup ds)) (e : keysOf ds = some ks) : ∃ b, v = .ref b ∧ F b = some (.tup (ks.map kV)) := by
  cases r with
  | tup h1 h2 h3 =>
    rw [keysOf_reps h3 e] at h1
    exact ⟨_, rfl, h1⟩
theorem BRep.frozen {v : V} {d : D} (h : BRep K F H v d) (hn : ∀ o : Own, d ≠ o.toD) : Rep K F v d := by
  rcases h with h | ⟨a, ho, o, rfl, h1, h2, e⟩
  · exact h
  · exact absurd e (hn o)
theorem look_reps {κ : Type} [DecidableEq κ] : ∀ {kvs : List (κ × V)} {l : List D} (k : κ), Reps K F (kvs.map (·.2)) l → (∀ {v}, valV kvs k = some v → ∃ d, lookA ((kvs.map (·.1)).zip l) k = some d ∧ Rep K F v d) ∧ (valV kvs k = none → lookA ((kvs.map (·.1)).zip l) k = none)
  | [], _, k, h => by
    cases h
    exact ⟨fun e => absurd e (by simp [valV]), fun _ => rfl⟩
  | p :: kvs, l, k, h => by
    rw [List.map_cons] at h
    cases h with
    | @cons _ _ d ds a b =>
      obtain ⟨i1, i2⟩ := look_reps k b
      rw [List.map_cons, List.zip_cons_cons]
      by_cases e : p.1 = k
      · rw [valV_pos e]
        have : lookA ((p.1, d) :: (kvs.map (·.1)).zip ds) k = some d := by simp [lookA, List.find?_cons, e]
        rw [this]
        exact ⟨fun q => by cases q; exact ⟨d, rfl, a⟩, fun q => (nomatch q)⟩
      · rw [valV_neg e]
        have : lookA ((p.1, d) :: (kvs.map (·.1)).zip ds) k = lookA ((kvs.map (·.1)).zip ds) k := by simp [lookA, List.find?_cons, e]
        rw [this]
        exact ⟨i1, i2⟩
/-- what a dict holds -/
def dLook (a b : D) : Option (Option D) := match a with
  | .dk ks l => match keyOf b with
    | some k => some (lookA (ks.zip l) k)
    | none => none
  | .dt ks l => match b with
    | .tup ds => match keysOf ds with
      | some k => some (lookA (ks.zip l) k)
      | none => none
    | _ => none
  | _ => none
def OptR (K : PySem.W.Frag) (F : Hp) : Option V → Option D → Prop
  | some v, some d => Rep K F v d
  | none, none => True
  | _, _ => False
theorem dLook_ok {x y : V} {a b : D} {r : Option D} (s : Same F H) (ra : BRep K F H x a) (rb : BRep K F H y b) (e : dLook a b = some r) : ∃ p o, x = .ref p ∧ DGet H p y o ∧ OptR K F o r := by
  have fin : ∀ {κ : Type} [DecidableEq κ] {kvs : List (κ × V)} {l : List D} (k : κ), Reps K F (kvs.map (·.2)) l → OptR K F (valV kvs k) (lookA ((kvs.map (·.1)).zip l) k) := fun {κ _ kvs l} k h => by
    obtain ⟨h1, h2⟩ := look_reps k h
    cases q : valV kvs k with
    | none => rw [h2 q]; exact True.intro
    | some v =>
      obtain ⟨d, e1, e2⟩ := h1 q
      rw [e1]
      exact e2
  unfold dLook at e
  split at e
  · rename_i ks l
    cases e1 : keyOf b with
    | none => rw [e1] at e; cases e
    | some k =>
      rw [e1] at e
      cases e
      obtain ⟨p, kvs, rfl, h1, h2, h3, h4⟩ := ra.dk s
      subst h3
      have ey : y = kV k := keyOf_rep (rb.up s) e1
      exact ⟨p, valV kvs k, rfl, .inl ⟨kvs, k, h1, ey, rfl⟩, fin k h4⟩
  · rename_i ks l
    split at e
    · rename_i ds
      cases e1 : keysOf ds with
      | none => rw [e1] at e; cases e
      | some k =>
        rw [e1] at e
        cases e
        obtain ⟨p, kvs, rfl, h1, h2, h3, h4⟩ := ra.dt s
        subst h3
        obtain ⟨b, rfl, hb⟩ := keyTup (rb.up s) e1
        exact ⟨p, valV kvs k, rfl, .inr ⟨kvs, k, b, h1, rfl, hb, rfl⟩, fin k h4⟩
    · cases e
  · cases e
def rDGet : R2 := fun x y H Q => ∃ a v, x = .ref a ∧ DGet H a y (some v) ∧ Q v H
def opDGet (a b : D) : Option D := match dLook a b with
  | some (some d) => some d
  | _ => none
theorem os_dget : OpS K rDGet opDGet := fun F H x y a b c Q s ra rb e q => by
  unfold opDGet at e
  cases e1 : dLook a b with
  | none => rw [e1] at e; cases e
  | some r =>
    obtain ⟨p, o, rfl, h1, h2⟩ := dLook_ok s ra rb e1
    rw [e1] at e
    cases r with
    | none => cases e
    | some d =>
      cases e
      cases o with
      | none => exact h2.elim
      | some v => exact ⟨p, v, rfl, h1, q F H v (.refl _ _) h2⟩
/-- x in y -/
def rDInR (neg : Bool) : R2 := fun y x H Q => ∃ a o, x = .ref a ∧ DGet H a y o ∧ Q (.bl (if neg then !o.isSome else o.isSome)) H
def inD (a b : D) : Option Bool := match dLook b a with
  | some r => some r.isSome
  | none => match lstOf b with
    | some ds => match toPy a, toPys ds with
      | some p, some qs => if (SeqAt.shaped p && SeqAt.shaped (.list qs)) = true then some (qs.any fun z => PyData.eqv z p) else none
      | _, _ => none
    | none => none
def opIn (a b : D) : Option D := (inD a b).map .bl
def opNotIn (a b : D) : Option D := (inD a b).map fun x => .bl (!x)
def rInA (K : PySem.W.Frag) : R2 := fun x y H Q => rInD K x y H Q ∨ rDInR false x y H Q
def rNotInA (K : PySem.W.Frag) : R2 := fun x y H Q => rNotInD K x y H Q ∨ rDInR true x y H Q
theorem op_inA {X : Cx} (hu : X.A.units + 65 < cLine) : OpR X (compareOp .In) (rInA X.K) := (op_inD hu).or (by
  intro pins s σ H x y v u Q I rx ry h
  obtain ⟨a, o, rfl, g, q⟩ := h
  cases ry
  exact d_in (by omega) I g rx fun s' I' => ⟨.bl o.isSome, H, I', rfl, q⟩)
theorem op_notInA {X : Cx} (hu : X.A.units + 65 < cLine) : OpR X (compareOp .NotIn) (rNotInA X.K) := (op_notInD hu).or (by
  intro pins s σ H x y v u Q I rx ry h
  obtain ⟨a, o, rfl, g, q⟩ := h
  cases ry
  exact d_notIn (by omega) I g rx fun s' I' => ⟨.bl (!o.isSome), H, I', rfl, q⟩)
theorem inD_cases {x y : V} {a b : D} {r : Bool} (s : Same F H) (ra : BRep K F H x a) (rb : BRep K F H y b) (e : inD a b = some r) : (∃ p o, y = .ref p ∧ DGet H p x o ∧ o.isSome = r) ∨ ∃ d ds, Dp K H x d ∧ Dp K H y (.list ds) ∧ SeqAt.shaped d = true ∧ SeqAt.shaped (.list ds) = true ∧ (ds.any fun z => PyData.eqv z d) = r := by
  unfold inD at e
  cases e1 : dLook b a with
  | some q =>
    rw [e1] at e
    cases e
    obtain ⟨p, o, rfl, h1, h2⟩ := dLook_ok s rb ra e1
    refine .inl ⟨p, o, rfl, h1, ?_⟩
    cases o with
    | none => cases q with | none => rfl | some _ => exact h2.elim
    | some _ => cases q with | none => exact h2.elim | some _ => rfl
  | none =>
    rw [e1] at e
    dsimp only at e
    cases e2 : lstOf b with
    | none => rw [e2] at e; cases e
    | some ds =>
      rw [e2] at e
      dsimp only at e
      cases e3 : toPy a with
      | none => rw [e3] at e; cases e
      | some p =>
        cases e4 : toPys ds with
        | none => rw [e3, e4] at e; cases e
        | some qs =>
          rw [e3, e4] at e
          dsimp only at e
          split at e
          · rename_i h
            rw [Bool.and_eq_true] at h
            cases e
            obtain ⟨p', vs, rfl, h1, h2, h3⟩ := rb.list s e2
            exact .inr ⟨p, qs, ra.dp s e3, .lst h1 ((h3.mono s).dp e4), h.1, h.2, rfl⟩
          · cases e
theorem os_in : OpS K (rInA K) opIn := fun F H x y a b c Q s ra rb e q => by
  unfold opIn at e
  obtain ⟨r, e1, rfl⟩ := Option.map_eq_some_iff.mp e
  rcases inD_cases s ra rb e1 with ⟨p, o, rfl, h1, h2⟩ | ⟨d, ds, h1, h2, h3, h4, h5⟩
  · exact .inr ⟨p, o, rfl, h1, by rw [h2]; exact q F H _ (.refl _ _) (.bl _)⟩
  · exact .inl ⟨d, ds, h1, h2, h3, h4, by rw [h5]; exact q F H _ (.refl _ _) (.bl _)⟩
theorem os_notIn : OpS K (rNotInA K) opNotIn := fun F H x y a b c Q s ra rb e q => by
  unfold opNotIn at e
  obtain ⟨r, e1, rfl⟩ := Option.map_eq_some_iff.mp e
  rcases inD_cases s ra rb e1 with ⟨p, o, rfl, h1, h2⟩ | ⟨d, ds, h1, h2, h3, h4, h5⟩
  · exact .inr ⟨p, o, rfl, h1, by rw [h2]; exact q F H _ (.refl _ _) (.bl _)⟩
  · exact .inl ⟨d, ds, h1, h2, h3, h4, by rw [h5]; exact q F H _ (.refl _ _) (.bl _)⟩
/-! slices -/
def cutD (ds : List D) (lo hi : Option Int) : List D := (ds.drop (HT.sIx ds.length 0 lo)).take (HT.sIx ds.length ds.length hi - HT.sIx ds.length 0 lo)
theorem Reps.cut {vs : List V} {ds : List D} (r : Reps K F vs ds) (lo hi : Option Int) : Reps K F (cutV vs lo hi) (cutD ds lo hi) := by
  unfold cutV cutD
  rw [r.length]
  exact (r.drop _).take _
/-- a slice of a list (new), of a tuple: the whole is itself; kn: the new object is known -/
def opSl (kn : Bool) (d : D) (lo hi : Option Int) : Option D := match lstOf d with
  | some ds => some (.lst (cutD ds lo hi))
  | none => match tupOf d with
    | some ds => if HT.sIx ds.length 0 lo = 0 ∧ HT.sIx ds.length ds.length hi = ds.length then some d else some (if kn then .ktup (cutD ds lo hi) else .tup (cutD ds lo hi))
    | none => none
def SlS (K : PySem.W.Frag) (r : V → Option Int → Option Int → Hp → VK → Prop) (op : D → Option Int → Option Int → Option D) : Prop :=
  ∀ F H x a lo hi c Q, Same F H → BRep K F H x a → op a lo hi = some c → (∀ F' H' v, Grow F H F' H' → Rep K F' v c → Q v H') → r x lo hi H Q
def rSlAF (K : PySem.W.Frag) (x : V) (lo hi : Option Int) (H : Hp) (Q : VK) : Prop := rSlL K x lo hi H Q ∨ rSlF K x lo hi H Q
def rSlAP (K : PySem.W.Frag) (x : V) (lo hi : Option Int) (H : Hp) (Q : VK) : Prop := rSlL K x lo hi H Q ∨ rSlA K x lo hi H Q
theorem sl_AF {X : Cx} : SlR X (rSlAF X.K) := sl_list.or sl_tupF
theorem sl_AP {X : Cx} : SlR X (rSlAP X.K) := sl_list.or sl_tupA
theorem tup_rep {v : V} {d : D} {ds : List D} (h : BRep K F H v d) (e : tupOf d = some ds) : Rep K F v d := by
  rcases h with h | ⟨a, ho, o, _, _, _, rfl⟩
  · exact h
  · cases o <;> cases e
theorem ss_AF : SlS K (rSlAF K) (opSl true) := fun F H x a lo hi c Q s ra e q => by
  unfold opSl at e
  cases e1 : lstOf a with
  | some ds =>
    rw [e1] at e
    cases e
    obtain ⟨p, vs, rfl, h1, h2, h3⟩ := ra.list s e1
    exact .inl ⟨p, vs, rfl, h1, fun r hr => q _ _ _ (.new (.refl _ _) hr) (.lst upd_same (Nat.le_trans (cutV_length vs lo hi) h2) ((h3.cut lo hi).mono (same_new (s.free hr))))⟩
  | none =>
    rw [e1] at e
    dsimp only at e
    cases e2 : tupOf a with
    | none => rw [e2] at e; cases e
    | some ds =>
      rw [e2] at e
      obtain ⟨p, vs, rfl, h1, h2, h3⟩ := ra.tuple s e2
      refine .inr ⟨p, vs, rfl, h1, fun hw => ?_, fun hw r o hr ho => ?_⟩
      · rw [h3.length] at hw
        dsimp only at e
        rw [if_pos hw] at e
        cases e
        exact q F H _ (.refl _ _) (tup_rep ra e2)
      · rw [h3.length] at hw
        dsimp only at e
        rw [if_neg hw] at e
        cases e
        exact q _ _ _ (.new (.refl _ _) hr) (.ktup (.inl ⟨o, upd_same, ho⟩) (Nat.le_trans (cutV_length vs lo hi) h2) ((h3.cut lo hi).mono (same_new (s.free hr))))
theorem ss_AP : SlS K (rSlAP K) (opSl false) := fun F H x a lo hi c Q s ra e q => by
  unfold opSl at e
  cases e1 : lstOf a with
  | some ds =>
    rw [e1] at e
    cases e
    obtain ⟨p, vs, rfl, h1, h2, h3⟩ := ra.list s e1
    exact .inl ⟨p, vs, rfl, h1, fun r hr => q _ _ _ (.new (.refl _ _) hr) (.lst upd_same (Nat.le_trans (cutV_length vs lo hi) h2) ((h3.cut lo hi).mono (same_new (s.free hr))))⟩
  | none =>
    rw [e1] at e
    dsimp only at e
    cases e2 : tupOf a with
    | none => rw [e2] at e; cases e
    | some ds =>
      rw [e2] at e
      obtain ⟨p, vs, rfl, h1, h2, h3⟩ := ra.tuple s e2
      refine .inr ⟨p, vs, rfl, h1, fun hw => ?_, fun hw r hr => ?_⟩
      · rw [h3.length] at hw
        dsimp only at e
        rw [if_pos hw] at e
        cases e
        exact q F H _ (.refl _ _) (tup_rep ra e2)
      · rw [h3.length] at hw
        dsimp only at e
        rw [if_neg hw] at e
        cases e
        exact q _ _ _ (.new (.refl _ _) hr) (.tup upd_same (Nat.le_trans (cutV_length vs lo hi) h2) ((h3.cut lo hi).mono (same_new (s.free hr))))
end
/-- a slice's part -/
def pNo : Envi → R (Option Int) := fun ρ => .ok none ρ
def pSome (f : Envi → R Hd) : Envi → R (Option Int) := fun ρ => (f ρ).frz.bind fun h ρ1 => match deref ρ1 h with
  | some (.int i) => .ok (some i) ρ1
  | _ => .stuck
def eSl (op : D → Option Int → Option Int → Option D) (f : Envi → R Hd) (lo hi : Envi → R (Option Int)) : Envi → R Hd := fun ρ => (f ρ).frz.bind fun h ρ1 => (lo ρ1).bind fun l ρ2 => (hi ρ2).bind fun u ρ3 => match deref ρ3 h with
  | some d => opt1 ρ3 (op d l u)
  | none => .stuck
section
variable {P : Pr} {m : Bool} {W : WX} {te ta tb : TE} {f g : Envi → R Hd}
def SndO (P : Pr) (m : Bool) (W : WX) (to : TO) (f : Envi → R (Option Int)) : Prop :=
  ∀ B F0 F H σ ob ρ Q, Wf P B F0 F H σ ob ρ → Post P B F0 F σ ob m W (fun B' _ _ (v : Option Int) d => B' = B ∧ v = d) Q (f ρ) → to σ H Q
theorem snd_pno : SndO P m W tNoPart pNo := fun B F0 F H σ ob ρ Q w q => q B F H ob none w (Same.refl _) (fun _ => rfl) ⟨rfl, rfl⟩
theorem snd_psome (h : SndE P m W te f) : SndO P m W (tPart te) (pSome f) := fun B F0 F H σ ob ρ Q w q => by
  refine h.frz B F0 F H σ ob ρ _ w (Post.of_bind q ?_)
  rintro k ρ2 B' F2 H2 ob2 y w2 s2 i2 ⟨rfl, r2⟩ q
  cases d1 : deref ρ2 k with
  | none => simp only [d1] at q; exact q.elim
  | some a =>
    have x := w2.deref r2 d1
    simp only [d1] at q
    cases a with
    | int i => exact ⟨i, x.int, q _ F2 H2 ob2 (some i) w2 s2 i2 ⟨rfl, rfl⟩⟩
    | _ => exact q.elim
theorem snd_sl {r : V → Option Int → Option Int → Hp → VK → Prop} {op : D → Option Int → Option Int → Option D} {tl th : TO} {lo hi : Envi → R (Option Int)} (ho : SlS P.K r op) (ha : SndE P false W te f) (hl : SndO P false W tl lo) (hh : SndO P false W th hi) : SndE P m W (tSl r te tl th) (eSl op f lo hi) := by
  refine SndE.up fun B F0 F H σ ob ρ Q w q => ?_
  refine ha.frz B F0 F H σ ob ρ _ w (Post.of_bind q ?_)
  rintro k ρ2 B' F2 H2 ob2 y w2 s2 i2 ⟨rfl, r2⟩ q
  refine hl _ F0 F2 H2 σ ob2 ρ2 _ w2 (Post.of_bind (q.shift s2 i2) ?_)
  rintro l ρ3 B' F3 H3 ob3 z w3 s3 i3 ⟨rfl, rfl⟩ q
  refine hh _ F0 F3 H3 σ ob3 ρ3 _ w3 (Post.of_bind (q.shift s3 i3) ?_)
  rintro u ρ4 B' F4 H4 ob4 z2 w4 s4 i4 ⟨rfl, rfl⟩ q
  have r4 := r2.mono (s3.trans s4) ((i4 rfl).trans (i3 rfl))
  cases d1 : deref ρ4 k with
  | none => simp only [d1] at q; exact q.elim
  | some a =>
    simp only [d1] at q
    have q := q.shift (Same.refl _) (fun _ => rfl)
    exact opt_post (r := fun Q => r y z z2 H4 Q) w4 s4 i4 q fun c e hq => ho F4 H4 y a z z2 c Q w4.fh (w4.deref r4 d1) e hq
end
end Pv

set_option Elab.async false
set_option linter.all false
set_option maxRecDepth 100000
namespace Pv
open PySem PySem.Spec PyProof.Rows L2
/-! places that are changed -/
def SndP (P : Pr) (te : TE) (k : Nat) (ok : Envi → Bool) : Prop :=
  ∀ B F0 F H σ ob ρ Q v, Wf P B F0 F H σ ob ρ → ok ρ = true → (tau σ ob)[k]? = some (some v) → Q v H → te σ H Q
def okT : Envi → Bool := fun _ => true
def ownTy : Own → String
  | .li _ => "list"
  | _ => "dict"
def MutS (K : PySem.W.Frag) (r : V → List V → Hp → VK → Prop) (mu : Own → List D → Option (D × Own)) : Prop :=
  ∀ F H a ho o vs ds d o' Q, Same F H → H a = some ho → F a = none → OwnR K F ho o → Reps K F vs ds → mu o ds = some (d, o') → (∀ ho' v, OwnR K F ho' o' → Rep K F v d → Q v (upd H a ho')) → r (.ref a) vs H Q
def mutEnd (k : Nat) (mu : Own → List D → Option (D × Own)) (ρ : Envi) (ds : List D) : R Hd := match ρ[k]? with
  | some (.ow o) => match mu o ds with
    | some (d, o') => .ok (.dat d) (ρ.set k (.ow o'))
    | none => .stuck
  | _ => .stuck
def isTy (T : String) (ρ : Envi) (k : Nat) : Bool := match ρ[k]? with
  | some (.ow o) => ownTy o == T
  | _ => false
def eMut (k : Nat) (ok : Envi → Bool) (T : String) (mu : Own → List D → Option (D × Own)) (fa : Envi → R (List Hd)) : Envi → R Hd := fun ρ =>
  if (ok ρ && isTy T ρ k) = true then (fa ρ).bind fun hs ρ1 => match matAll ρ1 hs with
    | some (ds, ρ2) => mutEnd k mu ρ2 ds
    | none => .stuck
  else .stuck
section
variable {P : Pr} {m : Bool} {W : WX} {te ta tb to : TE} {f g : Envi → R Hd} {n : Nat} {fa : Envi → R (List Hd)} {tr : TA} {B F0 F H : Hp} {σ : L2.St} {ob : Ob} {ρ : Envi}
theorem sp_var {k : Nat} (hk : k < P.n) : SndP P (tVar k) k okT := fun B F0 F H σ ob ρ Q v w _ e q => by
  rw [tau_lt (by rw [w.n]; exact hk)] at e
  exact ⟨v, e, q⟩
theorem own_tyV {K : PySem.W.Frag} {ho : HO} {a : Addr} : ∀ {o : Own}, OwnR K F ho o → H a = some ho → tyV K (ownTy o) (.ref a) H
  | .li _, ⟨vs, h1, h2, h3⟩, h => by subst h1; exact .inl ⟨rfl, vs, .inl (.inl h)⟩
  | .di _, ⟨vs, h1, h2, h3⟩, h => by subst h1; exact .inr (.inr (.inl ⟨rfl, .inl ⟨vs, h⟩⟩))
  | .ti _, ⟨vs, h1, h2, h3⟩, h => by subst h1; exact .inr (.inr (.inl ⟨rfl, .inr ⟨vs, h⟩⟩))
theorem isTy_own {T : String} {k : Nat} (h : isTy T ρ k = true) : ∃ o, ρ[k]? = some (.ow o) ∧ ownTy o = T := by
  unfold isTy at h
  split at h
  · rename_i o e
    exact ⟨o, e, by simpa using h⟩
  · cases h
/-- the value at a place stays -/
theorem tau_keep {ob' : Ob} {k : Nat} {v : V} {F2 H2 : Hp} {ρ2 : Envi} (w : Wf P B F0 F H σ ob ρ) (hk : m = false ∨ k < P.n) (i : m = false → ob' = ob) (e : (tau σ ob)[k]? = some (some v)) : (tau σ ob')[k]? = some (some v) := by
  rcases hk with h | h
  · rw [i h]; exact e
  · have hl : k < σ.length := by rw [w.n]; exact h
    rw [tau_lt hl] at e ⊢
    exact e
theorem mut_end {k : Nat} {r : V → List V → Hp → VK → Prop} {mu : Own → List D → Option (D × Own)} {v : V} {vs : List V} {ds : List D} {Q : VK} {F1 : Hp} {ob1 : Ob} {α : Type} (hm : MutS P.K r mu) (w : Wf P B F0 F H σ ob ρ) (s : Same F1 F) (i : m = false → ob = ob1) (ev : (tau σ ob)[k]? = some (some v)) (rs : Reps P.K F vs ds)
    (q : Post P B F0 F1 σ ob1 m W (RelE P B σ) Q (mutEnd k mu ρ ds)) : r v vs H Q := by
  unfold mutEnd at q
  cases e : ρ[k]? with
  | none => rw [e] at q; exact q.elim
  | some sl =>
    rw [e] at q
    cases sl with
    | ow o =>
      dsimp only at q
      cases e2 : mu o ds with
      | none => rw [e2] at q; exact q.elim
      | some x =>
        obtain ⟨d, o'⟩ := x
        rw [e2] at q
        obtain ⟨a, ho, h1, h2, h3, h4, h5, h6, h7⟩ := w.owned e
        rw [ev] at h1
        cases h1
        exact hm F H a ho o vs ds d o' Q w.fh h2 h4 h3 rs e2 fun ho' u r1 r2 => q B F (upd H a ho') ob u (h6 ho' o' r1) s i ⟨rfl, r2⟩
    | _ => exact q.elim
theorem snd_mut {k : Nat} {ok : Envi → Bool} {T : String} {r : V → List V → Hp → VK → Prop} {mu : Own → List D → Option (D × Own)} (hp : SndP P to k ok) (hm : MutS P.K r mu) (ha : SndA P m W n tr fa) (hk : m = false ∨ k < P.n) : SndE P m W (tBM P.K T r to tr) (eMut k ok T mu fa) := fun B F0 F H σ ob ρ Q w q => by
  unfold eMut at q
  split at q
  · rename_i hc
    rw [Bool.and_eq_true] at hc
    obtain ⟨o, e, et⟩ := isTy_own hc.2
    obtain ⟨a, ho, h1, h2, h3, h4, h5, h6, h7⟩ := w.owned e
    refine hp B F0 F H σ ob ρ _ _ w hc.1 h1 ⟨by rw [← et]; exact own_tyV h3 h2, ?_⟩
    refine ha B F0 F H σ ob ρ _ w (Post.of_bind (k := fun hs ρ1 => match matAll ρ1 hs with | some (ds, ρ2) => mutEnd k mu ρ2 ds | none => R.stuck) q ?_)
    rintro hs ρ2 B' F2 H2 ob2 ys w2 s2 i2 ⟨⟨rfl, r2⟩, hl⟩ q
    cases e2 : matAll ρ2 hs with
    | none => rw [e2] at q; exact q.elim
    | some x =>
      obtain ⟨ds, ρ3⟩ := x
      rw [e2] at q
      obtain ⟨F3, w3, s3, r3⟩ := w2.matAll r2 e2
      exact mut_end (α := Nat) hm w3 (s2.trans s3) i2 (tau_keep (F2 := F) (H2 := H) (ρ2 := ρ) w hk i2 h1) r3 q
  · exact q.elim
def eMut0 (k : Nat) (ok : Envi → Bool) (T : String) (mu : Own → List D → Option (D × Own)) : Envi → R Hd := fun ρ => if (ok ρ && isTy T ρ k) = true then mutEnd k mu ρ [] else .stuck
theorem snd_mut0 {k : Nat} {ok : Envi → Bool} {T : String} {r : V → List V → Hp → VK → Prop} {mu : Own → List D → Option (D × Own)} (hp : SndP P to k ok) (hm : MutS P.K r mu) : SndE P m W (tBM0 P.K T r to) (eMut0 k ok T mu) := fun B F0 F H σ ob ρ Q w q => by
  unfold eMut0 at q
  split at q
  · rename_i hc
    rw [Bool.and_eq_true] at hc
    obtain ⟨o, e, et⟩ := isTy_own hc.2
    obtain ⟨a, ho, h1, h2, h3, h4, h5, h6, h7⟩ := w.owned e
    refine hp B F0 F H σ ob ρ _ _ w hc.1 h1 ⟨by rw [← et]; exact own_tyV h3 h2, ?_⟩
    exact mut_end (α := Nat) hm w (Same.refl _) (fun _ => rfl) h1 .nil q
  · exact q.elim
/-! the mutators -/
def muAppend (o : Own) (ds : List D) : Option (D × Own) := match o, ds with
  | .li l, [d] => if l.length < big then some (.non, .li (l ++ [d])) else none
  | _, _ => none
theorem ms_append {K : PySem.W.Frag} : MutS K rAppend muAppend := fun F H a ho o vs ds d o' Q s h1 h2 h3 rs e q => by
  unfold muAppend at e
  split at e
  · rename_i l x
    split at e
    · rename_i hl
      cases e
      obtain ⟨us, rfl, h4, h5⟩ := h3
      cases rs with
      | cons r1 r2 =>
        cases r2
        have := h5.length
        exact ⟨a, us, _, rfl, rfl, h1, by rw [← big_line]; omega, q _ .non ⟨_, rfl, by rw [List.length_append, ← big_line]; show us.length + 1 ≤ big; omega, h5.append (.cons r1 .nil)⟩ .non⟩
    · cases e
  · cases e
def muExtend (o : Own) (ds : List D) : Option (D × Own) := match o, ds with
  | .li l, [.lst x] => if l.length + x.length ≤ big then some (.non, .li (l ++ x)) else none
  | _, _ => none
theorem ms_extend {K : PySem.W.Frag} : MutS K rExtend muExtend := fun F H a ho o vs ds d o' Q s h1 h2 h3 rs e q => by
  unfold muExtend at e
  split at e
  · rename_i l x
    split at e
    · rename_i hl
      cases e
      obtain ⟨us, rfl, h4, h5⟩ := h3
      cases rs with
      | cons r1 r2 =>
        cases r2
        cases r1 with
        | @lst b zs _ g1 g2 g3 =>
          have := h5.length
          have := g3.length
          exact ⟨a, b, us, zs, rfl, rfl, h1, s _ _ g1, by rw [← big_line]; omega, q _ .non ⟨_, rfl, by rw [List.length_append, ← big_line]; omega, h5.append g3⟩ .non⟩
    · cases e
  · cases e
def muPop (o : Own) (ds : List D) : Option (D × Own) := match o, ds with
  | .li l, [] => match l[l.length - 1]? with
    | some d => some (d, .li l.dropLast)
    | none => none
  | _, _ => none
theorem ms_pop {K : PySem.W.Frag} : MutS K rPop muPop := fun F H a ho o vs ds d o' Q s h1 h2 h3 rs e q => by
  unfold muPop at e
  split at e
  · rename_i l
    cases e1 : l[l.length - 1]? with
    | none => rw [e1] at e; cases e
    | some x =>
      rw [e1] at e
      cases e
      obtain ⟨us, rfl, h4, h5⟩ := h3
      cases rs
      obtain ⟨v, e2, r⟩ := h5.get e1
      rw [← h5.length] at e2
      exact ⟨a, us, v, rfl, rfl, h1, e2, q _ v ⟨_, rfl, by rw [List.length_dropLast]; omega, h5.dropLast⟩ r⟩
  · cases e
def muPopAt (o : Own) (ds : List D) : Option (D × Own) := match o, ds with
  | .li l, [.int i] => if 0 ≤ i ∧ i < l.length ∧ l.length ≤ big then match l[i.toNat]? with
      | some d => some (d, .li (l.eraseIdx i.toNat))
      | none => none
    else none
  | _, _ => none
theorem ms_popAt {K : PySem.W.Frag} : MutS K rPopAt muPopAt := fun F H a ho o vs ds d o' Q s h1 h2 h3 rs e q => by
  unfold muPopAt at e
  split at e
  · rename_i l i
    split at e
    · rename_i hi
      cases e1 : l[i.toNat]? with
      | none => rw [e1] at e; cases e
      | some x =>
        rw [e1] at e
        cases e
        obtain ⟨us, rfl, h4, h5⟩ := h3
        cases rs with
        | cons r1 r2 =>
          cases r2
          cases r1
          obtain ⟨v, e2, r⟩ := h5.get e1
          have := h5.length
          have hb : big = 16777216 := rfl
          have ix : ixN us.length i = some i.toNat := by
            unfold ixN
            rw [if_pos hi.1, if_pos (by omega)]
          exact ⟨a, us, i, i.toNat, v, rfl, rfl, h1, by omega, by omega, (ixN_seq ix).1, e2, q _ v ⟨_, rfl, Nat.le_trans (len_erase us i.toNat) h4, h5.eraseIdx _⟩ r⟩
    · cases e
  · cases e
/-! methods that look -/
def MethS (K : PySem.W.Frag) (r : V → List V → Hp → VK → Prop) (op : D → List D → Option D) : Prop :=
  ∀ F H x a xs ds c Q, Same F H → BRep K F H x a → BReps K F H xs ds → op a ds = some c → (∀ F' H' v, Grow F H F' H' → Rep K F' v c → Q v H') → r x xs H Q
def tyD (T : String) (d : D) : Bool := match d with
  | .lst _ => T == "list"
  | .klst _ => T == "list"
  | .str _ => T == "str"
  | _ => false
theorem tyD_V {K : PySem.W.Frag} {T : String} {v : V} {d : D} (s : Same F H) (b : BRep K F H v d) (h : tyD T d = true) : tyV K T v H := by
  unfold tyD at h
  split at h
  · obtain ⟨a, vs, rfl, h1, _, _⟩ := b.list s rfl
    exact .inl ⟨by simpa using h, vs, h1⟩
  · obtain ⟨a, vs, rfl, h1, _, _⟩ := b.list s rfl
    exact .inl ⟨by simpa using h, vs, h1⟩
  · cases b.str
    exact (by simpa using h : T = "str")
  · cases h
def lookEnd (op : D → List D → Option D) (ρ : Envi) (h : Hd) (hs : List Hd) : R Hd := match deref ρ h, derefAll ρ hs with
  | some a, some ds => opt1 ρ (op a ds)
  | _, _ => .stuck
def chk (c : D → Bool) (ρ : Envi) (h : Hd) : Bool := match deref ρ h with
  | some d => c d
  | none => false
def eMeth (c : D → Bool) (op : D → List D → Option D) (f : Envi → R Hd) (fa : Envi → R (List Hd)) : Envi → R Hd := fun ρ => (f ρ).frz.bind fun h ρ1 => if chk c ρ1 h = true then (fa ρ1).bind fun hs ρ2 => lookEnd op ρ2 h hs else .stuck
theorem chk_some {c : D → Bool} {h : Hd} (e : chk c ρ h = true) : ∃ d, deref ρ h = some d ∧ c d = true := by
  unfold chk at e
  cases q : deref ρ h with
  | none => rw [q] at e; cases e
  | some d => rw [q] at e; exact ⟨d, rfl, e⟩
theorem snd_bm {T : String} {r : V → List V → Hp → VK → Prop} {op : D → List D → Option D} (hm : MethS P.K r op) (ho : SndE P false W to f) (ha : SndA P false W n tr fa) : SndE P m W (tBM P.K T r to tr) (eMeth (tyD T) op f fa) := by
  refine SndE.up fun B F0 F H σ ob ρ Q w q => ?_
  refine ho.frz B F0 F H σ ob ρ _ w (Post.of_bind q ?_)
  rintro k ρ2 B' F2 H2 ob2 y w2 s2 i2 ⟨rfl, r2⟩ q
  split at q
  · rename_i hc
    obtain ⟨d, e1, e2⟩ := chk_some hc
    refine ⟨tyD_V w2.fh (w2.deref r2 e1) e2, ?_⟩
    refine ha _ F0 F2 H2 σ ob2 ρ2 _ w2 (Post.of_bind (q.shift s2 i2) ?_)
    rintro hs ρ3 B' F3 H3 ob3 ys w3 s3 i3 ⟨⟨rfl, r3⟩, hl⟩ q
    have r2' := r2.mono s3 (i3 rfl)
    unfold lookEnd at q
    cases d1 : deref ρ3 k with
    | none => rw [d1] at q; exact q.elim
    | some a =>
      cases d2 : derefAll ρ3 hs with
      | none => rw [d1, d2] at q; exact q.elim
      | some ds =>
        rw [d1, d2] at q
        exact opt_post (r := fun Q => r y ys H3 Q) w3 s3 i3 q fun c e hq => hm F3 H3 y a ys ds c Q w3.fh (w3.deref r2' d1) (w3.derefAll r3 d2) e hq
  · exact q.elim
def isKT : D → Bool
  | .ktup _ => true
  | _ => false
theorem snd_tm {r : V → List V → Hp → VK → Prop} {op : D → List D → Option D} (hm : MethS P.K r op) (ho : SndE P false W to f) (ha : SndA P false W n tr fa) : SndE P m W (tTM P.K r to tr) (eMeth isKT op f fa) := by
  refine SndE.up fun B F0 F H σ ob ρ Q w q => ?_
  refine ho.frz B F0 F H σ ob ρ _ w (Post.of_bind q ?_)
  rintro k ρ2 B' F2 H2 ob2 y w2 s2 i2 ⟨rfl, r2⟩ q
  split at q
  · rename_i hc
    obtain ⟨d, e1, e2⟩ := chk_some hc
    refine ⟨?_, ?_⟩
    · cases d with
      | ktup l =>
        have b := w2.deref r2 e1
        have b := tup_rep b (ds := l) rfl
        cases b with
        | ktup h1 h2 h3 => exact ⟨_, _, rfl, h1.mono w2.fh⟩
      | _ => cases e2
    refine ha _ F0 F2 H2 σ ob2 ρ2 _ w2 (Post.of_bind (q.shift s2 i2) ?_)
    rintro hs ρ3 B' F3 H3 ob3 ys w3 s3 i3 ⟨⟨rfl, r3⟩, hl⟩ q
    have r2' := r2.mono s3 (i3 rfl)
    unfold lookEnd at q
    cases d1 : deref ρ3 k with
    | none => rw [d1] at q; exact q.elim
    | some a =>
      cases d2 : derefAll ρ3 hs with
      | none => rw [d1, d2] at q; exact q.elim
      | some ds =>
        rw [d1, d2] at q
        exact opt_post (r := fun Q => r y ys H3 Q) w3 s3 i3 q fun c e hq => hm F3 H3 y a ys ds c Q w3.fh (w3.deref r2' d1) (w3.derefAll r3 d2) e hq
  · exact q.elim
/-- the first place of an equal one -/
def firstIx (p : PyData) : List PyData → Option Nat
  | [] => none
  | q :: qs => if PyData.eqv q p = true then some 0 else (firstIx p qs).map (· + 1)
theorem firstIx_spec {p : PyData} : ∀ {qs : List PyData} {j : Nat}, firstIx p qs = some j → ∃ z, qs[j]? = some z ∧ PyData.eqv z p = true ∧ ∀ (m : Nat) (z' : PyData), m < j → qs[m]? = some z' → PyData.eqv z' p = false
  | [], _, e => by cases e
  | q :: qs, j, e => by
    unfold firstIx at e
    split at e
    · rename_i h
      cases e
      exact ⟨q, rfl, h, fun m z' hm => by omega⟩
    · rename_i h
      obtain ⟨k, e1, rfl⟩ := Option.map_eq_some_iff.mp e
      obtain ⟨z, h1, h2, h3⟩ := firstIx_spec e1
      refine ⟨z, by simpa using h1, h2, fun m z' hm hz => ?_⟩
      cases m with
      | zero => simp at hz; subst hz; simpa using h
      | succ m => exact h3 m z' (by omega) (by simpa using hz)
def ixD (l : List D) (d : D) (wrap : List PyData → PyData) : Option D := match toPy d, toPys l with
  | some p, some qs => if (SeqAt.shaped p && SeqAt.shaped (wrap qs)) = true then (firstIx p qs).map fun j => .int (j : Nat) else none
  | _, _ => none
def opIndexL (a : D) (ds : List D) : Option D := match lstOf a, ds with
  | some l, [d] => ixD l d .list
  | _, _ => none
def opIndexT (a : D) (ds : List D) : Option D := match tupOf a, ds with
  | some l, [d] => ixD l d .tuple
  | _, _ => none
theorem ixD_some {l : List D} {d c : D} {wrap : List PyData → PyData} (e : ixD l d wrap = some c) : ∃ p qs j, toPy d = some p ∧ toPys l = some qs ∧ SeqAt.shaped p = true ∧ SeqAt.shaped (wrap qs) = true ∧ firstIx p qs = some j ∧ c = .int (j : Nat) := by
  unfold ixD at e
  cases e1 : toPy d with
  | none => rw [e1] at e; cases e
  | some p =>
    cases e2 : toPys l with
    | none => rw [e1, e2] at e; cases e
    | some qs =>
      rw [e1, e2] at e
      dsimp only at e
      split at e
      · rename_i h
        rw [Bool.and_eq_true] at h
        obtain ⟨j, e3, rfl⟩ := Option.map_eq_some_iff.mp e
        exact ⟨p, qs, j, rfl, rfl, h.1, h.2, e3, rfl⟩
      · cases e
theorem mh_indexL {K : PySem.W.Frag} : MethS K (rIndexD K) opIndexL := fun F H x a xs ds c Q s b bs e q => by
  unfold opIndexL at e
  split at e
  · rename_i l d e1
    obtain ⟨p, qs, j, f1, f2, f3, f4, f5, rfl⟩ := ixD_some e
    obtain ⟨v, rfl, b1⟩ := breps_one bs
    obtain ⟨z, g1, g2, g3⟩ := firstIx_spec f5
    obtain ⟨ad, vs, rfl, h1, h2, h3⟩ := b.list s e1
    exact ⟨ad, v, p, qs, j, z, rfl, rfl, .lst h1 ((h3.mono s).dp f2), b1.dp s f1, f4, f3, g1, g2, g3, q F H _ (.refl _ _) (.int _)⟩
  · cases e
theorem mh_indexT {K : PySem.W.Frag} : MethS K (rIndexT K) opIndexT := fun F H x a xs ds c Q s b bs e q => by
  unfold opIndexT at e
  split at e
  · rename_i l d e1
    obtain ⟨p, qs, j, f1, f2, f3, f4, f5, rfl⟩ := ixD_some e
    obtain ⟨v, rfl, b1⟩ := breps_one bs
    obtain ⟨z, g1, g2, g3⟩ := firstIx_spec f5
    obtain ⟨ad, vs, rfl, h1, h2, h3⟩ := b.tuple s e1
    exact ⟨ad, v, p, qs, j, z, rfl, rfl, .tup h1 ((h3.mono s).dp f2), b1.dp s f1, f4, f3, g1, g2, g3, q F H _ (.refl _ _) (.int _)⟩
  · cases e
def opCountL (a : D) (ds : List D) : Option D := match lstOf a, ds with
  | some l, [d] => match toPy d, toPys l with
    | some p, some qs => if (SeqAt.shaped p && SeqAt.shaped (.list qs)) = true then some (.int ((qs.countP fun z => PyData.eqv z p) : Nat)) else none
    | _, _ => none
  | _, _ => none
theorem mh_countL {K : PySem.W.Frag} : MethS K (rCountD K) opCountL := fun F H x a xs ds c Q s b bs e q => by
  unfold opCountL at e
  split at e
  · rename_i l d e0
    cases e1 : toPy d with
    | none => rw [e1] at e; cases e
    | some p =>
      cases e2 : toPys l with
      | none => rw [e1, e2] at e; cases e
      | some qs =>
        rw [e1, e2] at e
        dsimp only at e
        split at e
        · rename_i h
          rw [Bool.and_eq_true] at h
          cases e
          obtain ⟨v, rfl, b1⟩ := breps_one bs
          obtain ⟨ad, vs, rfl, h1, h2, h3⟩ := b.list s e0
          exact ⟨ad, v, p, qs, rfl, rfl, .lst h1 ((h3.mono s).dp e2), b1.dp s e1, h.2, h.1, q F H _ (.refl _ _) (.int _)⟩
        · cases e
  · cases e
end
end Pv

set_option Elab.async false
set_option linter.all false
set_option maxRecDepth 100000
namespace Pv
open PySem PySem.Spec PyProof.Rows L2
open PySem.AutoSeq1 (wpAny_loadPart')
/-! enumerate over a tuple -/
theorem meets_enum_tup (l : Addr) (items : Array Value) (n : Nat) (dct : Option Addr) (sl : Array (Option Value)) :
    Meets (Builtin.«enumerate.__new__» ⟨[.type "enumerate", .ref l], []⟩) (fun _ R s => s.heap.get? l = some { cls := .type "tuple", dict := dct, data := .seq items n, slots := sl } ∧
      R (.ok (.ret (.ref (s.heap.push { cls := .type "tuple_iterator", data := .fields #[.ref l, .int 0 0] }).objs.size)))
        { s with heap := (s.heap.push { cls := .type "tuple_iterator", data := .fields #[.ref l, .int 0 0] }).push { cls := .type "enumerate", data := .fields #[.none, .bool false, .ref s.heap.objs.size, rawInt 0, .none, .none] } }) :=
  .of_wp fun prog w A R s h => by
    obtain ⟨hp, g, d, tk, os⟩ := s; obtain ⟨hl, h⟩ := h
    have hsub := sub_enumerate
    have hL : Heap.IsTuple (Shared.heap ⟨hp, g, d, tk, os⟩) l items := ⟨_, hl, rfl, n, rfl⟩
    wp_walk using wpAny_loadPart' hl
    refine wpAny_stack_any fun st => wpAny_pure ?_
    split
    · rename_i c _ _ _ _ _
      cases (c == Value.type "enumerate")
      · wp_walk using wpAny_loadPart' hl, wpAny_pyIter_tuple hL
        exact ⟨_, rfl, h⟩
      · wp_walk using wpAny_loadPart' hl, wpAny_pyIter_tuple hL
        exact ⟨_, rfl, h⟩
    · wp_walk using wpAny_loadPart' hl, wpAny_pyIter_tuple hL
      exact ⟨_, rfl, h⟩
theorem call_enum_tup {prog : Program} {w : World} {A : Around} {E : Value → Shared → Prop} {s : Shared} {l : Addr} {items : Array Value} {Q : Value → Shared → Prop} (hL : s.heap.IsTuple l items)
    (h : ∀ h', IsEnum h' (s.heap.objs.size + 1) s.heap.objs.size 0 .none → h'.IsTupleIter s.heap.objs.size l 0 → h'.objs.size = s.heap.objs.size + 2 →
      (∀ b o, s.heap.get? b = some o → h'.get? b = some o) → Q (.ref (s.heap.objs.size + 1)) { s with heap := h' }) :
    wpAny (model prog w) A (call (.type "enumerate") [.ref l]) Q E s := by
  obtain ⟨⟨c, dct, dt, sl⟩, hl, hc, n, hd⟩ := hL
  replace hc : c = .type "tuple" := hc
  replace hd : dt = .seq items n := hd
  subst hc hd
  refine callType_new F.called_enumerate (by decide) (F.typeCall_enumerate_1 _) (F.newCall_enumerate_1 _) (fun obj => F.args_object_init_2 obj _) F.entry_enumerate_new
    (meets_enum_tup l items n dct sl) ⟨hl, ?_⟩
  have hz : (s.heap.push { cls := .type "tuple_iterator", data := .fields #[.ref l, .int 0 0] }).objs.size = s.heap.objs.size + 1 := Heap.size_push ..
  show _ ∧ _
  rw [hz]
  have he : IsEnum ((s.heap.push { cls := .type "tuple_iterator", data := .fields #[.ref l, .int 0 0] }).push
      { cls := .type "enumerate", data := .fields #[.none, .bool false, .ref s.heap.objs.size, rawInt 0, .none, .none] }) (s.heap.objs.size + 1) s.heap.objs.size 0 .none := by
    have := Heap.get?_push_size (s.heap.push { cls := .type "tuple_iterator", data := .fields #[.ref l, .int 0 0] })
      (o := { cls := .type "enumerate", data := .fields #[.none, .bool false, .ref s.heap.objs.size, rawInt 0, .none, .none] }) rfl
    rw [hz] at this; exact this
  refine ⟨⟨_, he, rfl⟩, h _ he ⟨_, Heap.get?_push_of_some _ (Heap.get?_push_size _ rfl), rfl, rfl⟩ (by rw [Heap.size_push, hz]) fun b o x => Heap.get?_push_of_some _ (Heap.get?_push_of_some _ x)⟩
end Pv

set_option Elab.async false
set_option linter.all false
set_option maxRecDepth 100000
namespace Pv
open PySem PySem.Spec PyProof.Rows L2
/-! enumerate and zip as iterators -/
/-- the tuple at a, each item in a new pair with its place -/
def IteT (K : PySem.W.Frag) (a : Addr) : It :=
  ⟨fun i H => ∃ (xs : List V) (x : V), SqT K H a xs ∧ xs[i]? = some x,
   fun i H v H' => ∃ T x, v = .ref T ∧ H T = none ∧ H' = upd H T (.tup [.int (i : Nat), x]) ∧ ∀ xs, SqT K H a xs → xs[i]? = some x,
   fun i H => ∃ xs : List V, SqT K H a xs ∧ xs.length ≤ i⟩
theorem turn_enumT {P : Program} {w : World} {K : PySem.W.Frag} {elts : List Expr} {kk : Nat} {tpos : Pos} (a e it : Addr) :
    Turn P w K (.Tuple elts kk tpos) (IteT K a) [e, it] e (fun i h => (∃ old, IsEnum h e it ((i : Nat) : Int) old) ∧ h.IsTupleIter it a i ∧ e ≠ it ∧ e ≠ a ∧ a ≠ it) where
  mem := by simp
  obj := fun i h st b hb => by
    obtain ⟨⟨old, he⟩, ⟨o, ho, hc, hd⟩, _⟩ := st
    rcases (show b = e ∨ b = it by simpa using hb) with rfl | rfl
    · exact ⟨_, he, fun v q => nomatch q⟩
    · exact ⟨o, ho, fun v q => by rw [hd] at q; cases q⟩
  keep := fun i h h' st k => by
    obtain ⟨⟨old, he⟩, hi, hne⟩ := st
    exact ⟨⟨old, k e (by simp) _ he⟩, hi.at fun o q => k it (by simp) o q, hne⟩
  item := by
    intro X hP hw hK hc i pins s σ H E I hf st hg
    subst hP hw hK
    obtain ⟨⟨old, he⟩, hit, hne, hea, hai⟩ := st
    obtain ⟨xs, x, hq, hx⟩ := hg
    obtain ⟨its, rv, p, hz⟩ := I.tuple hq
    obtain ⟨u, hu, ru⟩ := rv.get hx
    have hel : e < s.heap.objs.size := Heap.lt_size he
    have hil : it < s.heap.objs.size := by obtain ⟨_, q, _⟩ := hit; exact Heap.lt_size q
    have hlt : i < its.toArray.size := (Array.getElem?_eq_some_iff.mp (show its.toArray[i]? = some u by simpa using hu)).1
    refine wpAny_pyNext_enum_itemD (Draws.tuple (A := X.A.in1) (I.ok.hd hc) it a hai its.toArray) he ⟨hit, p⟩ hlt hne (by simp; exact ⟨hne, hea⟩) fun x' h' tk hP ho ⟨hit', _⟩ hT hsz hk => ?_
    have hxu : x' = u := by
      have h1 : its.toArray[i]? = some u := by simpa using hu
      have h2 : its.toArray[i]? = some x' := hP
      rw [h1] at h2; exact (Option.some.inj h2).symm
    subst hxu
    refine ⟨_, rfl, wpAny_letOwnedTupleGo_enum (s := { s with heap := h', toks := tk + 1 }) ho fun h'' he' sb => ?_⟩
    have hT2 : h''.get? s.heap.objs.size = some { cls := .type "tuple", data := .seq #[.int i tk, x'] } := (sb.2 _ (Nat.ne_of_gt hel)).trans hT
    have new : ObjOk X.prog X.w (upd H s.heap.objs.size (.tup [.int (i : Nat), x])) h'' s.heap.objs.size (.tup [.int (i : Nat), x]) :=
      ⟨by show 2 ≤ sizeLine; decide, [.int i tk, x'], .cons ⟨_, rfl⟩ (.cons ru .nil), ⟨_, hT2, rfl, _, rfl⟩⟩
    have I1 : Inv X pins σ (upd H s.heap.objs.size (.tup [.int (i : Nat), x])) { s with heap := h'', toks := tk + 1 } :=
      I.turnedNew (ch := [e, it]) (fun b ob hb q => (sb.2 b (fun z => hb (by simp [z]))).trans (hk b ob (fun z => hb (by simp [z])) (fun z => hb (by simp [z])) q)) hf (Nat.le_refl _) new
    refine ⟨.ref s.heap.objs.size, _, I1, rfl, ⟨_, x, rfl, I.hok.fresh (Nat.le_refl _), rfl, fun ys hy => by rw [I.tuple_inj hy hq]; exact hx⟩, ⟨⟨x', ?_⟩, hit'.at fun o q => (sb.2 it (Ne.symm hne)).trans q, hne, hea, hai⟩, fun b hb => ?_⟩
    · rw [show ((i + 1 : Nat) : Int) = (i : Int) + 1 from by omega]; exact he'
    · have hb' : b < s.heap.objs.size := by
        rcases (show b = e ∨ b = it by simpa using hb) with rfl | rfl
        · exact hel
        · exact hil
      rw [upd_ne (Nat.ne_of_lt hb')]
      exact (hf b hb).1
  done := by
    intro X hP hw hK hc i pins s σ H E I hf st hg
    subst hP hw hK
    obtain ⟨⟨old, he⟩, hit, hne, hea, hai⟩ := st
    obtain ⟨xs, hq, hx⟩ := hg
    obtain ⟨its, rv, p, hz⟩ := I.tuple hq
    obtain ⟨f0, f1, f2, f3, f4, f5⟩ := hf it (by simp)
    have hl := rv.length
    have hT : s.TypeIs (.ref e) "enumerate" := ⟨_, he, rfl⟩
    unfold pyNext
    refine wpAny_bind (wpAny_attempt (wpAny_callSpecial?_slot (name := Str.ofString "__next__") hT F.slot_enumerate_next
      (wpAny_call_entry F.slot_enumerate_next hT F.entry_enumerate_next ?_ (F.args_enumerate_next_1 _))))
    show wpAny _ _ (field (.ref e) 2 >>= _) _ _ _
    refine wpAny_bind (wpAny_field he rfl (x := .ref it) rfl ?_)
    refine wpAny_bind (wpAny_nextOf_tuple_end (I.ok.hd hc) hit (show s.heap.IsTuple a its.toArray from p) (by simp; omega) fun h' x he' hx' => ?_)
    obtain ⟨o, ho, hcc⟩ := hx'
    refine wpAny_bind (wpAny_isInstance (T := "StopIteration") (b := true) ⟨o, ho, hcc⟩ isSubtype_stop ?_)
    exact wpAny_pure ⟨rfl, I.turned (t' := s.toks) (fun b o hb q => he' b o hb q) f0 f1 f3 f4 f5⟩
  self := fun A i s Q E st h => by
    obtain ⟨⟨_, he⟩, _⟩ := st
    exact wpAny_pyIter_enum he h
def iEnumT (K : PySem.W.Frag) (ta : TA) : TI := fun σ H R => ta σ H fun vs H1 => ∃ a xs, vs = [.ref a] ∧ SqT K H1 a xs ∧ R (IteT K a) H1
theorem pi_enumT {X : Cx} {e : Expr} {ta : TA} {p pos tpos : Pos} {elts : List Expr} {kk : Nat} (hg : Gl X "enumerate") (hm : X.mg "enumerate" = none) (ha : PA X [e] ta) (hs : starEach [e] X.env = [(false, eval e X.env)] := by rfl) :
    PI X (.Tuple elts kk tpos) (.Call (.Name "enumerate" p) [e] [] pos) (iEnumT X.K ta) := by
  refine ⟨fun pins s σ H R I h => ?_⟩
  refine Call_ (ld_blt I hg hm boot_enumerate (PyProof.Rows.callWith_type1 (thn (ha.run pos pins s σ H _ I h) fun us s1 ⟨vs, H1, I1, r1, q1⟩ => ?_) hs rfl))
  obtain ⟨a, xs, rfl, hq, q⟩ := q1
  cases r1 with
  | cons r rr =>
    cases rr
    cases r
    obtain ⟨its, rv, p', hz⟩ := I1.tuple hq
    have hlt : a < s1.heap.objs.size := by obtain ⟨_, q, _⟩ := id p'; exact Heap.lt_size q
    refine call_enum_tup p' fun h' he hit hsz hk => wpAny_pyIter_enum he ?_
    have I2 : Inv X pins σ H1 { s1 with heap := h' } := I1.kept (t' := s1.toks) hk
    refine ⟨s1.heap.objs.size + 1, [s1.heap.objs.size + 1, s1.heap.objs.size], _, _, H1, rfl, I2, turn_enumT a (s1.heap.objs.size + 1) s1.heap.objs.size, ⟨⟨.none, he⟩, hit, Nat.succ_ne_self _, fun z => by rw [← z] at hlt; exact absurd hlt (by simp), fun z => by rw [z] at hlt; exact absurd hlt (by simp)⟩, fun b hb => ?_, q⟩
    have hle : s1.heap.objs.size ≤ b := by
      rcases (show b = s1.heap.objs.size + 1 ∨ b = s1.heap.objs.size by simpa using hb) with rfl | rfl
      · omega
      · exact Nat.le_refl _
    exact I1.fpOk hle (I1.hok.fresh hle)
/-! the pure side -/
def enumD : Nat → List D → List D
  | _, [] => []
  | i, d :: ds => .tup [.int (i : Nat), d] :: enumD (i + 1) ds
theorem enumD_length : ∀ (i : Nat) (ds : List Pv.D), (enumD i ds).length = ds.length
  | _, [] => rfl
  | i, d :: ds => by show (enumD (i + 1) ds).length + 1 = ds.length + 1; rw [enumD_length]
theorem enumD_get : ∀ (i k : Nat) (ds : List Pv.D), (enumD i ds)[k]? = (ds[k]?).map fun d => .tup [.int ((i + k : Nat) : Int), d]
  | i, k, [] => by simp [enumD]
  | i, 0, d :: ds => rfl
  | i, k + 1, d :: ds => by
    show (enumD (i + 1) ds)[k]? = _
    rw [enumD_get, show i + 1 + k = i + (k + 1) from by omega]
    rfl
def zipD : List D → List D → List D
  | a :: as, b :: bs => .tup [a, b] :: zipD as bs
  | _, _ => []
theorem zipD_length : ∀ (a b : List Pv.D), (zipD a b).length = min a.length b.length
  | [], b => by simp [zipD]
  | a :: as, [] => by simp [zipD]
  | a :: as, b :: bs => by show (zipD as bs).length + 1 = _; rw [zipD_length]; simp
theorem zipD_get : ∀ (k : Nat) (a b : List Pv.D) (d : Pv.D), (zipD a b)[k]? = some d → ∃ x y, a[k]? = some x ∧ b[k]? = some y ∧ d = .tup [x, y]
  | k, [], b, d, h => by simp [zipD] at h
  | k, a :: as, [], d, h => by simp [zipD] at h
  | 0, a :: as, b :: bs, d, h => by cases h; exact ⟨a, b, rfl, rfl, rfl⟩
  | k + 1, a :: as, b :: bs, d, h => by
    obtain ⟨x, y, h1, h2, h3⟩ := zipD_get k as bs d h
    exact ⟨x, y, h1, h2, h3⟩
def itEnumL (fa : Envi → R (List Hd)) : Envi → R (List D) := fun ρ => (fa ρ).bind fun hs ρ1 => match hs with
  | [.dat d] => opt2 ρ1 ((lstOf d).map (enumD 0))
  | _ => .stuck
def itEnumT (fa : Envi → R (List Hd)) : Envi → R (List D) := fun ρ => (fa ρ).bind fun hs ρ1 => match hs with
  | [.dat d] => opt2 ρ1 ((tupOf d).map (enumD 0))
  | _ => .stuck
section
variable {P : Pr} {m : Bool} {W : WX} {te ta tb : TE} {f : Envi → R Hd} {B F0 F H : Hp} {tr : TA} {n : Nat} {fa : Envi → R (List Hd)}
theorem itOk_enumT {K : PySem.W.Frag} {a : Addr} {vs : List V} {ds : List D} (h : SqT K F a vs) (r : Reps K F vs ds) : ItOk K (IteT K a) F (enumD 0 ds) := fun F2 H2 s1 s2 => by
  have h2 := same_sqt s2 (same_sqt s1 h)
  refine ⟨fun i d e => ?_, fun i hi => ⟨vs, h2, by rw [enumD_length] at hi; rw [r.length]; exact hi⟩⟩
  rw [enumD_get] at e
  cases e0 : ds[i]? with
  | none => rw [e0] at e; cases e
  | some d0 =>
    rw [e0] at e
    cases e
    obtain ⟨v, e1, e2⟩ := r.get e0
    refine ⟨⟨vs, v, h2, e1⟩, fun x H3 y => ?_⟩
    obtain ⟨T, x', rfl, hn, rfl, y⟩ := y
    have := y vs h2
    rw [e1] at this
    cases this
    refine ⟨upd F2 T (.tup [.int (i : Nat), v]), .new (.refl _ _) hn, .tup upd_same (by show 2 ≤ sizeLine; decide) ?_⟩
    have hs : Same F2 (upd F2 T (.tup [.int (i : Nat), v])) := same_new (s2.free hn)
    refine .cons ?_ (.cons (Rep.mono (s1.trans hs) e2) .nil)
    rw [show ((0 + i : Nat) : Int) = (i : Int) from by omega]
    exact .int _
theorem itOk_enumL {K : PySem.W.Frag} {a : Addr} {vs : List V} {ds : List D} (h : SqL K F a vs) (r : Reps K F vs ds) : ItOk K (Ite K a) F (enumD 0 ds) := fun F2 H2 s1 s2 => by
  have h2 := same_sql s2 (same_sql s1 h)
  refine ⟨fun i d e => ?_, fun i hi => ⟨vs, h2, by rw [enumD_length] at hi; rw [r.length]; exact hi⟩⟩
  rw [enumD_get] at e
  cases e0 : ds[i]? with
  | none => rw [e0] at e; cases e
  | some d0 =>
    rw [e0] at e
    cases e
    obtain ⟨v, e1, e2⟩ := r.get e0
    refine ⟨⟨vs, v, h2, e1⟩, fun x H3 y => ?_⟩
    obtain ⟨T, x', rfl, hn, rfl, y⟩ := y
    have := y vs h2
    rw [e1] at this
    cases this
    refine ⟨upd F2 T (.tup [.int (i : Nat), v]), .new (.refl _ _) hn, .tup upd_same (by show 2 ≤ sizeLine; decide) ?_⟩
    have hs : Same F2 (upd F2 T (.tup [.int (i : Nat), v])) := same_new (s2.free hn)
    refine .cons ?_ (.cons (Rep.mono (s1.trans hs) e2) .nil)
    rw [show ((0 + i : Nat) : Int) = (i : Int) from by omega]
    exact .int _
theorem si_enumT (h : SndA P m W n tr fa) : SndI P m W (iEnumT P.K tr) (itEnumT fa) := fun B F0 F H σ ob ρ Q w q => by
  refine h B F0 F H σ ob ρ _ w (Post.of_bind q ?_)
  rintro hs ρ2 B' F2 H2 ob2 ys w2 s2 i2 ⟨⟨rfl, r2⟩, hl⟩ q
  match hs, ys, r2, q with
  | [.dat d], [v], ⟨r, _⟩, q =>
    cases e : tupOf d with
    | none => simp only [e, opt2, Option.map] at q; exact q.elim
    | some ds =>
      simp only [e, opt2, Option.map] at q
      obtain ⟨a, vs, rfl, h1, h2, h3⟩ := rep_tupOf r e
      exact ⟨a, vs, rfl, same_sqt w2.fh h1, q _ F2 H2 ob2 _ w2 s2 i2 ⟨rfl, itOk_enumT h1 h3, by rw [enumD_length, ← h3.length]; exact h2⟩⟩
theorem si_enumL (h : SndA P m W n tr fa) : SndI P m W (iEnum P.K tr) (itEnumL fa) := fun B F0 F H σ ob ρ Q w q => by
  refine h B F0 F H σ ob ρ _ w (Post.of_bind q ?_)
  rintro hs ρ2 B' F2 H2 ob2 ys w2 s2 i2 ⟨⟨rfl, r2⟩, hl⟩ q
  match hs, ys, r2, q with
  | [.dat d], [v], ⟨r, _⟩, q =>
    cases e : lstOf d with
    | none => simp only [e, opt2, Option.map] at q; exact q.elim
    | some ds =>
      simp only [e, opt2, Option.map] at q
      obtain ⟨a, vs, rfl, h1, h2, h3⟩ := rep_lstOf r e
      exact ⟨a, vs, rfl, same_sql w2.fh h1, q _ F2 H2 ob2 _ w2 s2 i2 ⟨rfl, itOk_enumL h1 h3, by rw [enumD_length, ← h3.length]; exact h2⟩⟩
/-! zip -/
theorem itOk_zip {K : PySem.W.Frag} {a b : Addr} {vs us : List V} {ds es : List D} (h : SqL K F a vs) (g : SqL K F b us) (r : Reps K F vs ds) (r' : Reps K F us es) : ItOk K (Itz K a b) F (zipD ds es) := fun F2 H2 s1 s2 => by
  have h2 := same_sql s2 (same_sql s1 h)
  have g2 := same_sql s2 (same_sql s1 g)
  refine ⟨fun i d e => ?_, fun i hi => ⟨vs, us, h2, g2, by rw [zipD_length] at hi; rw [r.length, r'.length]; omega⟩⟩
  obtain ⟨x, y, ex, ey, rfl⟩ := zipD_get i ds es d e
  obtain ⟨v, e1, e2⟩ := r.get ex
  obtain ⟨u, e3, e4⟩ := r'.get ey
  refine ⟨⟨vs, us, v, u, h2, g2, e1, e3⟩, fun x H3 y => ?_⟩
  obtain ⟨T, x', y', rfl, hn, rfl, y1, y2⟩ := y
  have z1 := y1 vs h2
  have z2 := y2 us g2
  rw [e1] at z1
  rw [e3] at z2
  cases z1
  cases z2
  have hs : Same F2 (upd F2 T (.tup [v, u])) := same_new (s2.free hn)
  exact ⟨upd F2 T (.tup [v, u]), .new (.refl _ _) hn, .tup upd_same (by show 2 ≤ sizeLine; decide) (.cons (Rep.mono (s1.trans hs) e2) (.cons (Rep.mono (s1.trans hs) e4) .nil))⟩
theorem itOk_zipT {K : PySem.W.Frag} {a b : Addr} {vs us : List V} {ds es : List D} (h : SqT K F a vs) (g : SqT K F b us) (r : Reps K F vs ds) (r' : Reps K F us es) : ItOk K (RZ.ItzT K a b) F (zipD ds es) := fun F2 H2 s1 s2 => by
  have h2 := same_sqt s2 (same_sqt s1 h)
  have g2 := same_sqt s2 (same_sqt s1 g)
  refine ⟨fun i d e => ?_, fun i hi => ⟨vs, us, h2, g2, by rw [zipD_length] at hi; rw [r.length, r'.length]; omega⟩⟩
  obtain ⟨x, y, ex, ey, rfl⟩ := zipD_get i ds es d e
  obtain ⟨v, e1, e2⟩ := r.get ex
  obtain ⟨u, e3, e4⟩ := r'.get ey
  refine ⟨⟨vs, us, v, u, h2, g2, e1, e3⟩, fun x H3 y => ?_⟩
  obtain ⟨T, x', y', rfl, hn, rfl, y1, y2⟩ := y
  have z1 := y1 vs h2
  have z2 := y2 us g2
  rw [e1] at z1
  rw [e3] at z2
  cases z1
  cases z2
  have hs : Same F2 (upd F2 T (.tup [v, u])) := same_new (s2.free hn)
  exact ⟨upd F2 T (.tup [v, u]), .new (.refl _ _) hn, .tup upd_same (by show 2 ≤ sizeLine; decide) (.cons (Rep.mono (s1.trans hs) e2) (.cons (Rep.mono (s1.trans hs) e4) .nil))⟩
def itZipA (fa : Envi → R (List Hd)) : Envi → R (List D) := fun ρ => (fa ρ).bind fun hs ρ1 => match hs with
  | [.dat d, .dat e] => match lstOf d, lstOf e, tupOf d, tupOf e with
    | some ds, some es, _, _ => .ok (zipD ds es) ρ1
    | _, _, some ds, some es => .ok (zipD ds es) ρ1
    | _, _, _, _ => .stuck
  | _ => .stuck
theorem si_zip (h : SndA P m W n tr fa) : SndI P m W (RZ.iZipA P.K tr) (itZipA fa) := fun B F0 F H σ ob ρ Q w q => by
  refine h B F0 F H σ ob ρ _ w (Post.of_bind q ?_)
  rintro hs ρ2 B' F2 H2 ob2 ys w2 s2 i2 ⟨⟨rfl, r2⟩, hl⟩ q
  match hs, ys, r2, q with
  | [.dat d, .dat e], [v, u], ⟨r, r', _⟩, q =>
    dsimp only at q
    split at q
    · rename_i ds es e1 e2
      obtain ⟨a, vs, rfl, h1, h2, h3⟩ := rep_lstOf r e1
      obtain ⟨b, us, rfl, g1, g2, g3⟩ := rep_lstOf r' e2
      refine ⟨a, b, vs, us, rfl, .inl ⟨same_sql w2.fh h1, same_sql w2.fh g1, q _ F2 H2 ob2 _ w2 s2 i2 ⟨rfl, itOk_zip h1 g1 h3 g3, ?_⟩⟩⟩
      rw [zipD_length, ← h3.length]; omega
    · rename_i ds es e1 e2 _
      obtain ⟨a, vs, rfl, h1, h2, h3⟩ := rep_tupOf r e1
      obtain ⟨b, us, rfl, g1, g2, g3⟩ := rep_tupOf r' e2
      refine ⟨a, b, vs, us, rfl, .inr ⟨same_sqt w2.fh h1, same_sqt w2.fh g1, q _ F2 H2 ob2 _ w2 s2 i2 ⟨rfl, itOk_zipT h1 g1 h3 g3, ?_⟩⟩⟩
      rw [zipD_length, ← h3.length]; omega
    · exact q.elim
end
end Pv

set_option Elab.async false
set_option linter.all false
set_option maxRecDepth 100000
namespace Pv
open PySem PySem.Spec PyProof.Rows L2
/-! more readings: chains, list(range), insert, dict(..), puts, sorted, least of data -/
section
variable {P : Pr} {m : Bool} {W : WX} {te ta tb tc to : TE} {f g e : Envi → R Hd} {n : Nat} {fa : Envi → R (List Hd)} {tr : TA} {B F0 F H : Hp} {σ : L2.St} {ob : Ob} {ρ : Envi} {K : PySem.W.Frag}
/-- a < b < c: the first test, then the second -/
def eChain (op op' : D → D → Option D) (f g e : Envi → R Hd) : Envi → R Hd := fun ρ => (f ρ).frz.bind fun h ρ1 => (g ρ1).frz.bind fun k ρ2 => match deref ρ2 h, deref ρ2 k with
  | some a, some b => match op a b with
    | some (.bl true) => (e ρ2).frz.bind fun l ρ3 => on2 op' ρ3 k l
    | some (.bl false) => .ok (.dat (.bl false)) ρ2
    | _ => .stuck
  | _, _ => .stuck
theorem snd_chain {r r' : R2} {op op' : D → D → Option D} (ho : OpS P.K r op) (ho' : OpS P.K r' op') (ha : SndE P false W ta f) (hb : SndE P false W tb g) (hc : SndE P false W tc e) : SndE P m W (tChain r r' ta tb tc) (eChain op op' f g e) := by
  refine SndE.up ?_
  intro B F0 F H σ ob ρ Q w q
  refine ha.frz B F0 F H σ ob ρ _ w (Post.of_bind q ?_)
  rintro h ρ1 B1 F1 H1 ob1 x w1 s1 i1 ⟨rfl, r1⟩ q
  refine hb.frz _ F0 F1 H1 σ ob1 ρ1 _ w1 (Post.of_bind (Post.shift s1 i1 q) ?_)
  rintro k ρ2 B2 F2 H2 ob2 y w2 s2 i2 ⟨rfl, r2⟩ q
  have q := Post.shift s2 i2 q
  have r1' := r1.mono s2 (i2 rfl)
  cases e1 : deref ρ2 h with
  | none => rw [e1] at q; exact q.elim
  | some a =>
    cases e2 : deref ρ2 k with
    | none => rw [e1, e2] at q; exact q.elim
    | some b =>
      rw [e1, e2] at q
      dsimp only at q
      have b1 := w2.deref r1' e1
      have b2 := w2.deref r2 e2
      cases e3 : op a b with
      | none => rw [e3] at q; exact q.elim
      | some c =>
        rw [e3] at q
        cases c with
        | bl c =>
          refine ho F2 H2 x y a b _ _ w2.fh b1 b2 e3 fun F3 H3 z gr rz => ?_
          cases rz
          obtain ⟨w3, s3⟩ := w2.growN gr
          refine ⟨c, rfl, ?_⟩
          cases c with
          | true =>
            simp only [if_true]
            refine hc.frz _ F0 F3 H3 σ ob2 ρ2 _ w3 (Post.of_bind (Post.shift s3 (fun _ => rfl) q) ?_)
            rintro l ρ3 B3 F4 H4 ob3 u w4 s4 i4 ⟨rfl, r4⟩ q
            have q := Post.shift s4 i4 q
            have r2' := (r2.mono s3 rfl).mono s4 (i4 rfl)
            unfold on2 at q
            cases e4 : deref ρ3 k with
            | none => rw [e4] at q; exact q.elim
            | some b' =>
              cases e5 : deref ρ3 l with
              | none => rw [e4, e5] at q; exact q.elim
              | some d =>
                rw [e4, e5] at q
                dsimp only at q
                cases e6 : op' b' d with
                | none => rw [e6] at q; exact q.elim
                | some c' =>
                  rw [e6] at q
                  refine ho' F4 H4 y u b' d _ _ w4.fh (w4.deref r2' e4) (w4.deref r4 e5) e6 fun F5 H5 z gr rz => ?_
                  obtain ⟨w5, s5⟩ := w4.growN gr
                  exact q _ F5 H5 ob3 z w5 s5 (fun _ => rfl) ⟨rfl, rz⟩
          | false =>
            simp only [Bool.false_eq_true, if_false]
            exact q _ F3 H3 ob2 _ w3 s3 (fun _ => rfl) ⟨rfl, .bl _⟩
        | _ => exact q.elim
/-! list(range(..)) -/
def eLRg1 (f : Envi → R Hd) : Envi → R Hd := fun ρ => (f ρ).frz.bind fun h ρ1 => match deref ρ1 h with
  | some (.int j) => if -16777216 < j ∧ j < 16777216 then .ok (.tm (.li (rangeD 0 j.toNat))) ρ1 else .stuck
  | _ => .stuck
theorem rgV_rep {lo : Int} {n : Nat} : Reps K F ((List.range n).map fun i => V.int (lo + (i : Nat))) (rangeD lo n) := by
  unfold rangeD
  generalize List.range n = l
  induction l with
  | nil => exact .nil
  | cons a l ih => exact .cons (.int _) ih
theorem snd_lrg1 (h : SndE P m W te f) : SndE P m W (tLstRg (tRg1 te)) (eLRg1 f) := fun B F0 F H σ ob ρ Q w q => by
  refine h.frz B F0 F H σ ob ρ _ w (Post.of_bind q ?_)
  rintro k ρ1 B1 F1 H1 ob1 x w1 s1 i1 ⟨rfl, r1⟩ q
  cases e1 : deref ρ1 k with
  | none => rw [e1] at q; exact q.elim
  | some d =>
    rw [e1] at q
    cases d with
    | int j =>
      dsimp only at q
      split at q
      · rename_i hj
        have b := w1.deref r1 e1
        cases b.int
        refine ⟨j, rfl, ⟨by omega, by omega, by omega, by omega, by omega⟩, fun a ha => ?_⟩
        have fa := w1.fh.free ha
        have ba := w1.bh.free ha
        refine q _ F1 _ ob1 _ (w1.tmp ha) s1 i1 ⟨a, _, rfl, rfl, ba, fa, ⟨_, rfl, ?_, ?_⟩⟩
        · rw [rgV_length, sizeLine_eq]; omega
        · show Reps P.K F1 ((List.range (j - 0).toNat).map fun i => V.int (0 + (i : Nat))) (rangeD 0 j.toNat)
          rw [Int.sub_zero]
          exact rgV_rep
      · exact q.elim
    | _ => exact q.elim
/-! insert -/
def muInsert (o : Own) (ds : List D) : Option (D × Own) := match o, ds with
  | .li l, [.int i, d] => if 0 ≤ i ∧ i < 16777216 ∧ l.length < 16777216 then some (.non, .li (l.take i.toNat ++ [d] ++ l.drop i.toNat)) else none
  | _, _ => none
theorem ms_insert : MutS K (fun x vs H Q => ∃ (l : Addr) (xs : List V) (i : Int) (y : V), x = .ref l ∧ vs = [.int i, y] ∧ H l = some (.lst xs) ∧ xs.length < sizeLine ∧ 0 ≤ i ∧ i < 2 ^ 63 ∧
    Q .non (upd H l (.lst (xs.take i.toNat ++ [y] ++ xs.drop i.toNat)))) muInsert := fun F H a ho o vs ds d o' Q s h1 h2 h3 rs e q => by
  unfold muInsert at e
  split at e
  · rename_i l i d0
    split at e
    · rename_i hi
      cases e
      obtain ⟨us, rfl, h4, h5⟩ := h3
      cases rs with
      | cons r1 r2 =>
        cases r2 with
        | cons r2 r3 =>
          cases r3
          cases r1
          have hl := h5.length
          refine ⟨a, us, i, _, rfl, rfl, h1, by rw [sizeLine_eq]; omega, hi.1, by omega, q _ .non ⟨_, rfl, ?_, ((h5.take _).append (.cons r2 .nil)).append (h5.drop _)⟩ .non⟩
          rw [sizeLine_eq]
          simp only [List.length_append, List.length_take, List.length_drop, List.length_cons, List.length_nil]
          omega
    · cases e
  · cases e
end
end Pv

set_option Elab.async false
set_option linter.all false
set_option maxRecDepth 100000
namespace Pv
open PySem PySem.Spec PyProof.Rows L2
/-! dict(..) of a list of pairs -/
section
variable {P : Pr} {m : Bool} {W : WX} {te ta tb tc to : TE} {f g e : Envi → R Hd} {n : Nat} {fa : Envi → R (List Hd)} {tr : TA} {B F0 F H : Hp} {σ : L2.St} {ob : Ob} {ρ : Envi} {K : PySem.W.Frag}
def pairsK : List D → Option (List (Key × D))
  | [] => some []
  | .tup [k, v] :: r => match keyOf k, pairsK r with
    | some k', some r' => some ((k', v) :: r')
    | _, _ => none
  | _ :: _ => none
def pairsTd : List D → Option (List (List Key × D))
  | [] => some []
  | .tup [.tup ks, v] :: r => match keysOf ks, pairsTd r with
    | some k', some r' => some ((k', v) :: r')
    | _, _ => none
  | _ :: _ => none
def mergeA {κ α : Type} [DecidableEq κ] (kvs more : List (κ × α)) : List (κ × α) := more.foldl (fun acc kv => putA acc kv.1 kv.2) kvs
theorem PR.append {κ : Type} {x x' : List (κ × V)} {y y' : List (κ × Pv.D)} (h : PR K F x y) (h' : PR K F x' y') : PR K F (x ++ x') (y ++ y') := by
  unfold PR at h h' ⊢
  induction h with
  | nil => exact h'
  | cons a b ih => exact .cons a ih
theorem PR.any {κ : Type} [DecidableEq κ] {k : κ} {x : List (κ × V)} {y : List (κ × Pv.D)} (h : PR K F x y) : (x.any fun kv => decide (kv.1 = k)) = (y.any fun kv => decide (kv.1 = k)) := by
  unfold PR at h
  induction h with
  | nil => rfl
  | cons a b ih => rw [List.any_cons, List.any_cons, ih, a.1]
theorem PR.mapPut {κ : Type} [DecidableEq κ] {k : κ} {v : V} {d : Pv.D} {x : List (κ × V)} {y : List (κ × Pv.D)} (h : PR K F x y) (r : Rep K F v d) : PR K F (x.map fun kv => if kv.1 = k then (kv.1, v) else kv) (y.map fun kv => if kv.1 = k then (kv.1, d) else kv) := by
  unfold PR at h ⊢
  induction h with
  | nil => exact .nil
  | @cons p q _ _ a b ih =>
    rw [List.map_cons, List.map_cons]
    refine .cons ?_ ih
    have ea := a.1
    by_cases hk : q.1 = k
    · rw [if_pos hk, if_pos (ea.trans hk)]; exact ⟨ea, r⟩
    · rw [if_neg hk, if_neg (fun z => hk (ea.symm.trans z))]; exact a
theorem PR.put {κ : Type} [DecidableEq κ] {k : κ} {v : V} {d : Pv.D} {x : List (κ × V)} {y : List (κ × Pv.D)} (h : PR K F x y) (r : Rep K F v d) : PR K F (putK x k v) (putA y k d) := by
  unfold putK putA
  rw [h.any]
  split
  · exact h.mapPut r
  · exact h.append (.cons ⟨rfl, r⟩ .nil)
theorem PR.mergeKV {x : List (Key × V)} {y : List (Key × Pv.D)} : ∀ {a : List (Key × V)} {b : List (Key × Pv.D)}, PR K F a b → PR K F x y → PR K F (mergeK a x) (mergeA b y) := fun {a b} h h' => by
  unfold PR at h'
  induction h' generalizing a b with
  | nil => exact h
  | @cons p q ps qs r _ ih =>
    have := h.put (k := p.1) r.2
    unfold mergeK mergeA
    rw [List.foldl_cons, List.foldl_cons, ← r.1]
    exact ih this
theorem PR.mergeTV {x : List (List Key × V)} {y : List (List Key × Pv.D)} : ∀ {a : List (List Key × V)} {b : List (List Key × Pv.D)}, PR K F a b → PR K F x y → PR K F (mergeT a x) (mergeA b y) := fun {a b} h h' => by
  unfold PR at h'
  induction h' generalizing a b with
  | nil => exact h
  | @cons p q ps qs r _ ih =>
    have := h.put (k := p.1) r.2
    unfold mergeT mergeA
    rw [List.foldl_cons, List.foldl_cons, ← r.1]
    exact ih this
theorem PR.len {κ : Type} {x : List (κ × V)} {y : List (κ × Pv.D)} (h : PR K F x y) : x.length = y.length := by
  unfold PR at h
  induction h with
  | nil => rfl
  | cons a b ih => exact congrArg (· + 1) ih
theorem pairsK_ok {F' : Hp} (s : Same F F') : ∀ {vs : List V} {ds : List Pv.D} {l : List (Key × Pv.D)}, Reps K F vs ds → pairsK ds = some l → ∃ (ps : List Addr) (kvs : List (Key × V)), vs = ps.map V.ref ∧ Paired (fun p kv => SqT K F' p [kV kv.1, kv.2]) ps kvs ∧ PR K F kvs l
  | _, _, _, .nil, e => by
    cases e
    exact ⟨[], [], rfl, .nil, .nil⟩
  | v :: vs, d :: ds, l, .cons a b, e => by
    unfold pairsK at e
    split at e
    · rename_i h; cases h
    · rename_i k x r h
      cases h
      cases e1 : keyOf k with
      | none => rw [e1] at e; cases e
      | some k' =>
        cases e2 : pairsK ds with
        | none => rw [e1, e2] at e; cases e
        | some r' =>
          rw [e1, e2] at e
          cases e
          obtain ⟨ps, kvs, rfl, h1, h2⟩ := pairsK_ok s b e2
          cases a with
          | @tup p us _ g1 g2 g3 =>
            cases g3 with
            | @cons u1 _ _ _ r1 g4 =>
              cases g4 with
              | @cons u2 _ _ _ r2 g5 =>
                cases g5
                have := keyOf_rep r1 e1
                subst this
                exact ⟨p :: ps, (k', u2) :: kvs, rfl, .cons (.inl (.inl (s _ _ g1))) h1, .cons ⟨rfl, r2⟩ h2⟩
    · cases e
theorem pairsT_ok {F' : Hp} (s : Same F F') : ∀ {vs : List V} {ds : List Pv.D} {l : List (List Key × Pv.D)}, Reps K F vs ds → pairsTd ds = some l →
    ∃ (ps : List Addr) (kvs : List (List Key × Addr × V)), vs = ps.map V.ref ∧ Paired (fun p kv => SqT K F' p [.ref kv.2.1, kv.2.2] ∧ F' kv.2.1 = some (.tup (kv.1.map kV))) ps kvs ∧ PR K F (kvs.map fun x => (x.1, x.2.2)) l
  | _, _, _, .nil, e => by
    cases e
    exact ⟨[], [], rfl, .nil, .nil⟩
  | v :: vs, d :: ds, l, .cons a b, e => by
    unfold pairsTd at e
    split at e
    · rename_i h; cases h
    · rename_i k x r h
      cases h
      cases e1 : keysOf k with
      | none => rw [e1] at e; cases e
      | some k' =>
        cases e2 : pairsTd ds with
        | none => rw [e1, e2] at e; cases e
        | some r' =>
          rw [e1, e2] at e
          cases e
          obtain ⟨ps, kvs, rfl, h1, h2⟩ := pairsT_ok s b e2
          cases a with
          | @tup p us _ g1 g2 g3 =>
            cases g3 with
            | @cons u1 _ _ _ r1 g4 =>
              cases g4 with
              | @cons u2 _ _ _ r2 g5 =>
                cases g5
                obtain ⟨b, rfl, hb⟩ := keyTup r1 e1
                exact ⟨p :: ps, (k', b, u2) :: kvs, rfl, .cons ⟨.inl (.inl (s _ _ g1)), s _ _ hb⟩ h1, .cons ⟨rfl, r2⟩ h2⟩
    · cases e
theorem putA_len {κ α : Type} [DecidableEq κ] (kvs : List (κ × α)) (k : κ) (v : α) : (putA kvs k v).length ≤ kvs.length + 1 := by
  unfold putA
  split
  · rw [List.length_map]; omega
  · rw [List.length_append]; simp
theorem mergeA_len {κ α : Type} [DecidableEq κ] : ∀ (more kvs : List (κ × α)), (mergeA kvs more).length ≤ kvs.length + more.length
  | [], kvs => by show kvs.length ≤ kvs.length + 0; omega
  | p :: r, kvs => by
    have h1 := mergeA_len r (putA kvs p.1 p.2)
    have h2 := putA_len kvs p.1 p.2
    show (mergeA (putA kvs p.1 p.2) r).length ≤ _
    rw [List.length_cons]; omega
theorem pairsK_len : ∀ {ds : List Pv.D} {l : List (Key × Pv.D)}, pairsK ds = some l → l.length = ds.length
  | [], _, e => by cases e; rfl
  | d :: ds, l, e => by
    unfold pairsK at e
    split at e
    · rename_i h; cases h
    · rename_i k x r h
      cases h
      cases e1 : keyOf k with
      | none => rw [e1] at e; cases e
      | some k' =>
        cases e2 : pairsK ds with
        | none => rw [e1, e2] at e; cases e
        | some r' =>
          rw [e1, e2] at e
          cases e
          rw [List.length_cons, List.length_cons, pairsK_len e2]
    · cases e
def fDictK (ds : List D) : Rf := match ds with
  | [d] => match lstOf d with
    | some l => match pairsK l with
      | some kvs => .ow (.di (mergeA [] kvs))
      | none => .stuck
    | none => .stuck
  | _ => .stuck
def fDictT (ds : List D) : Rf := match ds with
  | [d] => match lstOf d with
    | some l => match pairsTd l with
      | some kvs => .ow (.ti (mergeA [] kvs))
      | none => .stuck
    | none => .stuck
  | _ => .stuck
theorem cs_dictK : CallS K (fun xs H Q => ∃ (a : Addr) (ps : List Addr) (kvs : List (Key × V)), xs = [.ref a] ∧ SqL K H a (ps.map V.ref) ∧ Paired (fun p kv => SqT K H p [kV kv.1, kv.2]) ps kvs ∧
    ∀ p, H p = none → Q (.ref p) (upd H p (.dK (mergeK [] kvs)))) fDictK := fun F H xs ds Q s bs q => by
  unfold fDictK at q
  split at q
  · rename_i d
    obtain ⟨v, rfl, b⟩ := breps_one bs
    cases e : lstOf d with
    | none => rw [e] at q; exact q.elim
    | some l =>
      rw [e] at q
      dsimp only at q
      cases e2 : pairsK l with
      | none => rw [e2] at q; exact q.elim
      | some kvs =>
        rw [e2] at q
        obtain ⟨a, vs, rfl, h1, h2, h3⟩ := b.list s e
        obtain ⟨ps, kvs', rfl, g1, g2⟩ := pairsK_ok s h3 e2
        refine ⟨a, ps, kvs', rfl, h1, g1, fun p hp => q F H p _ (.refl _ _) hp ⟨_, rfl, ?_, PR.mergeKV .nil g2⟩⟩
        have l1 := (PR.mergeKV (K := K) (F := F) (a := []) (b := []) .nil g2).len
        have l2 := mergeA_len kvs ([] : List (Key × Pv.D))
        have l3 := g2.len
        have l4 := pairsK_len e2
        have l5 := h3.length
        rw [l1]
        rw [List.length_nil] at l2
        omega
  · exact False.elim q
theorem cs_dictT : CallS K (rDictT K) fDictT := fun F H xs ds Q s bs q => by
  unfold fDictT at q
  split at q
  · rename_i d
    obtain ⟨v, rfl, b⟩ := breps_one bs
    cases e : lstOf d with
    | none => rw [e] at q; exact q.elim
    | some l =>
      rw [e] at q
      dsimp only at q
      cases e2 : pairsTd l with
      | none => rw [e2] at q; exact q.elim
      | some kvs =>
        rw [e2] at q
        obtain ⟨a, vs, rfl, h1, h2, h3⟩ := b.list s e
        obtain ⟨ps, kvs', rfl, g1, g2⟩ := pairsT_ok s h3 e2
        refine ⟨a, ps, kvs', rfl, h1, g1, fun p hp => q F H p _ (.refl _ _) hp ⟨_, rfl, ?_, PR.mergeTV .nil g2⟩⟩
        have l0 : ∀ {ps : List Addr} {kvs : List (List Key × Addr × V)}, Paired (fun p kv => SqT K H p [.ref kv.2.1, kv.2.2] ∧ H kv.2.1 = some (.tup (kv.1.map kV))) ps kvs → kvs.length = ps.length := fun h => by
          induction h with
          | nil => rfl
          | cons a b ih => exact congrArg (· + 1) ih
        have l1 := length_mergeT (kvs'.map fun x => (x.1, x.2.2)) []
        have l2 := l0 g1
        rw [List.length_map] at l1 h2
        rw [List.length_nil] at l1
        omega
  · exact False.elim q
end
end Pv

set_option Elab.async false
set_option linter.all false
set_option maxRecDepth 100000
namespace Pv
open PySem PySem.Spec PyProof.Rows L2
section
variable {P : Pr} {m : Bool} {W : WX} {te ta tb tc to : TE} {f g e : Envi → R Hd} {n : Nat} {fa : Envi → R (List Hd)} {tr : TA} {B F0 F H : Hp} {σ : L2.St} {ob : Ob} {ρ : Envi} {K : PySem.W.Frag}
/-! d.get(k, x) -/
def isDictD : D → Bool
  | .dk _ _ => true
  | .dt _ _ => true
  | _ => false
def eDGet2 (f g e : Envi → R Hd) : Envi → R Hd := fun ρ => (eMat f ρ).bind fun h ρ1 => match h with
  | .dat a => if isDictD a = true then (g ρ1).frz.bind fun k ρ2 => (eMat e ρ2).bind fun x ρ3 => match deref ρ3 k, x with
    | some b, .dat z => match dLook a b with
      | some (some d) => .ok (.dat d) ρ3
      | some none => .ok (.dat z) ρ3
      | none => .stuck
    | _, _ => .stuck
    else .stuck
  | _ => .stuck
theorem isD_of {v : V} {d : D} (s : Same F H) (r : Rep K F v d) (e : isDictD d = true) : ∃ a, v = .ref a ∧ IsD H a := by
  cases r with
  | dk h1 h2 h3 => exact ⟨_, rfl, .inl ⟨_, same_rd s h1⟩⟩
  | dt h1 h2 h3 => exact ⟨_, rfl, .inr ⟨_, same_rd s h1⟩⟩
  | _ => cases e
theorem snd_dget2 (ha : SndE P m W ta f) (hb : SndE P false W tb g) (hc : SndE P false W tc e) : SndE P m W (tDGet2 ta tb tc) (eDGet2 f g e) := by
  intro B F0 F H σ ob ρ Q w q
  refine snd_mat ha B F0 F H σ ob ρ _ w (Post.of_bind q ?_)
  rintro h ρ1 B1 F1 H1 ob1 x w1 s1 i1 r1 q
  cases h with
  | dat a =>
    obtain ⟨rfl, r1⟩ := r1
    try dsimp only at q
    split at q
    · rename_i hd
      have r1 : Rep P.K F1 x a := r1
      obtain ⟨p, rfl, hp⟩ := isD_of w1.fh r1 hd
      refine ⟨p, rfl, hp, ?_⟩
      refine hb.frz _ F0 F1 H1 σ ob1 ρ1 _ w1 (Post.of_bind (Post.up (Post.shift s1 i1 q)) ?_)
      rintro k ρ2 B2 F2 H2 ob2 y w2 s2 i2 ⟨rfl, r2⟩ q
      refine snd_mat hc _ F0 F2 H2 σ ob2 ρ2 _ w2 (Post.of_bind (Post.shift s2 i2 q) ?_)
      rintro z ρ3 B3 F3 H3 ob3 u w3 s3 i3 r3 q
      cases e1 : deref ρ3 k with
      | none => rw [e1] at q; exact q.elim
      | some b =>
        rw [e1] at q
        cases z with
        | dat z =>
          obtain ⟨rfl, r3⟩ := r3
          try dsimp only at q
          have rk := w3.deref (r2.mono s3 (i3 rfl)) e1
          cases e2 : dLook a b with
          | none => rw [e2] at q; exact q.elim
          | some rr =>
            rw [e2] at q
            obtain ⟨p', o, e3, h1, h2⟩ := dLook_ok w3.fh (.inl ((r1.mono s2).mono s3)) rk e2
            cases e3
            refine ⟨o, h1, ?_⟩
            cases rr with
            | none =>
              cases o with
              | some _ => exact h2.elim
              | none => exact q _ F3 H3 ob3 u w3 s3 i3 ⟨rfl, r3⟩
            | some d =>
              cases o with
              | none => exact h2.elim
              | some v => exact q _ F3 H3 ob3 v w3 s3 i3 ⟨rfl, h2⟩
        | _ => exact q.elim
    · exact q.elim
  | _ => exact q.elim
/-! d[k] = x, at a place of ours -/
def dPut (o : Own) (b d : D) : Option Own := match o with
  | .di kvs => match keyOf b with
    | some k => if kvs.length < big then some (.di (putA kvs k d)) else none
    | none => none
  | .ti kvs => match b with
    | .tup ds => match keysOf ds with
      | some k => if kvs.length < big then some (.ti (putA kvs k d)) else none
      | none => none
    | _ => none
  | _ => none
def sDPutP (k : Nat) (ok : Envi → Bool) (g e : Envi → R Hd) : Sem := fun ρ => (eMat e ρ).toFl fun x ρ1 => match x with
  | .dat d => if ok ρ1 = true then (match ρ1[k]? with
    | some (.ow _) => (eMat g ρ1).toFl fun y ρ2 => match y, ρ2[k]? with
      | .dat b, some (.ow o) => match dPut o b d with
        | some o' => .nx (ρ2.set k (.ow o'))
        | none => .stuck
      | _, _ => .stuck
    | _ => .stuck) else .stuck
  | _ => .stuck
theorem dPut_ok {a : Addr} {ho : HO} {o o' : Own} {y v : V} {b d : D} (s : Same F H) (h1 : H a = some ho) (h2 : OwnR K F ho o) (ry : Rep K F y b) (rv : Rep K F v d) (e : dPut o b d = some o') : ∃ ho', DPut H a y v (upd H a ho') ∧ OwnR K F ho' o' := by
  unfold dPut at e
  split at e
  · rename_i kvs
    obtain ⟨kv, rfl, h3, h4⟩ := h2
    cases e1 : keyOf b with
    | none => rw [e1] at e; cases e
    | some k =>
      rw [e1] at e
      dsimp only at e
      split at e
      · rename_i hl
        cases e
        have := keyOf_rep ry e1
        subst this
        have l := h4.len
        have l2 := putA_len kvs k d
        have l3 := (h4.put (k := k) rv).len
        exact ⟨.dK (putK kv k v), .k h1 (by rw [← big_line, l]; exact hl), ⟨_, rfl, by rw [← big_line, l3]; omega, h4.put rv⟩⟩
      · cases e
  · rename_i kvs
    obtain ⟨kv, rfl, h3, h4⟩ := h2
    split at e
    · rename_i ds
      cases e1 : keysOf ds with
      | none => rw [e1] at e; cases e
      | some k =>
        rw [e1] at e
        dsimp only at e
        split at e
        · rename_i hl
          cases e
          obtain ⟨c, rfl, hc⟩ := keyTup ry e1
          have l := h4.len
          have l2 := putA_len kvs k d
          have l3 := (h4.put (k := k) rv).len
          exact ⟨.dT (putK kv k v), .t h1 (s _ _ hc) (by rw [← big_line, l]; exact hl), ⟨_, rfl, by rw [← big_line, l3]; omega, h4.put rv⟩⟩
        · cases e
    · cases e
  · cases e
theorem snd_dput {k : Nat} {ok : Envi → Bool} (hp : SndP P to k ok) (hg : SndE P m W tb g) (he : SndE P true W te e) (hk : m = false ∨ k < P.n) : SndS P W (sDPut to tb te) (sDPutP k ok g e) := fun B F0 F H σ ob ρ D w q => by
  refine snd_mat he B F0 F H σ ob ρ _ w (Post.of_toFl (H := H) (ρ := ρ) q ?_)
  rintro x ρ1 B1 F1 H1 ob1 v w1 s1 i1 r1 q
  cases x with
  | dat d =>
    obtain ⟨rfl, r1⟩ := r1
    try dsimp only at q
    split at q
    · rename_i hok
      cases e0 : ρ1[k]? with
      | none => rw [e0] at q; exact q.elim
      | some sl =>
        rw [e0] at q
        cases sl with
        | ow o0 =>
          try dsimp only at q
          obtain ⟨a, ho, h1, h2, h3, h4, h5, h6, h7⟩ := w1.owned e0
          refine hp _ F0 F1 H1 σ ob1 ρ1 _ _ w1 hok h1 ?_
          refine snd_mat hg _ F0 F1 H1 σ ob1 ρ1 _ w1 (Post.of_toFl (H := H) (ρ := ρ) (q.shift s1) ?_)
          rintro y ρ2 B2 F2 H2 ob2 u w2 s2 i2 r2 q
          cases y with
          | dat b =>
            obtain ⟨rfl, r2⟩ := r2
            cases e1 : ρ2[k]? with
            | none => rw [e1] at q; exact q.elim
            | some sl =>
              rw [e1] at q
              cases sl with
              | ow o =>
                try dsimp only at q
                cases e2 : dPut o b d with
                | none => rw [e2] at q; exact q.elim
                | some o' =>
                  rw [e2] at q
                  obtain ⟨a', ho', g1, g2, g3, g4, g5, g6, g7⟩ := w2.owned e1
                  have := tau_keep (F2 := F1) (H2 := H1) (ρ2 := ρ1) w1 hk i2 h1
                  rw [g1] at this
                  cases this
                  obtain ⟨ho2, z1, z2⟩ := dPut_ok w2.fh g2 g3 r2 (Rep.mono s2 r1) e2
                  exact ⟨_, _, rfl, z1, q F2 _ σ ob2 (g6 ho2 o' z2) s2⟩
              | _ => exact q.elim
          | _ => exact q.elim
        | _ => exact q.elim
    · exact q.elim
  | _ => exact q.elim
/-! xs[i] = y, xs a local list of ours -/
def sSetL (k : Nat) (g e : Envi → R Hd) : Sem := fun ρ => (eMat e ρ).toFl fun x ρ1 => match x with
  | .dat d => match ρ1[k]? with
    | some (.ow _) => (eMat g ρ1).toFl fun y ρ2 => match y, ρ2[k]? with
      | .dat (.int i), some (.ow (.li l)) => match ixN l.length i with
        | some j => .nx (ρ2.set k (.ow (.li (l.set j d))))
        | none => .stuck
      | _, _ => .stuck
    | _ => .stuck
  | _ => .stuck
theorem snd_setL {k : Nat} (hk : k < P.n) (hg : SndE P m W tb g) (he : SndE P true W te e) : SndS P W (tAsg te (gSub (tVar k) tb rSetL)) (sSetL k g e) := fun B F0 F H σ ob ρ D w q => by
  refine snd_mat he B F0 F H σ ob ρ _ w (Post.of_toFl (H := H) (ρ := ρ) q ?_)
  rintro x ρ1 B1 F1 H1 ob1 v w1 s1 i1 r1 q
  cases x with
  | dat d =>
    obtain ⟨rfl, r1⟩ := r1
    try dsimp only at q
    cases e0 : ρ1[k]? with
    | none => rw [e0] at q; exact q.elim
    | some sl =>
      rw [e0] at q
      cases sl with
      | ow o0 =>
        try dsimp only at q
        obtain ⟨a, ho, h1, h2, h3, h4, h5, h6, h7⟩ := w1.owned e0
        show tVar k σ H1 _
        have h1' := h1
        rw [tau_lt (by rw [w1.n]; exact hk)] at h1'
        refine ⟨_, h1', ?_⟩
        refine snd_mat hg _ F0 F1 H1 σ ob1 ρ1 _ w1 (Post.of_toFl (H := H) (ρ := ρ) (q.shift s1) ?_)
        rintro y ρ2 B2 F2 H2 ob2 u w2 s2 i2 r2 q
        cases y with
        | dat b =>
          obtain ⟨rfl, r2⟩ := r2
          cases b with
          | int i =>
            cases r2
            cases e1 : ρ2[k]? with
            | none => rw [e1] at q; exact q.elim
            | some sl =>
              rw [e1] at q
              cases sl with
              | ow o =>
                cases o with
                | li l =>
                  try dsimp only at q
                  cases e2 : ixN l.length i with
                  | none => rw [e2] at q; exact q.elim
                  | some j =>
                    rw [e2] at q
                    obtain ⟨a', ho', g1, g2, g3, g4, g5, g6, g7⟩ := w2.owned e1
                    have := tau_keep (m := m) (F2 := F1) (H2 := H1) (ρ2 := ρ1) w1 (.inr hk) i2 h1
                    rw [g1] at this
                    cases this
                    obtain ⟨us, rfl, z1, z2⟩ := g3
                    have lz := z2.length
                    exact ⟨_, us, i, j, rfl, rfl, g2, by rw [lz]; exact e2, q F2 _ σ ob2 (g6 (.lst (us.set j v)) (.li (l.set j d)) ⟨_, rfl, by rw [List.length_set]; exact z1, z2.set (Rep.mono s2 r1) j⟩) s2⟩
                | _ => exact q.elim
              | _ => exact q.elim
          | _ => exact q.elim
        | _ => exact q.elim
      | _ => exact q.elim
  | _ => exact q.elim
/-! sorted(..) of data -/
def alikeB (ps : List PyData) : Bool := ps.all fun x => ps.all fun y => PySem.W.alike x y
def isTupP : PyData → Bool
  | .tuple (_ :: _) => true
  | _ => false
def plainP : PyData → Bool
  | .none => false
  | .tuple _ => false
  | _ => true
def sortableB (ps : List PyData) : Bool := ps.all isTupP || ps.all plainP
def depthB (ps : List PyData) : Bool := ps.all fun p => decide (p.depth ≤ 60)
def sortD (ds : List D) (ps : List PyData) : List D := ((ds.zip ps).mergeSort (PySem.W.dataLe false (·.2))).map (·.1)
def fSorted (ds : List D) : Rf := match ds with
  | [d] => match lstOf d with
    | some l => match toPys l with
      | some ps => if (alikeB ps && sortableB ps && depthB ps) = true then .ow (.li (sortD l ps)) else .stuck
      | none => .stuck
    | none => .stuck
  | _ => .stuck
theorem alikeB_ok {ps : List PyData} (h : alikeB ps = true) : PySem.W.AllAlike ps := fun d hd d' hd' => by
  unfold alikeB at h
  rw [List.all_eq_true] at h
  have := h d hd
  rw [List.all_eq_true] at this
  exact this d' hd'
theorem sortableB_ok {ps : List PyData} (h : sortableB ps = true) : PySem.W.Sortable ps := by
  unfold sortableB at h
  rw [Bool.or_eq_true, List.all_eq_true, List.all_eq_true] at h
  rcases h with h | h
  · refine .inl fun d hd => ?_
    have := h d hd
    unfold isTupP at this
    split at this
    · exact ⟨_, _, rfl⟩
    · cases this
  · refine .inr fun d hd => ⟨fun z => ?_, fun xs z => ?_⟩
    · have := h d hd; rw [z] at this; cases this
    · have := h d hd; rw [z] at this; cases this
theorem reps_zip {vs : List V} {ds : List Pv.D} (r : Reps K F vs ds) : ∀ p ∈ vs.zip ds, Rep K F p.1 p.2 := by
  intro p hp
  obtain ⟨i, hi⟩ := List.mem_iff_getElem?.mp hp
  rw [List.getElem?_zip_eq_some] at hi
  obtain ⟨v, h1, h2⟩ := r.get hi.2
  rw [hi.1] at h1
  cases h1
  exact h2
theorem Reps.ofPairs {l : List (V × Pv.D)} (h : ∀ p ∈ l, Rep K F p.1 p.2) : Reps K F (l.map (·.1)) (l.map (·.2)) := by
  induction l with
  | nil => exact .nil
  | cons a l ih => exact .cons (h a List.mem_cons_self) (ih fun p hp => h p (List.mem_cons_of_mem _ hp))
theorem zip3_map {α β γ : Type} : ∀ {a : List α} {b : List β} {c : List γ}, a.length = b.length → b.length = c.length → ((a.zip b).zip c).map (fun x => (x.1.1, x.2)) = a.zip c ∧ ((a.zip b).zip c).map (fun x => (x.1.2, x.2)) = b.zip c
  | [], [], [], _, _ => ⟨rfl, rfl⟩
  | a :: as, b :: bs, c :: cs, h, h' => by
    obtain ⟨i1, i2⟩ := zip3_map (a := as) (b := bs) (c := cs) (by simpa using h) (by simpa using h')
    exact ⟨by rw [List.zip_cons_cons, List.zip_cons_cons, List.map_cons, i1]; rfl, by rw [List.zip_cons_cons, List.zip_cons_cons, List.map_cons, i2]; rfl⟩
theorem sortV_rep {vs : List V} {ds : List Pv.D} {ps : List PyData} (r : Reps K F vs ds) (hl : vs.length = ps.length) : Reps K F (sortV vs ps) (sortD ds ps) := by
  have hd := r.length
  have hz := zip3_map (a := vs) (b := ds) (c := ps) hd (by omega)
  let L := (vs.zip ds).zip ps
  let le : (V × Pv.D) × PyData → (V × Pv.D) × PyData → Bool := PySem.W.dataLe false (·.2)
  have m1 : (vs.zip ps).mergeSort (PySem.W.dataLe false (·.2)) = (L.mergeSort le).map (fun x => (x.1.1, x.2)) := by
    rw [← hz.1]
    exact (List.map_mergeSort (f := fun x : (V × Pv.D) × PyData => (x.1.1, x.2)) (fun a _ b _ => rfl)).symm
  have m2 : (ds.zip ps).mergeSort (PySem.W.dataLe false (·.2)) = (L.mergeSort le).map (fun x => (x.1.2, x.2)) := by
    rw [← hz.2]
    exact (List.map_mergeSort (f := fun x : (V × Pv.D) × PyData => (x.1.2, x.2)) (fun a _ b _ => rfl)).symm
  unfold sortV sortD
  rw [m1, m2, List.map_map, List.map_map]
  have : ∀ p ∈ (L.mergeSort le).map (·.1), Rep K F p.1 p.2 := fun p hp => by
    obtain ⟨x, hx, rfl⟩ := List.mem_map.mp hp
    rw [List.mem_mergeSort] at hx
    exact reps_zip r _ (List.of_mem_zip hx).1
  have := Reps.ofPairs this
  rw [List.map_map, List.map_map] at this
  exact this
theorem cs_sorted : CallS K (rSortD K) fSorted := fun F H xs ds Q s bs q => by
  unfold fSorted at q
  split at q
  · rename_i d
    obtain ⟨v, rfl, b⟩ := breps_one bs
    cases e : lstOf d with
    | none => rw [e] at q; exact q.elim
    | some l =>
      rw [e] at q
      try dsimp only at q
      cases e2 : toPys l with
      | none => rw [e2] at q; exact q.elim
      | some ps =>
        rw [e2] at q
        try dsimp only at q
        split at q
        · rename_i hc
          rw [Bool.and_eq_true, Bool.and_eq_true] at hc
          obtain ⟨a, vs, rfl, h1, h2, h3⟩ := b.list s e
          have hdp := (h3.mono s).dp e2
          have hl := dpAll_len hdp
          refine ⟨a, vs, ps, rfl, h1, hdp, alikeB_ok hc.1.1, sortableB_ok hc.1.2, fun p hp => ?_, fun p hp => q F H p _ (.refl _ _) hp ⟨_, rfl, ?_, sortV_rep h3 hl⟩⟩
          · have := hc.2
            unfold depthB at this
            rw [List.all_eq_true] at this
            simpa using this p hp
          · unfold sortV
            rw [List.length_map, List.length_mergeSort, List.length_zip, ← hl, Nat.min_self]
            exact h2
        · exact q.elim
  · exact False.elim q
end
end Pv

set_option Elab.async false
set_option linter.all false
set_option maxRecDepth 100000
namespace Pv
open PySem PySem.Spec PyProof.Rows L2
/-! the law's own def; what the top has written -/
theorem fin_law {K : PySem.W.Frag} {ec : Exc → Value} {N : List Str} {ts : TS} {g : Sem} {vs : List V} {H F : Hp} {ds : List D} {Q : VK} (hs : SndS ⟨K, ec, N.length, [], 0, 0⟩ W0 ts g) (hn : vs.length ≤ N.length) (s : Same F H) (r : Reps K F vs ds)
    (h : toRf (g (initE N.length ds)) = .fz (.bl true)) (q : ∀ H', Q (.bl true) H') : ts { nx := fun _ H' => Q .non H', rt := Q } (L2.start N vs) H := by
  refine hs H F F H _ none _ _ (Wf.init hn s r) ?_
  cases eg : g (initE N.length ds) with
  | ret v ρ' =>
    rw [eg] at h
    cases v with
    | fz d =>
      cases h
      rintro B' F' H' σ' ob' u w s' ⟨rfl, r'⟩
      cases r'
      exact q H'
    | ow o => cases h
  | nx ρ' => rw [eg] at h; cases h
  | exc c ρ' => rw [eg] at h; cases h
  | bk ρ' => rw [eg] at h; cases h
  | ct ρ' => rw [eg] at h; cases h
  | stuck => rw [eg] at h; cases h
/-- a def that the top has written -/
structure Fn (K : PySem.W.Frag) (mg : Str → Option Value) (x : Str) (st : Stmt) (ps : List Str) where
  f : Addr
  fd : FuncData
  g : mg x = some (.ref f)
  k : PySem.W.keepIn K (.ref f) = true
  F : Fun K x x st f fd
  b : Binds K fd ps []
/-- an exception class of ours, without own __init__ -/
structure Xc (K : PySem.W.Frag) (mg : Str → Option Value) (x : Str) where
  C : Addr
  g : mg x = some (.ref C)
  k : PySem.W.keepIn K (.ref C) = true
  q : PySem.W.excIn K C [.type "ValueError", .type "Exception", .type "BaseException", .type "object"] "ValueError.__new__" = true
  e : PySem.W.subIn K (.ref C) (.type "BaseException") = some true
  t : PySem.W.typeIn K (.ref C) = some (.type "type")
theorem snd_tb {P : Pr} {m : Bool} {W : WX} {te : TE} {f : Envi → R Hd} (h : SndE P m W te f) : SndT P m W (tB te) (tsE f) := snd_ts h
/-- the reading of a def: what its body does -/
abbrev fsOf (n : Nat) (g : Sem) : List D → Rf := fun ds => toRf (g (initE n ds))
theorem fin_gen {K : PySem.W.Frag} {ec : Exc → Value} {N : List Str} {n : Nat} {ts : TS} {g : Sem} {vs : List V} {H : Hp} {Q : VK} {E : XK} (hs : SndS ⟨K, ec, N.length, [], 0, 0⟩ (fun cls d _ H => E cls d H) ts g) (hn : n ≤ N.length)
    (h : spF K ec n (fsOf N.length g) vs H Q E) : ts { nx := fun _ H' => Q .non H', rt := Q } (L2.start N vs) H := fin_of hs hn (fun _ _ _ => rfl) h
/-! while, by a number of turns at most -/
def sWhileN (N : Nat) (c : Envi → R Bool) (g : Sem) : Sem := runW c g N
theorem snd_whileN {P : Pr} {m : Bool} {W : WX} {tt : TT} {c : Envi → R Bool} {ts : TS} {g : Sem} (N : Nat) (hc : SndT P true W tt c) (hb : SndS P W ts g) : SndS P W (tWhile tt ts) (sWhileN N c g) := fun B F0 F H σ ob ρ D w q => by
  refine snd_while hc hb B F0 F H σ ob ρ D w ?_
  have hn : sWhileN N c g ρ ≠ .stuck := fun z => by rw [z] at q; exact q
  rw [sWhile_of (n := N) rfl hn]
  exact q

theorem units65 {k : Nat} {A : Around} (r : Room k A) : A.units + 65 < cLine := by have := r.un; omega
theorem units1 {k : Nat} {A : Around} (r : Room k A) : A.units + 1 < cLine := by have := r.un; omega
theorem nx_ofOpt {o : Option D} {e : Exc} : ofOpt o ≠ .exc e := by cases o <;> (intro z; cases z)
theorem nx_fIsi (ds : List D) (e : Exc) : fIsi ds ≠ .exc e := by
  unfold fIsi
  split
  · exact nx_ofOpt
  · intro z; cases z
theorem nx_fLen (ds : List D) (e : Exc) : fLen ds ≠ .exc e := by
  unfold fLen
  split
  · exact nx_ofOpt
  · intro z; cases z
theorem nx_fList (ds : List D) (e : Exc) : fList ds ≠ .exc e := by unfold fList; intro z; (repeat' split at z) <;> (first | exact ofOpt_exc _ _ z | cases z)
theorem nx_fTup (ds : List D) (e : Exc) : fTup ds ≠ .exc e := by unfold fTup; intro z; (repeat' split at z) <;> (first | exact ofOpt_exc _ _ z | cases z)
theorem nx_fTupP (ds : List D) (e : Exc) : fTupP ds ≠ .exc e := by unfold fTupP; intro z; (repeat' split at z) <;> (first | exact ofOpt_exc _ _ z | cases z)
theorem nx_fInt (ds : List D) (e : Exc) : fInt ds ≠ .exc e := by unfold fInt; intro z; (repeat' split at z) <;> (first | exact ofOpt_exc _ _ z | cases z)
theorem nx_fAbs (ds : List D) (e : Exc) : fAbs ds ≠ .exc e := by unfold fAbs; intro z; (repeat' split at z) <;> (first | exact ofOpt_exc _ _ z | cases z)
theorem nx_fMax2 (ds : List D) (e : Exc) : fMax2 ds ≠ .exc e := by unfold fMax2; intro z; (repeat' split at z) <;> (first | exact ofOpt_exc _ _ z | cases z)
theorem nx_fMin2 (ds : List D) (e : Exc) : fMin2 ds ≠ .exc e := by unfold fMin2; intro z; (repeat' split at z) <;> (first | exact ofOpt_exc _ _ z | cases z)
theorem nx_fStrI (ds : List D) (e : Exc) : fStrI ds ≠ .exc e := by unfold fStrI; intro z; (repeat' split at z) <;> (first | exact ofOpt_exc _ _ z | cases z)
theorem nx_fSum (ds : List D) (e : Exc) : fSum ds ≠ .exc e := by unfold fSum; intro z; (repeat' split at z) <;> (first | exact ofOpt_exc _ _ z | cases z)
theorem nx_fMin (ds : List D) (e : Exc) : fMin ds ≠ .exc e := by unfold fMin; intro z; (repeat' split at z) <;> (first | exact ofOpt_exc _ _ z | cases z)
theorem nx_fAll (ds : List D) (e : Exc) : fAll ds ≠ .exc e := by unfold fAll; intro z; (repeat' split at z) <;> (first | exact ofOpt_exc _ _ z | cases z)
theorem nx_fAny (ds : List D) (e : Exc) : fAny ds ≠ .exc e := by unfold fAny; intro z; (repeat' split at z) <;> (first | exact ofOpt_exc _ _ z | cases z)
theorem nx_fSorted (ds : List D) (e : Exc) : fSorted ds ≠ .exc e := by unfold fSorted; intro z; (repeat' split at z) <;> (first | exact ofOpt_exc _ _ z | cases z)
theorem nx_fDictK (ds : List D) (e : Exc) : fDictK ds ≠ .exc e := by unfold fDictK; intro z; (repeat' split at z) <;> (first | exact ofOpt_exc _ _ z | cases z)
theorem nx_fDictT (ds : List D) (e : Exc) : fDictT ds ≠ .exc e := by unfold fDictT; intro z; (repeat' split at z) <;> (first | exact ofOpt_exc _ _ z | cases z)
/-! a tuple of which all is known -/
def eTupF (g : Envi → R (List Hd)) : Envi → R Hd := fun ρ => (g ρ).bind fun hs ρ1 => match matAll ρ1 hs with
  | some (ds, ρ2) => .ok (.dat (.ktup ds)) ρ2
  | none => .stuck
theorem snd_tupF {P : Pr} {m : Bool} {W : WX} {n : Nat} {tr : TA} {fa : Envi → R (List Hd)} (h : SndA P m W n tr fa) (hn : n ≤ 1000 := by decide) : SndE P m W (tTupF tr) (eTupF fa) := fun B F0 F H σ ob ρ Q w q => by
  refine h B F0 F H σ ob ρ _ w (Post.of_bind (k := fun hs ρ1 => match matAll ρ1 hs with | some (ds, ρ2) => R.ok (Hd.dat (.ktup ds)) ρ2 | none => R.stuck) q ?_)
  rintro hs ρ2 B' F2 H2 ob2 ys w2 s2 i2 ⟨⟨rfl, r2⟩, hl⟩ q
  have hl' : ys.length ≤ sizeLine := by rw [hl]; exact small_line hn
  refine ⟨hl', fun p o hp ho => ?_⟩
  cases e : matAll ρ2 hs with
  | none => rw [e] at q; exact q.elim
  | some x =>
    obtain ⟨ds, ρ3⟩ := x
    rw [e] at q
    obtain ⟨F3, w3, s3, r3⟩ := w2.matAll r2 e
    have w4 := w3.grow (o := .frz o (.tup ys)) hp
    have s4 : Same F3 (upd F3 p (.frz o (.tup ys))) := same_new (w3.fh.free hp)
    exact q B' _ _ ob2 _ w4 ((s2.trans s3).trans s4) i2 ⟨rfl, .ktup (.inl ⟨o, upd_same, ho⟩) hl' (Reps.mono s4 r3)⟩
/-! the least of data -/
def rMinD (K : PySem.W.Frag) : List V → Hp → VK → Prop := fun xs H Q => ∃ (a : Addr) (vs : List V) (ps : List PyData), xs = [.ref a] ∧ SqL K H a vs ∧ DpAll K H vs ps ∧ PySem.W.AlikeAll ps ∧ PyData.depthAll ps ≤ 60 ∧ 0 < ps.length ∧
  ∀ v, vs[argBest (fun i j => PySem.W.dataLt (ps.getD i .none) (ps.getD j .none)) (ps.length - 1)]? = some v → Q v H
theorem vals_getV : ∀ {vs : List V} {us : List Value} {i : Nat} {u : Value}, Vals vs us → us[i]? = some u → ∃ x, vs[i]? = some x ∧ RelV x u
  | _, _, _, _, .nil, e => by simp at e
  | _, _, 0, _, .cons r _, e => by simp at e; subst e; exact ⟨_, rfl, r⟩
  | _, _, i + 1, x, .cons _ t, e => by
    obtain ⟨u, h1, h2⟩ := vals_getV (i := i) (u := x) t (by simpa using e)
    exact ⟨u, by simpa using h1, h2⟩
theorem cr_minD {X : Cx} (hc : X.calm = true) (hu : X.A.units + 64 < cLine) : CallR X (.builtin "min") (rMinD X.K) := by
  intro pins s σ H xs us Q I r h
  obtain ⟨a, vs, ps, rfl, hs, hd, hal, hdp, hn, q⟩ := h
  obtain ⟨its, rv, hl, hz⟩ := I.list hs
  rw [Vals.ref1 r]
  obtain ⟨as, hr⟩ := Dp.readsAll I _ _ _ hd rv
  have hsz : its.length = ps.length := by rw [← dpAll_len hd]; exact rv.length.symm
  refine PySem.call_min_walkH (PySem.W.iter_listW (A := X.A.in1) (I.ok.hd hc) hl.isList fun s₂ e W st hfp hw hk => ?_)
  refine ⟨_, _, _, _, _, _, _, s.heap, _, rfl, W, st, hfp, by simp; omega, hw, hk, PySem.W.cmpIn_lt (A := X.A.in1) (xs := ps) (by simpa using hr) hal (by show X.A.units + 1 + _ < _; omega), fun v s' hP m => ?_⟩
  obtain ⟨h', tk, rfl, hk'⟩ := PySem.W.moved_old e rfl m
  have hP : its.toArray[_]? = some v := hP
  rw [List.size_toArray, hsz] at hP
  have I' : Inv X pins σ H { s with heap := h', toks := tk } := I.kept hk'
  rw [List.getElem?_toArray] at hP
  obtain ⟨x, h1, h2⟩ := vals_getV rv hP
  exact ⟨x, H, I', h2, q x h1⟩
def noNone (ps : List PyData) : Bool := ps.all fun p => match p with
  | .none => false
  | _ => true
def minIx (ps : List PyData) : Nat := argBest (fun i j => PySem.W.dataLt (ps.getD i .none) (ps.getD j .none)) (ps.length - 1)
def minOk (ps : List PyData) : Bool := alikeB ps && noNone ps && decide (PyData.depthAll ps ≤ 60) && decide (0 < ps.length)
def fMinD (ds : List D) : Rf := match ds with
  | [d] => match lstOf d with
    | some l => match toPys l with
      | some ps => if minOk ps = true then ofOpt l[minIx ps]? else .stuck
      | none => .stuck
    | none => .stuck
  | _ => .stuck
theorem noNone_ok {ps : List PyData} (h : noNone ps = true) : ∀ x ∈ ps, x ≠ .none := fun x hx e => by
  unfold noNone at h
  rw [List.all_eq_true] at h
  have := h x hx
  rw [e] at this
  cases this
theorem cs_minD {K : PySem.W.Frag} : CallS K (rMinD K) fMinD := fun F H xs ds Q s bs q => by
  unfold fMinD at q
  split at q
  · rename_i d
    obtain ⟨v, rfl, b⟩ := breps_one bs
    cases e : lstOf d with
    | none => rw [e] at q; exact q.elim
    | some l =>
      rw [e] at q
      try dsimp only at q
      cases e2 : toPys l with
      | none => rw [e2] at q; exact q.elim
      | some ps =>
        rw [e2] at q
        try dsimp only at q
        split at q
        · rename_i hc
          unfold minOk at hc
          rw [Bool.and_eq_true, Bool.and_eq_true, Bool.and_eq_true] at hc
          obtain ⟨⟨⟨c1, c2⟩, c3⟩, c4⟩ := hc
          obtain ⟨a, vs, rfl, h1, h2, h3⟩ := b.list s e
          refine ⟨a, vs, ps, rfl, h1, (h3.mono s).dp e2, ⟨fun x hx y hy => alikeB_ok c1 x hx y hy, noNone_ok c2⟩, of_decide_eq_true c3, of_decide_eq_true c4, fun v hv => ?_⟩
          obtain ⟨d', g1, g2⟩ := h3.getV hv
          have g1 : l[minIx ps]? = some d' := g1
          rw [g1] at q
          exact q F H v (.refl _ _) g2
        · exact q.elim
  · exact False.elim q
theorem nx_fMinD (ds : List D) (e : Exc) : fMinD ds ≠ .exc e := by unfold fMinD; intro z; (repeat' split at z) <;> (first | exact ofOpt_exc _ _ z | cases z)
theorem bt_isinstance : bootBuiltins "isinstance" = some (.builtin "isinstance") := by decide +kernel
theorem bt_len : bootBuiltins "len" = some (.builtin "len") := by decide +kernel
theorem bt_all : bootBuiltins "all" = some (.builtin "all") := by decide +kernel
theorem bt_any : bootBuiltins "any" = some (.builtin "any") := by decide +kernel
theorem bt_sum : bootBuiltins "sum" = some (.builtin "sum") := by decide +kernel
theorem bt_min : bootBuiltins "min" = some (.builtin "min") := by decide +kernel
theorem bt_max : bootBuiltins "max" = some (.builtin "max") := by decide +kernel
theorem bt_sorted : bootBuiltins "sorted" = some (.builtin "sorted") := by decide +kernel
theorem bt_abs : bootBuiltins "abs" = some (.builtin "abs") := by decide +kernel
theorem bt_int : bootBuiltins "int" = some (.type "int") := by decide +kernel
theorem bt_bool : bootBuiltins "bool" = some (.type "bool") := by decide +kernel
theorem bt_tuple : bootBuiltins "tuple" = some (.type "tuple") := by decide +kernel
theorem bt_list : bootBuiltins "list" = some (.type "list") := by decide +kernel
theorem bt_dict : bootBuiltins "dict" = some (.type "dict") := by decide +kernel
theorem bt_str : bootBuiltins "str" = some (.type "str") := by decide +kernel
theorem bt_range : bootBuiltins "range" = some (.type "range") := by decide +kernel
theorem bt_enumerate : bootBuiltins "enumerate" = some (.type "enumerate") := by decide +kernel
theorem bt_zip : bootBuiltins "zip" = some (.type "zip") := by decide +kernel
theorem bt_ValueError : bootBuiltins "ValueError" = some (.type "ValueError") := by decide +kernel
theorem bt_object : bootBuiltins "object" = some (.type "object") := by decide +kernel
theorem ltN {a b : Nat} (h : Nat.ble (a + 1) b = true) : a < b := Nat.le_of_ble_eq_true h
theorem leN {a b : Nat} (h : Nat.ble a b = true) : a ≤ b := Nat.le_of_ble_eq_true h
def blkB (N : List Str) (sc scope : Scope) (own : List (Str × Nat)) : Bool :=
  decide (scope.kind = .function) && (scope.names.all fun y => decide (scope.names.lookup y.1 = some y.2)) && (own.all fun p => decide (N[p.2]? = some p.1)) &&
  (scope.names.all fun y => if y.2 = .free then decide (sc.names.lookup y.1 = some .cell) || decide (sc.names.lookup y.1 = some .free) else true) &&
  (scope.names.all fun y => if y.2 = .local ∨ y.2 = .cell then decide (y.1 ∈ own.map (·.1)) || !decide (y.1 ∈ N) else true)
theorem blk_of {N : List Str} {sc scope : Scope} {own : List (Str × Nat)} (h : blkB N sc scope own = true) : BlkOk N sc scope own := by
  unfold blkB at h
  simp only [Bool.and_eq_true, List.all_eq_true, decide_eq_true_eq] at h
  obtain ⟨⟨⟨⟨h1, h2⟩, h3⟩, h4⟩, h5⟩ := h
  refine ⟨h1, h2, h3, fun y hy e => ?_, fun y hy e => ?_⟩
  · have := h4 y hy
    rw [if_pos e, Bool.or_eq_true, decide_eq_true_eq, decide_eq_true_eq] at this
    exact this
  · have := h5 y hy
    rw [if_pos e, Bool.or_eq_true, decide_eq_true_eq, Bool.not_eq_true', decide_eq_false_iff_not] at this
    exact this
end Pv

set_option Elab.async false
set_option linter.all false
set_option maxRecDepth 100000
namespace Pv
open PySem PySem.Spec PyProof.Rows L2
/-! try .. except X as e -/
def clr (i : Nat) : Fl → Fl
  | .nx ρ => .nx (ρ.set i .un)
  | .bk ρ => .bk (ρ.set i .un)
  | .ct ρ => .ct (ρ.set i .un)
  | .ret v ρ => .ret v (ρ.set i .un)
  | .exc _ _ => .stuck
  | .stuck => .stuck
def sTry (i : Nat) (cl : Exc → Option Bool) (body : Sem) (su : Exc → Sem) : Sem := fun ρ => match body ρ with
  | .exc c ρ1 => match cl c with
    | some true => clr i (su c (ρ1.set i (.fz (.adr 0))))
    | some false => .exc c ρ1
    | none => .stuck
  | r => r
section
variable {P : Pr} {m : Bool} {W Wout : WX} {B F0 F H : Hp} {σ : L2.St} {ob : Ob} {ρ : Envi} {D : Ends}
theorem clr_post {i : Nat} (hi : i < P.n) : ∀ {r : Fl}, PostS P B F0 F Wout D (clr i r) → PostS P B F0 F W0 { nx := fun σ' H' => D.nx (σ'.set i none) H', rt := D.rt, bk := fun σ' H' => D.bk (σ'.set i none) H', ct := fun σ' H' => D.ct (σ'.set i none) H' } r
  | .nx ρ, h => fun F' H' σ' ob' w s => h F' H' _ ob' (w.set hi rfl fun _ => True.intro) s
  | .bk ρ, h => fun F' H' σ' ob' w s => h F' H' _ ob' (w.set hi rfl fun _ => True.intro) s
  | .ct ρ, h => fun F' H' σ' ob' w s => h F' H' _ ob' (w.set hi rfl fun _ => True.intro) s
  | .ret v ρ, h => fun B' F' H' σ' ob' u w s r => h B' F' H' _ ob' u (w.set (v := none) hi rfl fun _ => True.intro) s r
  | .exc _ _, h => h.elim
  | .stuck, h => h.elim
theorem snd_try {tb : WX → TS} {ts : Addr → Value → Option Addr → TS} {i : Nat} {cv : Value} {body : Sem} {su : Addr → Exc → Sem} (cl : Exc → Option Bool) (hi : i < P.n) (hcl : ∀ c b, cl c = some b → PySem.W.exmOne P.K (P.ec c) cv = some b)
    (hb : ∀ W, SndS P W (tb W) body) (hsu : ∀ a c, cl c = some true → SndS P W0 (ts a (P.ec c) none) (su a c))
    (hind : ∀ (a : Addr) (c : Exc) (ρ : Envi), clr i (su a c (ρ.set i (.fz (.adr a)))) = clr i (su 0 c (ρ.set i (.fz (.adr 0))))) :
    SndS P Wout (fun D σ H => tb (wAs P.K cv i ts Wout D) D σ H) (sTry i cl body (fun c => su 0 c)) := fun B F0 F H σ ob ρ D w q => by
  refine hb _ B F0 F H σ ob ρ D w ?_
  unfold sTry at q
  cases e : body ρ with
  | nx ρ1 => rw [e] at q; exact q
  | bk ρ1 => rw [e] at q; exact q
  | ct ρ1 => rw [e] at q; exact q
  | ret v ρ1 => rw [e] at q; exact q
  | stuck => rw [e] at q; exact q
  | exc c ρ1 =>
    rw [e] at q
    try dsimp only at q
    intro F' H' σ' ob' w' s
    cases ec : cl c with
    | none => rw [ec] at q; exact q.elim
    | some b =>
      rw [ec] at q
      refine ⟨b, hcl c b ec, fun hb a ha => ?_, fun hb => ?_⟩
      · subst hb
        try dsimp only at q
        refine hsu a c ec B F0 F' H' _ ob' (ρ1.set i (.fz (.adr a))) _ (w'.set hi rfl fun _ => ⟨_, rfl, .adr a⟩) (clr_post (Wout := Wout) hi ?_)
        rw [hind a c ρ1]
        exact q.shift s
      · subst hb
        exact q F' H' σ' ob' w' s
/-- isinstance(e, X) in the suite, e the error caught -/
def rIsX (K : PySem.W.Frag) (a : Addr) (cls : Value) (d : Option Addr) : List V → Hp → VK → Prop := fun xs H Q => ∃ D, cls = .ref D ∧ d = none ∧ ExcC K D ∧ rIsE K D a xs H Q
theorem call_isX {X : Cx} {a : Addr} {oe : Obj} {cls : Value} {d : Option Addr} {pn : List (Addr × Obj)} (hz : Zc cls d oe) (hf : ∃ vs, oe.data = .fields vs) : CallR (X.suite a ((a, oe) :: pn)) (.builtin "isinstance") (rIsX X.K a cls d) := by
  intro pins s σ H xs us Q I r h
  obtain ⟨D, rfl, rfl, C, h⟩ := h
  exact call_isE C hz hf pins s σ H xs us Q I r h
def eIsX (i : Nat) (a : Addr) (b : Bool) : Envi → R Hd := fun ρ => match ρ[i]? with
  | some (.fz (.adr a')) => if a' = a then .ok (.dat (.bl b)) ρ else .stuck
  | _ => .stuck
theorem snd_isX {i : Nat} {a : Addr} {v : V} {c : Exc} {b : Bool} (hi : i < P.n) (h : ∃ D cv, P.ec c = .ref D ∧ ExcC P.K D ∧ (∀ u, RelV v u → u = cv) ∧ PySem.W.kitOne P.K (.ref D) cv = some b) :
    SndE P m W (tCB (rIsX P.K a (P.ec c) none) (tCons (tVar i) (tCons (tC v) tNil))) (eIsX i a b) := fun B F0 F H σ ob ρ Q w q => by
  unfold eIsX at q
  split at q
  · rename_i a' e
    split at q
    · rename_i ea
      subst ea
      obtain ⟨D, cv, h1, h2, h3, h4⟩ := h
      obtain ⟨al, s1, _⟩ := w.sl
      obtain ⟨u, e1, e2⟩ := s1 i _ e
      cases e2
      have hi' : i < σ.length := by rw [w.n]; exact hi
      rw [tau_lt hi'] at e1
      have e3 : σ[i]? = some (some (.ref a')) := by
        rw [List.getElem?_eq_getElem hi'] at e1 ⊢
        rw [show σ[i] = some (.ref a') from e1]
      exact ⟨_, e3, D, h1, rfl, h2, v, cv, b, rfl, h3, h4, q B F H ob _ w (Same.refl _) (fun _ => rfl) ⟨rfl, .bl b⟩⟩
    · exact q.elim
  · exact q.elim
theorem relv_ref {a : Addr} : ∀ u, RelV (.ref a) u → u = .ref a := fun u h => h
theorem relv_ty {n : String} : ∀ u, RelV (.ty n) u → u = .type n := fun u h => h
theorem eIsX_set {i : Nat} {a : Addr} {b : Bool} {ρ : Envi} : eIsX i a b (ρ.set i (.fz (.adr a))) = if i < ρ.length then .ok (.dat (.bl b)) (ρ.set i (.fz (.adr a))) else .stuck := by
  unfold eIsX
  by_cases h : i < ρ.length
  · rw [List.getElem?_set_self h, if_pos h]; exact if_pos rfl
  · rw [if_neg h, List.getElem?_eq_none (by rw [List.length_set]; omega)]
/-- an error class asked after -/
structure XcI (K : PySem.W.Frag) (mg : Str → Option Value) (x : Str) extends Xc K mg x where
  i : ExcC K C
end
end Pv

set_option Elab.async false
set_option linter.all false
set_option maxRecDepth 100000
namespace Pv
open PySem PySem.Spec PyProof.Rows L2
open PySem.W (Datum DatumOrd Tup T3 T4)
/-! data with a type of Lean -/
class Lay (α : Type) [DecidableEq α] [Datum α] : Prop where
  lay : ∀ x : α, PyData.canLay0 (Datum.toD x) = true
instance : Lay Int := ⟨fun x => by show PyData.canLay0 (.int x) = true; simp [PyData.canLay0]⟩
instance : Lay Bool := ⟨fun x => by show PyData.canLay0 (.bool x) = true; simp [PyData.canLay0]⟩
instance : Lay Unit := ⟨fun x => by show PyData.canLay0 .none = true; simp [PyData.canLay0]⟩
section
variable {α β γ δ : Type} [DecidableEq α] [Datum α] [DecidableEq β] [Datum β] [DecidableEq γ] [Datum γ] [DecidableEq δ] [Datum δ]
theorem layAll [Lay α] : ∀ xs : List α, PyData.canLayAll0 (xs.map Datum.toD) = true
  | [] => by simp [PyData.canLayAll0]
  | x :: xs => by rw [List.map_cons, PyData.canLayAll0, Lay.lay x, layAll xs]; rfl
instance [Lay α] : Lay (List α) := ⟨fun x => by show PyData.canLay0 (.list _) = true; rw [PyData.canLay0]; exact layAll x⟩
instance [Lay α] : Lay (Tup α) := ⟨fun x => by show PyData.canLay0 (.tuple _) = true; rw [PyData.canLay0]; exact layAll x.items⟩
instance [Lay α] [Lay β] : Lay (α × β) := ⟨fun x => by show PyData.canLay0 (.tuple [_, _]) = true; simp [PyData.canLay0, PyData.canLayAll0, Lay.lay]⟩
instance [Lay α] [Lay β] [Lay γ] : Lay (T3 α β γ) := ⟨fun x => by show PyData.canLay0 (.tuple [_, _, _]) = true; simp [PyData.canLay0, PyData.canLayAll0, Lay.lay]⟩
instance [Lay α] [Lay β] [Lay γ] [Lay δ] : Lay (T4 α β γ δ) := ⟨fun x => by show PyData.canLay0 (.tuple [_, _, _, _]) = true; simp [PyData.canLay0, PyData.canLayAll0, Lay.lay]⟩
/-- the datum d stands for x -/
def Is (d : D) (x : α) : Prop := toPy d = some (Datum.toD x)
def Iss (ds : List D) (xs : List α) : Prop := toPys ds = some (xs.map Datum.toD)
theorem shaped_is [Lay α] (hd : Datum.depth α ≤ 64) (x : α) : SeqAt.shaped (Datum.toD x) = true := by
  unfold SeqAt.shaped
  rw [Lay.lay x, Bool.true_and, decide_eq_true_eq]
  exact Nat.le_trans (Datum.depth_le x) hd
theorem is_int (i : Int) : Is (.int i) i := rfl
theorem is_bl (i : Bool) : Is (.bl i) i := rfl
theorem iss_nil : Iss [] ([] : List α) := rfl
theorem Iss.cons {d : D} {ds : List D} {x : α} {xs : List α} (h : Is d x) (g : Iss ds xs) : Iss (d :: ds) (x :: xs) := by
  unfold Iss toPys
  rw [h, g]
  rfl
theorem iss_map {enc : α → D} (h : ∀ x, Is (enc x) x) : ∀ xs : List α, Iss (xs.map enc) xs
  | [] => rfl
  | x :: xs => .cons (h x) (iss_map h xs)
theorem iss_ints (xs : List Int) : Iss (xs.map .int) xs := iss_map is_int xs
theorem is_tup {ds : List D} {xs : List α} (h : Iss ds xs) : Is (.tup ds) (Tup.mk xs) := by
  show (toPys ds).map _ = _
  rw [h]; rfl
theorem is_ktup {ds : List D} {xs : List α} (h : Iss ds xs) : Is (.ktup ds) (Tup.mk xs) := by
  show (toPys ds).map _ = _
  rw [h]; rfl
theorem is_lst {ds : List D} {xs : List α} (h : Iss ds xs) : Is (.lst ds) xs := by
  show (toPys ds).map _ = _
  rw [h]; rfl
theorem is_klst {ds : List D} {xs : List α} (h : Iss ds xs) : Is (.klst ds) xs := by
  show (toPys ds).map _ = _
  rw [h]; rfl
theorem is_pair {a b : D} {x : α} {y : β} (h : Is a x) (g : Is b y) : Is (.tup [a, b]) (x, y) := by
  show (toPys [a, b]).map _ = _
  simp only [toPys]
  rw [h, g]; rfl
theorem is_t3 {a b c : D} {x : T3 α β γ} (h : Is a x.a) (g : Is b x.b) (k : Is c x.c) : Is (.tup [a, b, c]) x := by
  show (toPys [a, b, c]).map _ = _
  simp only [toPys]
  rw [h, g, k]; rfl
theorem is_t4 {a b c d : D} {x : T4 α β γ δ} (h : Is a x.a) (g : Is b x.b) (k : Is c x.c) (l : Is d x.d) : Is (.tup [a, b, c, d]) x := by
  show (toPys [a, b, c, d]).map _ = _
  simp only [toPys]
  rw [h, g, k, l]; rfl
theorem eqD_is [Lay α] {a b : D} {x y : α} (h : Is a x) (g : Is b y) (hd : Datum.depth α ≤ 64) : eqD a b = some (decide (x = y)) := by
  unfold eqD
  rw [h, g]
  simp only [shaped_is hd, Bool.and_self, if_true, Datum.eqv]
theorem opEq_is [Lay α] {a b : D} {x y : α} (h : Is a x) (g : Is b y) (hd : Datum.depth α ≤ 64) : opEq a b = some (.bl (decide (x = y))) := by unfold opEq; rw [eqD_is h g hd]; rfl
theorem opNe_is [Lay α] {a b : D} {x y : α} (h : Is a x) (g : Is b y) (hd : Datum.depth α ≤ 64) : opNe a b = some (.bl (!decide (x = y))) := by unfold opNe; rw [eqD_is h g hd]; rfl
theorem any_is (x : α) : ∀ ys : List α, ((ys.map Datum.toD).any fun z => PyData.eqv z (Datum.toD x)) = decide (x ∈ ys)
  | [] => rfl
  | z :: zs => by
    rw [List.map_cons, List.any_cons, any_is x zs, Datum.eqv, ← Bool.decide_or]
    exact decide_eq_decide.mpr (by rw [List.mem_cons]; exact ⟨fun e => e.elim (fun e => .inl e.symm) .inr, fun e => e.elim (fun e => .inl e.symm) .inr⟩)
theorem inD_is [Lay α] {a l : D} {ds : List D} {x : α} {xs : List α} (h : Is a x) (hl : lstOf l = some ds) (g : Iss ds xs) (hd : Datum.depth α ≤ 60) : inD a l = some (decide (x ∈ xs)) := by
  have hn : dLook l a = none := by
    unfold dLook
    cases l <;> first | rfl | cases hl
  unfold inD
  rw [hn, hl]
  simp only
  rw [h, g]
  have s1 := shaped_is (α := α) (by omega) x
  have s2 := shaped_is (α := List α) (by show Datum.depth α + 1 ≤ 64; omega) xs
  have s2 : SeqAt.shaped (.list (xs.map Datum.toD)) = true := s2
  simp only [s1, s2, Bool.and_self, if_true, Option.some.injEq]
  exact any_is x xs
theorem opIn_is [Lay α] {a l : D} {ds : List D} {x : α} {xs : List α} (h : Is a x) (hl : lstOf l = some ds) (g : Iss ds xs) (hd : Datum.depth α ≤ 60) : opIn a l = some (.bl (decide (x ∈ xs))) := by unfold opIn; rw [inD_is h hl g hd]; rfl
theorem opNotIn_is [Lay α] {a l : D} {ds : List D} {x : α} {xs : List α} (h : Is a x) (hl : lstOf l = some ds) (g : Iss ds xs) (hd : Datum.depth α ≤ 60) : opNotIn a l = some (.bl (!decide (x ∈ xs))) := by unfold opNotIn; rw [inD_is h hl g hd]; rfl
theorem firstIx_is (x : α) : ∀ xs : List α, x ∈ xs → firstIx (Datum.toD x) (xs.map Datum.toD) = some (xs.idxOf x)
  | [], h => nomatch h
  | y :: ys, h => by
    rw [List.map_cons, firstIx, Datum.eqv]
    by_cases e : y = x
    · rw [if_pos (decide_eq_true e), e, List.idxOf_cons_self]
    · rw [if_neg (by simpa using e), firstIx_is x ys (by rcases List.mem_cons.mp h with h | h; exact absurd h.symm e; exact h), List.idxOf_cons, show (y == x) = false by simpa using e]
      rfl
theorem ixD_is [Lay α] {a : D} {ds : List D} {x : α} {xs : List α} {wrap : List PyData → PyData} (h : Is a x) (g : Iss ds xs) (hx : x ∈ xs) (hd : Datum.depth α ≤ 60) (hw : wrap = .list ∨ wrap = .tuple) : ixD ds a wrap = some (.int (xs.idxOf x : Nat)) := by
  unfold ixD
  rw [h, g]
  have s1 := shaped_is (α := α) (by omega) x
  have s2 : SeqAt.shaped (wrap (xs.map Datum.toD)) = true := by
    rcases hw with rfl | rfl
    · exact shaped_is (α := List α) (by show Datum.depth α + 1 ≤ 64; omega) xs
    · exact shaped_is (α := Tup α) (by show Datum.depth α + 1 ≤ 64; omega) ⟨xs⟩
  simp only [s1, s2, Bool.and_self, if_true, firstIx_is x xs hx]
  rfl
end
section
variable {α : Type} [DecidableEq α] [DatumOrd α]
theorem alikeB_is (xs : List α) : alikeB (xs.map Datum.toD) = true := by
  unfold alikeB
  rw [List.all_eq_true]
  intro x hx
  rw [List.all_eq_true]
  intro y hy
  exact (PySem.W.alikeAll_datum xs).1 x hx y hy
theorem noNone_is (xs : List α) : noNone (xs.map Datum.toD) = true := by
  unfold noNone
  rw [List.all_eq_true]
  intro x hx
  have := (PySem.W.alikeAll_datum xs).2 x hx
  cases x <;> first | rfl | exact absurd rfl this
theorem minOk_is {xs : List α} (hn : xs ≠ []) (hd : Datum.depth α ≤ 60) : minOk (xs.map Datum.toD) = true := by
  unfold minOk
  rw [alikeB_is, noNone_is, decide_eq_true (Nat.le_trans (PySem.W.depthAll_map xs) hd), decide_eq_true (by rw [List.length_map]; exact List.length_pos_iff.mpr hn)]
  rfl
/-- the place of the first of the least -/
def minAt : List α → Nat
  | [] => 0
  | x :: xs => argBest (fun i j => DatumOrd.lt ((x :: xs).getD i x) ((x :: xs).getD j x)) xs.length
theorem argBest_le (bt : Nat → Nat → Bool) : ∀ n, argBest bt n ≤ n
  | 0 => Nat.le_refl _
  | n + 1 => by
    unfold argBest
    split
    · exact Nat.le_refl _
    · exact Nat.le_succ_of_le (argBest_le bt n)
theorem argBest_congr {bt bt' : Nat → Nat → Bool} : ∀ n, (∀ i j, i ≤ n → j ≤ n → bt i j = bt' i j) → argBest bt n = argBest bt' n
  | 0, _ => rfl
  | n + 1, h => by
    unfold argBest
    have ih := argBest_congr (bt := bt) (bt' := bt') n fun i j hi hj => h i j (by omega) (by omega)
    rw [ih, h (n + 1) (argBest bt' n) (Nat.le_refl _) (Nat.le_succ_of_le (argBest_le _ n))]
theorem minIx_is (xs : List α) : minIx (xs.map Datum.toD) = minAt xs := by
  cases xs with
  | nil => rfl
  | cons x xs =>
    unfold minIx minAt
    rw [List.length_map, List.length_cons, Nat.add_sub_cancel]
    refine argBest_congr _ fun i j hi hj => ?_
    have g : ∀ k, k ≤ xs.length → ((x :: xs).map Datum.toD).getD k .none = Datum.toD ((x :: xs).getD k x) := fun k hk => by
      have hk' : k < (x :: xs).length := by rw [List.length_cons]; omega
      rw [List.getD_eq_getElem?_getD, List.getD_eq_getElem?_getD, List.getElem?_map, List.getElem?_eq_getElem hk']
      rfl
    rw [g i hi, g j hj, DatumOrd.lt_eq]
theorem fMinD_is {d : D} {ds : List D} {xs : List α} (hl : lstOf d = some ds) (h : Iss ds xs) (hn : xs ≠ []) (hd : Datum.depth α ≤ 60) : fMinD [d] = ofOpt ds[minAt xs]? := by
  have h : toPys ds = some (xs.map Datum.toD) := h
  simp only [fMinD, hl, h, minOk_is hn hd, if_true, minIx_is]
end
/-! for, comprehensions -/
theorem runFor_inv {α : Type} {b : Bnd} {g : Sem} (st : α → Envi) (f : α → D → α) (I : List D → α → Prop) (h : ∀ d r a, I (d :: r) a → (∃ ρ1, b d (st a) = some ρ1 ∧ (g ρ1 = .nx (st (f a d)) ∨ g ρ1 = .ct (st (f a d)))) ∧ I r (f a d)) :
    ∀ ds a, I ds a → runFor b g ds (st a) = .nx (st (ds.foldl f a)) ∧ I [] (ds.foldl f a)
  | [], a, i => ⟨rfl, i⟩
  | d :: r, a, i => by
    obtain ⟨⟨ρ1, h1, h2⟩, h3⟩ := h d r a i
    have ih := runFor_inv st f I h r (f a d) h3
    unfold runFor
    rw [h1]
    rcases h2 with h2 | h2
    · simp only [h2]; exact ih
    · simp only [h2]; exact ih
theorem runFor_map {ι α : Type} {b : Bnd} {g : Sem} {enc : ι → D} (st : α → Envi) (f : α → ι → α) (I : List ι → α → Prop) (h : ∀ d r a, I (d :: r) a → (∃ ρ1, b (enc d) (st a) = some ρ1 ∧ (g ρ1 = .nx (st (f a d)) ∨ g ρ1 = .ct (st (f a d)))) ∧ I r (f a d)) :
    ∀ ds a, I ds a → runFor b g (ds.map enc) (st a) = .nx (st (ds.foldl f a)) ∧ I [] (ds.foldl f a)
  | [], a, i => ⟨rfl, i⟩
  | d :: r, a, i => by
    obtain ⟨⟨ρ1, h1, h2⟩, h3⟩ := h d r a i
    have ih := runFor_map (b := b) (g := g) (enc := enc) st f I h r (f a d) h3
    rw [List.map_cons]
    unfold runFor
    rw [h1]
    rcases h2 with h2 | h2
    · simp only [h2]; exact ih
    · simp only [h2]; exact ih
theorem runComp_map {ι : Type} {b : Bnd} {c : Envi → R Bool} {e : Envi → R Hd} {vs : List Nat} {enc : ι → D} (ρ : Envi) (F : ι → Option D) : ∀ l : List ι,
    (∀ x ∈ l, ∃ ρ1, b (enc x) ρ = some ρ1 ∧ ((c ρ1 = .ok false ρ1 ∧ F x = none ∧ wipeE ρ1 vs = ρ) ∨ (c ρ1 = .ok true ρ1 ∧ ∃ d ρ2, eMat e ρ1 = .ok (.dat d) ρ2 ∧ F x = some d ∧ wipeE ρ2 vs = ρ))) →
    runComp b c e vs (l.map enc) ρ = some (l.filterMap F, ρ)
  | [], _ => rfl
  | x :: l, h => by
    obtain ⟨ρ1, h1, h2⟩ := h x List.mem_cons_self
    have ih := runComp_map (b := b) (c := c) (e := e) (vs := vs) (enc := enc) ρ F l fun y hy => h y (List.mem_cons_of_mem _ hy)
    rw [List.map_cons]
    unfold runComp
    rw [h1]
    rcases h2 with ⟨h2, h3, h4⟩ | ⟨h2, d, ρ2, h3, h4, h5⟩
    · simp only [h2, h4, ih]
      rw [List.filterMap_cons_none h3]
    · simp only [h2, h3, h5, ih]
      rw [List.filterMap_cons_some h4]
end Pv

set_option Elab.async false
set_option linter.all false
set_option maxRecDepth 100000
namespace Pv
open PySem PySem.Spec PyProof.Rows L2
open PySem.W (Datum DatumOrd Tup T3 T4)
/-! equations to compute with -/
section
variable {α β : Type} {ρ ρ1 : Envi} {i n : Nat} {d a b : D} {o : Own} {c : Exc}
theorem R.bind_congr {r r' : R α} {k : α → Envi → R β} (h : r = r') : r.bind k = r'.bind k := by rw [h]
theorem R.toFl_congr {r r' : R α} {k : α → Envi → Fl} (h : r = r') : r.toFl k = r'.toFl k := by rw [h]
@[simp] theorem y_bind_ok {x : α} {k : α → Envi → R β} : (R.ok x ρ).bind k = k x ρ := id rfl
@[simp] theorem y_bind_exc {k : α → Envi → R β} : (R.exc c ρ : R α).bind k = .exc c ρ := id rfl
@[simp] theorem y_bind_stuck {k : α → Envi → R β} : (R.stuck : R α).bind k = .stuck := id rfl
@[simp] theorem y_toFl_ok {x : α} {k : α → Envi → Fl} : (R.ok x ρ).toFl k = k x ρ := id rfl
@[simp] theorem y_toFl_exc {k : α → Envi → Fl} : (R.exc c ρ : R α).toFl k = .exc c ρ := id rfl
@[simp] theorem y_toFl_stuck {k : α → Envi → Fl} : (R.stuck : R α).toFl k = .stuck := id rfl
@[simp] theorem y_frz_dat : (R.ok (.dat d) ρ).frz = .ok (.dat d) ρ := id rfl
@[simp] theorem y_frz_pl : (R.ok (.pl i) ρ).frz = .ok (.pl i) ρ := id rfl
@[simp] theorem y_frz_fl : (R.ok (.fl i) ρ).frz = .ok (.fl i) ρ := id rfl
@[simp] theorem y_frz_obj : (R.ok .obj ρ).frz = .ok .obj ρ := id rfl
@[simp] theorem y_frz_tm : (R.ok (.tm o) ρ).frz = .ok (.dat o.toD) ρ := id rfl
@[simp] theorem y_frz_exc : (R.exc c ρ : R Hd).frz = .exc c ρ := id rfl
@[simp] theorem y_frz_stuck : (R.stuck : R Hd).frz = .stuck := id rfl
@[simp] theorem y_toD_li {l : List D} : (Own.li l).toD = .lst l := id rfl
@[simp] theorem y_toD_di {l : List (Key × D)} : (Own.di l).toD = .dk (l.map (·.1)) (l.map (·.2)) := id rfl
@[simp] theorem y_toD_ti {l : List (List Key × D)} : (Own.ti l).toD = .dt (l.map (·.1)) (l.map (·.2)) := id rfl
def varM (i : Nat) (ρ : Envi) : Option Slot → R Hd
  | some (.fz d) => .ok (.dat d) ρ
  | some (.ow _) => .ok (.pl i) ρ
  | some .self => .ok .obj ρ
  | _ => .stuck
@[simp] theorem y_var : eVar i ρ = varM i ρ ρ[i]? := by unfold eVar varM; rfl
@[simp] theorem y_varM_fz : varM i ρ (some (.fz d)) = .ok (.dat d) ρ := id rfl
@[simp] theorem y_varM_ow : varM i ρ (some (.ow o)) = .ok (.pl i) ρ := id rfl
@[simp] theorem y_varM_self : varM i ρ (some .self) = .ok .obj ρ := id rfl
@[simp] theorem y_C : eC d ρ = .ok (.dat d) ρ := id rfl
def derM : Option Slot → Option D
  | some (.fz d) => some d
  | some (.ow o) => some o.toD
  | _ => none
@[simp] theorem y_derM_fz : derM (some (.fz d)) = some d := id rfl
@[simp] theorem y_derM_ow : derM (some (.ow o)) = some o.toD := id rfl
@[simp] theorem y_der_dat : deref ρ (.dat d) = some d := id rfl
@[simp] theorem y_der_pl : deref ρ (.pl i) = derM ρ[i]? := by unfold deref derM; rfl
@[simp] theorem y_der_fl : deref ρ (.fl i) = derM ρ[i]? := by unfold deref derM; rfl
def matM (i : Nat) (ρ : Envi) : Option Slot → Option (D × Envi)
  | some (.fz d) => some (d, ρ)
  | some (.ow o) => some (o.toD, ρ.set i (.fz o.toD))
  | _ => none
@[simp] theorem y_matM_fz : matM i ρ (some (.fz d)) = some (d, ρ) := id rfl
@[simp] theorem y_matM_ow : matM i ρ (some (.ow o)) = some (o.toD, ρ.set i (.fz o.toD)) := id rfl
@[simp] theorem y_mat_dat : mat ρ (.dat d) = some (d, ρ) := id rfl
@[simp] theorem y_mat_pl : mat ρ (.pl i) = matM i ρ ρ[i]? := by unfold mat matM; rfl
@[simp] theorem y_mat_fl : mat ρ (.fl i) = matM i ρ ρ[i]? := by unfold mat matM; rfl
def matAM (hs : List Hd) : Option (D × Envi) → Option (List D × Envi)
  | some (d, ρ1) => match matAll ρ1 hs with
    | some (ds, ρ2) => some (d :: ds, ρ2)
    | none => none
  | none => none
def consM (d : D) : Option (List D × Envi) → Option (List D × Envi)
  | some (ds, ρ2) => some (d :: ds, ρ2)
  | none => none
@[simp] theorem y_matAll_nil : matAll ρ [] = some ([], ρ) := id rfl
@[simp] theorem y_matAll_cons {h : Hd} {hs : List Hd} : matAll ρ (h :: hs) = matAM hs (mat ρ h) := by unfold matAll matAM; rfl
@[simp] theorem y_matAM {hs : List Hd} : matAM hs (some (d, ρ)) = consM d (matAll ρ hs) := by unfold matAM consM; rfl
@[simp] theorem y_consM {ds : List D} : consM d (some (ds, ρ)) = some (d :: ds, ρ) := id rfl
def derAM : Option D → Option (List D) → Option (List D)
  | some d, some ds => some (d :: ds)
  | _, _ => none
@[simp] theorem y_derA_nil : derefAll ρ [] = some [] := id rfl
@[simp] theorem y_derA_cons {h : Hd} {hs : List Hd} : derefAll ρ (h :: hs) = derAM (deref ρ h) (derefAll ρ hs) := by unfold derAM; rfl
@[simp] theorem y_derAM {ds : List D} : derAM (some d) (some ds) = some (d :: ds) := id rfl
def matK {γ : Type} (k : D → Envi → R γ) : Option (D × Envi) → R γ
  | some (d, ρ2) => k d ρ2
  | none => .stuck
@[simp] theorem y_matK {γ : Type} {k : D → Envi → R γ} : matK k (some (d, ρ)) = k d ρ := id rfl
def emK (h : Hd) (ρ1 : Envi) : R Hd := matK (fun d ρ2 => .ok (.dat d) ρ2) (mat ρ1 h)
def emM : Option (D × Envi) → R Hd
  | some (d, ρ2) => .ok (.dat d) ρ2
  | none => .stuck
@[simp] theorem y_emM : emM (some (d, ρ)) = .ok (.dat d) ρ := id rfl
@[simp] theorem y_emK {h : Hd} : emK h ρ = emM (mat ρ h) := by unfold emK matK emM; rfl
@[simp] theorem y_eMat {f : Envi → R Hd} : eMat f ρ = (f ρ).frz.bind emK := by unfold eMat emK matK; rfl
@[simp] theorem y_opt1 : opt1 ρ (some d) = .ok (.dat d) ρ := id rfl
def on1M (op : D → Option D) (ρ : Envi) : Option D → R Hd
  | some a => opt1 ρ (op a)
  | none => .stuck
def on2M (op : D → D → Option D) (ρ : Envi) : Option D → Option D → R Hd
  | some a, some b => opt1 ρ (op a b)
  | _, _ => .stuck
@[simp] theorem y_on1M {op : D → Option D} : on1M op ρ (some a) = opt1 ρ (op a) := id rfl
@[simp] theorem y_on2M {op : D → D → Option D} : on2M op ρ (some a) (some b) = opt1 ρ (op a b) := id rfl
@[simp] theorem y_on1 {op : D → Option D} {h : Hd} : on1 op ρ h = on1M op ρ (deref ρ h) := by unfold on1 on1M; rfl
@[simp] theorem y_on2 {op : D → D → Option D} {h k : Hd} : on2 op ρ h k = on2M op ρ (deref ρ h) (deref ρ k) := by unfold on2 on2M; rfl
def bk2 (op : D → D → Option D) (h k : Hd) (ρ2 : Envi) : R Hd := on2 op ρ2 h k
def bk1 (op : D → D → Option D) (g : Envi → R Hd) (h : Hd) (ρ1 : Envi) : R Hd := (g ρ1).frz.bind (bk2 op h)
@[simp] theorem y_bk2 {op : D → D → Option D} {h k : Hd} : bk2 op h k ρ = on2 op ρ h k := id rfl
@[simp] theorem y_bk1 {op : D → D → Option D} {g : Envi → R Hd} {h : Hd} : bk1 op g h ρ = (g ρ).frz.bind (bk2 op h) := id rfl
@[simp] theorem y_bin {op : D → D → Option D} {f g : Envi → R Hd} : eBin op f g ρ = (f ρ).frz.bind (bk1 op g) := id rfl
def uk (op : D → Option D) (h : Hd) (ρ1 : Envi) : R Hd := on1 op ρ1 h
@[simp] theorem y_uk {op : D → Option D} {h : Hd} : uk op h ρ = on1 op ρ h := id rfl
@[simp] theorem y_un {op : D → Option D} {f : Envi → R Hd} : eUn op f ρ = (f ρ).frz.bind (uk op) := id rfl
@[simp] theorem y_aNil : aNil ρ = .ok [] ρ := id rfl
def ck2 (h : Hd) (hs : List Hd) (ρ2 : Envi) : R (List Hd) := .ok (h :: hs) ρ2
def ck1 (g : Envi → R (List Hd)) (h : Hd) (ρ1 : Envi) : R (List Hd) := (g ρ1).bind (ck2 h)
@[simp] theorem y_ck2 {h : Hd} {hs : List Hd} : ck2 h hs ρ = .ok (h :: hs) ρ := id rfl
@[simp] theorem y_ck1 {g : Envi → R (List Hd)} {h : Hd} : ck1 g h ρ = (g ρ).bind (ck2 h) := id rfl
@[simp] theorem y_aCons {f : Envi → R Hd} {g : Envi → R (List Hd)} : aCons f g ρ = (f ρ).frz.bind (ck1 g) := id rfl
def matsK {γ : Type} (k : List D → Envi → R γ) : Option (List D × Envi) → R γ
  | some (ds, ρ2) => k ds ρ2
  | none => .stuck
@[simp] theorem y_matsK {γ : Type} {k : List D → Envi → R γ} {ds : List D} : matsK k (some (ds, ρ)) = k ds ρ := id rfl
def eTupKM : Option (List D × Envi) → R Hd
  | some (ds, ρ2) => .ok (.dat (.tup ds)) ρ2
  | none => .stuck
def eTupK (hs : List Hd) (ρ1 : Envi) : R Hd := eTupKM (matAll ρ1 hs)
@[simp] theorem y_tupM {ds : List D} : eTupKM (some (ds, ρ)) = .ok (.dat (.tup ds)) ρ := id rfl
@[simp] theorem y_tupK {hs : List Hd} : eTupK hs ρ = eTupKM (matAll ρ hs) := id rfl
@[simp] theorem y_tup {g : Envi → R (List Hd)} : eTup g ρ = (g ρ).bind eTupK := by unfold eTup eTupK eTupKM; rfl
def eTupFKM : Option (List D × Envi) → R Hd
  | some (ds, ρ2) => .ok (.dat (.ktup ds)) ρ2
  | none => .stuck
def eTupFK (hs : List Hd) (ρ1 : Envi) : R Hd := eTupFKM (matAll ρ1 hs)
@[simp] theorem y_tupFM {ds : List D} : eTupFKM (some (ds, ρ)) = .ok (.dat (.ktup ds)) ρ := id rfl
@[simp] theorem y_tupFK {hs : List Hd} : eTupFK hs ρ = eTupFKM (matAll ρ hs) := id rfl
@[simp] theorem y_tupF {g : Envi → R (List Hd)} : eTupF g ρ = (g ρ).bind eTupFK := by unfold eTupF eTupFK eTupFKM; rfl
def eLstKM : Option (List D × Envi) → R Hd
  | some (ds, ρ2) => .ok (.tm (.li ds)) ρ2
  | none => .stuck
def eLstK (hs : List Hd) (ρ1 : Envi) : R Hd := eLstKM (matAll ρ1 hs)
@[simp] theorem y_lstM {ds : List D} : eLstKM (some (ds, ρ)) = .ok (.tm (.li ds)) ρ := id rfl
@[simp] theorem y_lstK {hs : List Hd} : eLstK hs ρ = eLstKM (matAll ρ hs) := id rfl
@[simp] theorem y_lst {g : Envi → R (List Hd)} : eLst g ρ = (g ρ).bind eLstK := by unfold eLst eLstK eLstKM; rfl
@[simp] theorem y_ofRf_fz : ofRf ρ (.fz d) = .ok (.dat d) ρ := id rfl
@[simp] theorem y_ofRf_ow : ofRf ρ (.ow o) = .ok (.tm o) ρ := id rfl
@[simp] theorem y_ofRf_exc : ofRf ρ (.exc c) = .exc c ρ := id rfl
@[simp] theorem y_ofRf_stuck : ofRf ρ .stuck = .stuck := id rfl
def lkM (fs : List D → Rf) : Option (List D × Envi) → R Hd
  | some (ds, ρ2) => ofRf ρ2 (fs ds)
  | none => .stuck
def lk (fs : List D → Rf) (hs : List Hd) (ρ1 : Envi) : R Hd := lkM fs (matAll ρ1 hs)
@[simp] theorem y_lkM {fs : List D → Rf} {ds : List D} : lkM fs (some (ds, ρ)) = ofRf ρ (fs ds) := id rfl
@[simp] theorem y_lk {fs : List D → Rf} {hs : List Hd} : lk fs hs ρ = lkM fs (matAll ρ hs) := id rfl
@[simp] theorem y_call {fs : List D → Rf} {g : Envi → R (List Hd)} : eCall fs g ρ = (g ρ).bind (lk fs) := by unfold eCall lk lkM; rfl
def dersK {γ : Type} (k : List D → R γ) : Option (List D) → R γ
  | some ds => k ds
  | none => .stuck
@[simp] theorem y_dersK {γ : Type} {k : List D → R γ} {ds : List D} : dersK k (some ds) = k ds := id rfl
def cbM (fs : List D → Rf) (ρ1 : Envi) : Option (List D) → R Hd
  | some ds => ofRf ρ1 (fs ds)
  | none => .stuck
def cbk (fs : List D → Rf) (hs : List Hd) (ρ1 : Envi) : R Hd := cbM fs ρ1 (derefAll ρ1 hs)
@[simp] theorem y_cbM {fs : List D → Rf} {ds : List D} : cbM fs ρ (some ds) = ofRf ρ (fs ds) := id rfl
@[simp] theorem y_cbk {fs : List D → Rf} {hs : List Hd} : cbk fs hs ρ = cbM fs ρ (derefAll ρ hs) := id rfl
@[simp] theorem y_cb {fs : List D → Rf} {g : Envi → R (List Hd)} : eCB fs g ρ = (g ρ).bind (cbk fs) := by unfold eCB cbk cbM; rfl
@[simp] theorem y_ofBl {x : Bool} : ofBl ρ (some (.bl x)) = .ok x ρ := id rfl
def tsk (h : Hd) (ρ1 : Envi) : R Bool := ofBl ρ1 (deref ρ1 h)
@[simp] theorem y_tsk {h : Hd} : tsk h ρ = ofBl ρ (deref ρ h) := id rfl
@[simp] theorem y_tsE {f : Envi → R Hd} : tsE f ρ = (f ρ).frz.bind tsk := id rfl
def andk (g : Envi → R Bool) (b : Bool) (ρ1 : Envi) : R Bool := if b = true then g ρ1 else .ok false ρ1
@[simp] theorem y_andk {g : Envi → R Bool} {b : Bool} : andk g b ρ = if b = true then g ρ else .ok false ρ := id rfl
@[simp] theorem y_tsAnd {f g : Envi → R Bool} : tsAnd f g ρ = (f ρ).bind (andk g) := id rfl
def ork (g : Envi → R Bool) (b : Bool) (ρ1 : Envi) : R Bool := if b = true then .ok true ρ1 else g ρ1
@[simp] theorem y_ork {g : Envi → R Bool} {b : Bool} : ork g b ρ = if b = true then .ok true ρ else g ρ := id rfl
@[simp] theorem y_tsOr {f g : Envi → R Bool} : tsOr f g ρ = (f ρ).bind (ork g) := id rfl
def notk (b : Bool) (ρ1 : Envi) : R Bool := .ok (!b) ρ1
@[simp] theorem y_notk {b : Bool} : notk b ρ = .ok (!b) ρ := id rfl
@[simp] theorem y_tsNot {f : Envi → R Bool} : tsNot f ρ = (f ρ).bind notk := id rfl
def oftk (b : Bool) (ρ1 : Envi) : R Hd := .ok (.dat (.bl b)) ρ1
@[simp] theorem y_oftk {b : Bool} : oftk b ρ = .ok (.dat (.bl b)) ρ := id rfl
@[simp] theorem y_ofT {f : Envi → R Bool} : eOfT f ρ = (f ρ).bind oftk := id rfl
def ifk (f g : Envi → R Hd) (b : Bool) (ρ1 : Envi) : R Hd := if b = true then f ρ1 else g ρ1
@[simp] theorem y_ifk {f g : Envi → R Hd} {b : Bool} : ifk f g b ρ = if b = true then f ρ else g ρ := id rfl
@[simp] theorem y_eIf {c : Envi → R Bool} {f g : Envi → R Hd} : eIf c f g ρ = (c ρ).bind (ifk f g) := id rfl
@[simp] theorem y_tTrue : tTrue ρ = .ok true ρ := id rfl
def chM (op' : D → D → Option D) (k : Hd) (e : Envi → R Hd) (ρ : Envi) : Option D → R Hd
  | some (.bl true) => (e ρ).frz.bind fun l ρ3 => on2 op' ρ3 k l
  | some (.bl false) => .ok (.dat (.bl false)) ρ
  | _ => .stuck
def chN (op op' : D → D → Option D) (k : Hd) (e : Envi → R Hd) (ρ : Envi) : Option D → Option D → R Hd
  | some a, some b => chM op' k e ρ (op a b)
  | _, _ => .stuck
@[simp] theorem y_chN {op op' : D → D → Option D} {k : Hd} {e : Envi → R Hd} : chN op op' k e ρ (some a) (some b) = chM op' k e ρ (op a b) := id rfl
def ck3 (op' : D → D → Option D) (k l : Hd) (ρ3 : Envi) : R Hd := on2 op' ρ3 k l
@[simp] theorem y_ck3 {op' : D → D → Option D} {k l : Hd} : ck3 op' k l ρ = on2 op' ρ k l := id rfl
@[simp] theorem y_chM {op' : D → D → Option D} {k : Hd} {e : Envi → R Hd} {x : Bool} : chM op' k e ρ (some (.bl x)) = if x = true then (e ρ).frz.bind (ck3 op' k) else .ok (.dat (.bl false)) ρ := by cases x <;> rfl
def chk2 (op op' : D → D → Option D) (e : Envi → R Hd) (h k : Hd) (ρ2 : Envi) : R Hd := chN op op' k e ρ2 (deref ρ2 h) (deref ρ2 k)
def chk1 (op op' : D → D → Option D) (g e : Envi → R Hd) (h : Hd) (ρ1 : Envi) : R Hd := (g ρ1).frz.bind (chk2 op op' e h)
@[simp] theorem y_chk2 {op op' : D → D → Option D} {e : Envi → R Hd} {h k : Hd} : chk2 op op' e h k ρ = chN op op' k e ρ (deref ρ h) (deref ρ k) := id rfl
@[simp] theorem y_chk1 {op op' : D → D → Option D} {g e : Envi → R Hd} {h : Hd} : chk1 op op' g e h ρ = (g ρ).frz.bind (chk2 op op' e h) := id rfl
@[simp] theorem y_chain {op op' : D → D → Option D} {f g e : Envi → R Hd} : eChain op op' f g e ρ = (f ρ).frz.bind (chk1 op op' g e) := by unfold eChain chk1 chk2 chN chM; rfl
/-! statements -/
def Fl.andThen (r : Fl) (h : Sem) : Fl := match r with
  | .nx ρ => h ρ
  | r => r
theorem andThen_congr {r r' : Fl} {h : Sem} (e : r = r') : r.andThen h = r'.andThen h := by rw [e]
@[simp] theorem y_at_nx {h : Sem} : (Fl.nx ρ).andThen h = h ρ := id rfl
@[simp] theorem y_at_ret {h : Sem} {v : Rv} : (Fl.ret v ρ).andThen h = .ret v ρ := id rfl
@[simp] theorem y_at_exc {h : Sem} : (Fl.exc c ρ).andThen h = .exc c ρ := id rfl
@[simp] theorem y_at_bk {h : Sem} : (Fl.bk ρ).andThen h = .bk ρ := id rfl
@[simp] theorem y_at_ct {h : Sem} : (Fl.ct ρ).andThen h = .ct ρ := id rfl
@[simp] theorem y_at_stuck {h : Sem} : (Fl.stuck).andThen h = .stuck := id rfl
@[simp] theorem y_seq {g h : Sem} : sSeq g h ρ = (g ρ).andThen h := by unfold sSeq Fl.andThen; rfl
@[simp] theorem y_next : sNext ρ = .nx ρ := id rfl
def ifs (g h : Sem) (b : Bool) (ρ1 : Envi) : Fl := if b = true then g ρ1 else h ρ1
@[simp] theorem y_ifs {g h : Sem} {b : Bool} : ifs g h b ρ = if b = true then g ρ else h ρ := id rfl
@[simp] theorem y_if {c : Envi → R Bool} {g h : Sem} : sIf c g h ρ = (c ρ).toFl (ifs g h) := id rfl
@[simp] theorem y_at_ite {p : Prop} [Decidable p] {x y : Fl} {h : Sem} : (if p then x else y).andThen h = if p then x.andThen h else y.andThen h := by split <;> rfl
def rek (h : Hd) (ρ1 : Envi) : Fl := retH ρ1 h
@[simp] theorem y_rek {h : Hd} : rek h ρ = retH ρ h := id rfl
@[simp] theorem y_ret {f : Envi → R Hd} : sRet f ρ = (f ρ).toFl rek := id rfl
@[simp] theorem y_retH_tm : retH ρ (.tm o) = .ret (.ow o) ρ := id rfl
@[simp] theorem y_retH_dat : retH ρ (.dat d) = .ret (.fz d) ρ := id rfl
def retM : Option (D × Envi) → Fl
  | some (d, ρ2) => .ret (.fz d) ρ2
  | none => .stuck
@[simp] theorem y_retM : retM (some (d, ρ)) = .ret (.fz d) ρ := id rfl
@[simp] theorem y_retH_pl : retH ρ (.pl i) = retM (mat ρ (.pl i)) := by unfold retH retM; rfl
@[simp] theorem y_retN : sRetN ρ = .ret (.fz .non) ρ := id rfl
def drk (_ : Hd) (ρ1 : Envi) : Fl := .nx ρ1
@[simp] theorem y_drk {h : Hd} : drk h ρ = .nx ρ := id rfl
@[simp] theorem y_drop {f : Envi → R Hd} : sDrop f ρ = (f ρ).frz.toFl drk := id rfl
def sek (i : Nat) (h : Hd) (ρ1 : Envi) : Fl := setH i ρ1 h
@[simp] theorem y_sek {h : Hd} : sek i h ρ = setH i ρ h := id rfl
@[simp] theorem y_set {f : Envi → R Hd} : sSet i f ρ = (f ρ).toFl (sek i) := id rfl
@[simp] theorem y_setH_tm : setH i ρ (.tm o) = .nx (ρ.set i (.ow o)) := id rfl
@[simp] theorem y_setH_dat : setH i ρ (.dat d) = .nx (ρ.set i (.fz d)) := id rfl
@[simp] theorem y_setH_obj : setH i ρ .obj = .nx (ρ.set i .self) := id rfl
def setM (i : Nat) : Option (D × Envi) → Fl
  | some (d, ρ2) => .nx (ρ2.set i (.fz d))
  | none => .stuck
@[simp] theorem y_setM : setM i (some (d, ρ)) = .nx (ρ.set i (.fz d)) := id rfl
@[simp] theorem y_setH_pl {j : Nat} : setH i ρ (.pl j) = setM i (mat ρ (.pl j)) := by unfold setH setM; rfl
@[simp] theorem y_raise : sRaise c ρ = .exc c ρ := id rfl
@[simp] theorem y_break : sBreak ρ = .bk ρ := id rfl
@[simp] theorem y_cont : sCont ρ = .ct ρ := id rfl
def bndM (k : Envi → Fl) : Option Envi → Fl
  | some ρ1 => k ρ1
  | none => .stuck
@[simp] theorem y_bndM {k : Envi → Fl} : bndM k (some ρ) = k ρ := id rfl
@[simp] theorem y_bindFl {b : Bnd} {k : Envi → Fl} : bindFl b (.dat d) ρ k = bndM k (b d ρ) := by unfold bindFl bndM; rfl
def ask (b : Bnd) (h : Hd) (ρ1 : Envi) : Fl := bindFl b h ρ1 .nx
@[simp] theorem y_ask {b : Bnd} {h : Hd} : ask b h ρ = bindFl b h ρ .nx := id rfl
@[simp] theorem y_asg {f : Envi → R Hd} {b : Bnd} : sAsg f b ρ = (eMat f ρ).toFl (ask b) := id rfl
@[simp] theorem y_bN : bN i d ρ = some (ρ.set i (.fz d)) := id rfl
@[simp] theorem y_bsNil : bsNil [] ρ = some ρ := id rfl
def bsM (bs : Bnds) (r : List D) : Option Envi → Option Envi
  | some ρ1 => bs r ρ1
  | none => none
@[simp] theorem y_bsM {bs : Bnds} {r : List D} : bsM bs r (some ρ) = bs r ρ := id rfl
@[simp] theorem y_bsCons {b : Bnd} {bs : Bnds} {r : List D} : bsCons b bs (d :: r) ρ = bsM bs r (b d ρ) := by unfold bsCons bsM; rfl
@[simp] theorem y_bT {bs : Bnds} {ds : List D} : bT n bs (.tup ds) ρ = if ds.length = n then bs ds ρ else none := id rfl
@[simp] theorem y_bTk {bs : Bnds} {ds : List D} : bT n bs (.ktup ds) ρ = if ds.length = n then bs ds ρ else none := id rfl
def fok (b : Bnd) (g : Sem) (ds : List D) (ρ1 : Envi) : Fl := runFor b g ds ρ1
@[simp] theorem y_fok {b : Bnd} {g : Sem} {ds : List D} : fok b g ds ρ = runFor b g ds ρ := id rfl
@[simp] theorem y_for {it : Envi → R (List D)} {b : Bnd} {g : Sem} : sFor it b g ρ = (it ρ).toFl (fok b g) := id rfl
@[simp] theorem y_toRf_nx : toRf (.nx ρ) = .fz .non := id rfl
@[simp] theorem y_toRf_fz : toRf (.ret (.fz d) ρ) = .fz d := id rfl
@[simp] theorem y_toRf_ow : toRf (.ret (.ow o) ρ) = .ow o := id rfl
@[simp] theorem y_toRf_exc : toRf (.exc c ρ) = .exc c := id rfl
@[simp] theorem y_toRf_ite {p : Prop} [Decidable p] {x y : Fl} : toRf (if p then x else y) = if p then toRf x else toRf y := by split <;> rfl
/-- numbers that fit a line -/
def Small (n : Nat) : Prop := n < 16777216
instance (n : Nat) : Decidable (Small n) := by unfold Small; infer_instance
theorem small_of {n : Nat} (h : n ≤ 1000) : Small n := by unfold Small; omega
theorem small_le {m n : Nat} (h : Small n) (e : m ≤ n) : Small m := Nat.lt_of_le_of_lt e h
def SmallI (j : Int) : Prop := -16777216 < j ∧ j < 16777216
instance (n : Int) : Decidable (SmallI n) := by unfold SmallI; infer_instance
theorem smallI_of {n : Int} (h0 : -1000 ≤ n) (h : n ≤ 1000) : SmallI n := ⟨by omega, by omega⟩
theorem smallI_nat {n : Nat} (h : Small n) : SmallI n := by unfold Small at h; exact ⟨by omega, by omega⟩
/-- 0 .. n - 1 -/
def nats (n : Nat) : List D := (List.range n).map fun i : Nat => D.int (i : Int)
theorem rangeD_nats (n : Nat) : rangeD 0 n = nats n := by
  unfold rangeD nats
  exact List.map_congr_left fun i _ => by rw [Int.zero_add]
/-! iterators -/
@[simp] theorem y_opt2 {γ : Type} {x : γ} : opt2 ρ (some x) = .ok x ρ := id rfl
def byM (op : D → Option (List D)) (ρ : Envi) : Hd → R (List D)
  | .dat d => opt2 ρ (op d)
  | _ => .stuck
@[simp] theorem y_byM {op : D → Option (List D)} : byM op ρ (.dat d) = opt2 ρ (op d) := id rfl
def byk (op : D → Option (List D)) (h : Hd) (ρ1 : Envi) : R (List D) := byM op ρ1 h
@[simp] theorem y_byk {op : D → Option (List D)} {h : Hd} : byk op h ρ = byM op ρ h := id rfl
@[simp] theorem y_itBy {op : D → Option (List D)} {f : Envi → R Hd} : itBy op f ρ = (eMat f ρ).bind (byk op) := by unfold itBy byk byM; rfl
@[simp] theorem y_lstOf_l {l : List D} : lstOf (.lst l) = some l := id rfl
@[simp] theorem y_lstOf_k {l : List D} : lstOf (.klst l) = some l := id rfl
@[simp] theorem y_tupOf_t {l : List D} : tupOf (.tup l) = some l := id rfl
@[simp] theorem y_tupOf_k {l : List D} : tupOf (.ktup l) = some l := id rfl
def rngM (ρ : Envi) : Option (List D) → R (List D)
  | some [.int j] => if -16777216 < j ∧ j < 16777216 then .ok (rangeD 0 j.toNat) ρ else .stuck
  | _ => .stuck
@[simp] theorem y_rngM {j : Int} : rngM ρ (some [.int j]) = if SmallI j then .ok (nats j.toNat) ρ else .stuck := by
  rw [← rangeD_nats]; rfl
def rnk (hs : List Hd) (ρ1 : Envi) : R (List D) := rngM ρ1 (derefAll ρ1 hs)
@[simp] theorem y_rnk {hs : List Hd} : rnk hs ρ = rngM ρ (derefAll ρ hs) := id rfl
@[simp] theorem y_rng1 {g : Envi → R (List Hd)} : itRng1 g ρ = (g ρ).bind rnk := by unfold itRng1 rnk rngM; rfl
def rngM2 (ρ : Envi) : Option (List D) → R (List D)
  | some [.int i, .int j] => if -16777216 < i ∧ i < 16777216 ∧ j < 16777216 ∧ -16777216 < j ∧ j - i ≤ 16777216 then .ok (rangeD i (j - i).toNat) ρ else .stuck
  | _ => .stuck
@[simp] theorem y_rngM2 {i j : Int} : rngM2 ρ (some [.int i, .int j]) = if -16777216 < i ∧ i < 16777216 ∧ j < 16777216 ∧ -16777216 < j ∧ j - i ≤ 16777216 then .ok (rangeD i (j - i).toNat) ρ else .stuck := id rfl
def rnk2 (hs : List Hd) (ρ1 : Envi) : R (List D) := rngM2 ρ1 (derefAll ρ1 hs)
@[simp] theorem y_rnk2 {hs : List Hd} : rnk2 hs ρ = rngM2 ρ (derefAll ρ hs) := id rfl
@[simp] theorem y_rng2 {g : Envi → R (List Hd)} : itRng2 g ρ = (g ρ).bind rnk2 := by unfold itRng2 rnk2 rngM2; rfl
def lrgM (ρ : Envi) : Option D → R Hd
  | some (.int j) => if -16777216 < j ∧ j < 16777216 then .ok (.tm (.li (rangeD 0 j.toNat))) ρ else .stuck
  | _ => .stuck
@[simp] theorem y_lrgM {j : Int} : lrgM ρ (some (.int j)) = if SmallI j then .ok (.tm (.li (nats j.toNat))) ρ else .stuck := by
  rw [← rangeD_nats]; rfl
def lrk (h : Hd) (ρ1 : Envi) : R Hd := lrgM ρ1 (deref ρ1 h)
@[simp] theorem y_lrk {h : Hd} : lrk h ρ = lrgM ρ (deref ρ h) := id rfl
@[simp] theorem y_lrg1 {f : Envi → R Hd} : eLRg1 f ρ = (f ρ).frz.bind lrk := by unfold eLRg1 lrk lrgM; rfl
def enM (op : D → Option (List D)) (ρ : Envi) : List Hd → R (List D)
  | [.dat d] => opt2 ρ ((op d).map (enumD 0))
  | _ => .stuck
@[simp] theorem y_enM {op : D → Option (List D)} : enM op ρ [.dat d] = opt2 ρ ((op d).map (enumD 0)) := id rfl
def enk (op : D → Option (List D)) (hs : List Hd) (ρ1 : Envi) : R (List D) := enM op ρ1 hs
@[simp] theorem y_enk {op : D → Option (List D)} {hs : List Hd} : enk op hs ρ = enM op ρ hs := id rfl
@[simp] theorem y_enumT {g : Envi → R (List Hd)} : itEnumT g ρ = (g ρ).bind (enk tupOf) := by unfold itEnumT enk enM; rfl
@[simp] theorem y_enumL {g : Envi → R (List Hd)} : itEnumL g ρ = (g ρ).bind (enk lstOf) := by unfold itEnumL enk enM; rfl
def cok (b : Bnd) (c : Envi → R Bool) (e : Envi → R Hd) (vs : List Nat) (ds : List D) (ρ1 : Envi) : R Hd := opt3 (runComp b c e vs ds (wipeE ρ1 vs))
@[simp] theorem y_cok {b : Bnd} {c : Envi → R Bool} {e : Envi → R Hd} {vs : List Nat} {ds : List D} : cok b c e vs ds ρ = opt3 (runComp b c e vs ds (wipeE ρ vs)) := id rfl
@[simp] theorem y_comp {it : Envi → R (List D)} {b : Bnd} {c : Envi → R Bool} {e : Envi → R Hd} {vs : List Nat} : eComp it b c e vs ρ = (it ρ).bind (cok b c e vs) := id rfl
@[simp] theorem y_opt3 {r : List D} : opt3 (some (r, ρ)) = .ok (.tm (.li r)) ρ := id rfl
@[simp] theorem y_wipe0 : wipeE ρ [] = ρ := id rfl
@[simp] theorem y_wipe1 {v : Nat} {vs : List Nat} : wipeE ρ (v :: vs) = (wipeE ρ vs).set v .un := id rfl
/-! operators -/
@[simp] theorem y_add_int {x y : Int} : opAdd (.int x) (.int y) = some (.int (x + y)) := id rfl
@[simp] theorem y_sub {x y : Int} : opSub (.int x) (.int y) = some (.int (x - y)) := id rfl
@[simp] theorem y_mul {x y : Int} : opMul (.int x) (.int y) = if L2.CMul x y ∨ L2.CMulW x y then some (.int (x * y)) else none := id rfl
@[simp] theorem y_mod {x y : Int} : opMod (.int x) (.int y) = if 0 < y then some (.int (x % y)) else none := id rfl
@[simp] theorem y_div {x y : Int} : opDiv (.int x) (.int y) = if L2.CDivW x y then some (.int (x / y)) else none := id rfl
@[simp] theorem y_neg {x : Int} : opNeg (.int x) = some (.int (-x)) := id rfl
@[simp] theorem y_lt {x y : Int} : opLtA (.int x) (.int y) = some (.bl (decide (x < y))) := id rfl
@[simp] theorem y_le {x y : Int} : opLe (.int x) (.int y) = some (.bl (decide (x ≤ y))) := id rfl
@[simp] theorem y_gt {x y : Int} : opGt (.int x) (.int y) = some (.bl (decide (y < x))) := id rfl
@[simp] theorem y_ge {x y : Int} : opGe (.int x) (.int y) = some (.bl (decide (y ≤ x))) := id rfl
@[simp] theorem y_eqI {x y : Int} : opEq (.int x) (.int y) = some (.bl (decide (x = y))) := opEq_is (is_int x) (is_int y) (by decide)
@[simp] theorem y_neI {x y : Int} : opNe (.int x) (.int y) = some (.bl (!decide (x = y))) := opNe_is (is_int x) (is_int y) (by decide)
@[simp] theorem y_ixL {l : List D} {x : Int} : opIx (.lst l) (.int x) = atI l x := id rfl
@[simp] theorem y_ixK {l : List D} {x : Int} : opIx (.klst l) (.int x) = atI l x := id rfl
@[simp] theorem y_ixT {l : List D} {x : Int} : opIx (.tup l) (.int x) = atI l x := id rfl
@[simp] theorem y_ixU {l : List D} {x : Int} : opIx (.ktup l) (.int x) = atI l x := id rfl
@[simp] theorem y_at0 {l : List D} : atI (d :: l) 0 = some d := atI_nat (j := 0) rfl
@[simp] theorem y_at1 {l : List D} : atI (a :: d :: l) 1 = some d := atI_nat (j := 1) rfl
@[simp] theorem y_at2 {l : List D} : atI (a :: b :: d :: l) 2 = some d := atI_nat (j := 2) rfl
@[simp] theorem y_at3 {e : D} {l : List D} : atI (e :: a :: b :: d :: l) 3 = some d := atI_nat (j := 3) rfl
@[simp] theorem y_len {ds : List D} : fLen [.lst ds] = .fz (.int ds.length) := id rfl
@[simp] theorem y_lenK {ds : List D} : fLen [.klst ds] = .fz (.int ds.length) := id rfl
@[simp] theorem y_lenT {ds : List D} : fLen [.tup ds] = .fz (.int ds.length) := id rfl
@[simp] theorem y_lenU {ds : List D} : fLen [.ktup ds] = .fz (.int ds.length) := id rfl
@[simp] theorem y_list {ds : List D} : fList [.lst ds] = .ow (.li ds) := id rfl
@[simp] theorem y_listT {ds : List D} : fList [.tup ds] = .ow (.li ds) := id rfl
@[simp] theorem y_listU {ds : List D} : fList [.ktup ds] = .ow (.li ds) := id rfl
@[simp] theorem y_tupL {ds : List D} : fTup [.lst ds] = .fz (.ktup ds) := id rfl
/-! a list that is changed -/
def mutM (k : Nat) (mu : Own → List D → Option (D × Own)) (ρ : Envi) (ds : List D) : Option Slot → R Hd
  | some (.ow o) => mutN k ρ (mu o ds)
  | _ => .stuck
where mutN (k : Nat) (ρ : Envi) : Option (D × Own) → R Hd
  | some (d, o') => .ok (.dat d) (ρ.set k (.ow o'))
  | none => .stuck
@[simp] theorem y_mutM {k : Nat} {mu : Own → List D → Option (D × Own)} {ds : List D} : mutM k mu ρ ds (some (.ow o)) = mutM.mutN k ρ (mu o ds) := id rfl
@[simp] theorem y_mutN {k : Nat} : mutM.mutN k ρ (some (d, o)) = .ok (.dat d) (ρ.set k (.ow o)) := id rfl
@[simp] theorem y_mutEnd {k : Nat} {mu : Own → List D → Option (D × Own)} {ds : List D} : mutEnd k mu ρ ds = mutM k mu ρ ds ρ[k]? := by unfold mutEnd mutM mutM.mutN; rfl
def tyM (T : String) : Option Slot → Bool
  | some (.ow o) => ownTy o == T
  | _ => false
@[simp] theorem y_tyM_l {l : List D} : tyM "list" (some (.ow (.li l))) = true := id rfl
@[simp] theorem y_isTy {T : String} {k : Nat} : isTy T ρ k = tyM T ρ[k]? := by unfold isTy tyM; rfl
@[simp] theorem y_okT : okT ρ = true := id rfl
def muM (k : Nat) (mu : Own → List D → Option (D × Own)) : Option (List D × Envi) → R Hd
  | some (ds, ρ2) => mutEnd k mu ρ2 ds
  | none => .stuck
def muk (k : Nat) (mu : Own → List D → Option (D × Own)) (hs : List Hd) (ρ1 : Envi) : R Hd := muM k mu (matAll ρ1 hs)
@[simp] theorem y_muM {k : Nat} {mu : Own → List D → Option (D × Own)} {ds : List D} : muM k mu (some (ds, ρ)) = mutEnd k mu ρ ds := id rfl
@[simp] theorem y_muk {k : Nat} {mu : Own → List D → Option (D × Own)} {hs : List Hd} : muk k mu hs ρ = muM k mu (matAll ρ hs) := id rfl
@[simp] theorem y_mut {k : Nat} {ok : Envi → Bool} {T : String} {mu : Own → List D → Option (D × Own)} {g : Envi → R (List Hd)} : eMut k ok T mu g ρ = if (ok ρ && isTy T ρ k) = true then (g ρ).bind (muk k mu) else .stuck := by unfold eMut muk muM; rfl
@[simp] theorem y_mut0 {k : Nat} {ok : Envi → Bool} {T : String} {mu : Own → List D → Option (D × Own)} : eMut0 k ok T mu ρ = if (ok ρ && isTy T ρ k) = true then mutEnd k mu ρ [] else .stuck := id rfl
@[simp] theorem y_append {l : List D} : muAppend (.li l) [d] = if Small l.length then some (.non, .li (l ++ [d])) else none := id rfl
@[simp] theorem y_extend {l l' : List D} : muExtend (.li l) [.lst l'] = if l.length + l'.length ≤ big then some (.non, .li (l ++ l')) else none := id rfl
@[simp] theorem y_popAt {l : List D} {x : Int} : muPopAt (.li l) [.int x] = if 0 ≤ x ∧ x < l.length ∧ l.length ≤ big then (match l[x.toNat]? with | some d => some (d, .li (l.eraseIdx x.toNat)) | none => none) else none := id rfl
@[simp] theorem y_insert {l : List D} {x : Int} : muInsert (.li l) [.int x, d] = if 0 ≤ x ∧ Small x.toNat ∧ Small l.length then some (.non, .li (l.take x.toNat ++ [d] ++ l.drop x.toNat)) else none := by
  show (if 0 ≤ x ∧ x < 16777216 ∧ l.length < 16777216 then _ else _) = _
  have : (0 ≤ x ∧ x < 16777216 ∧ l.length < 16777216) ↔ (0 ≤ x ∧ Small x.toNat ∧ Small l.length) := by unfold Small; omega
  simp only [this]
end
/-! slices, methods, dicts -/
section
variable {ρ : Envi} {i n : Nat} {d a b : D} {o : Own} {c : Exc}
@[simp] theorem y_pNo : pNo ρ = .ok none ρ := id rfl
def psM (ρ : Envi) : Option D → R (Option Int)
  | some (.int i) => .ok (some i) ρ
  | _ => .stuck
def psk (h : Hd) (ρ1 : Envi) : R (Option Int) := psM ρ1 (deref ρ1 h)
@[simp] theorem y_psM {x : Int} : psM ρ (some (.int x)) = .ok (some x) ρ := id rfl
@[simp] theorem y_psk {h : Hd} : psk h ρ = psM ρ (deref ρ h) := id rfl
@[simp] theorem y_pSome {f : Envi → R Hd} : pSome f ρ = (f ρ).frz.bind psk := by unfold pSome psk psM; rfl
def slM (op : D → Option Int → Option Int → Option D) (l u : Option Int) (ρ : Envi) : Option D → R Hd
  | some d => opt1 ρ (op d l u)
  | none => .stuck
def sl3 (op : D → Option Int → Option Int → Option D) (h : Hd) (l u : Option Int) (ρ3 : Envi) : R Hd := slM op l u ρ3 (deref ρ3 h)
def sl2 (op : D → Option Int → Option Int → Option D) (hi : Envi → R (Option Int)) (h : Hd) (l : Option Int) (ρ2 : Envi) : R Hd := (hi ρ2).bind (sl3 op h l)
def sl1 (op : D → Option Int → Option Int → Option D) (lo hi : Envi → R (Option Int)) (h : Hd) (ρ1 : Envi) : R Hd := (lo ρ1).bind (sl2 op hi h)
@[simp] theorem y_slM {op : D → Option Int → Option Int → Option D} {l u : Option Int} : slM op l u ρ (some d) = opt1 ρ (op d l u) := id rfl
@[simp] theorem y_sl3 {op : D → Option Int → Option Int → Option D} {h : Hd} {l u : Option Int} : sl3 op h l u ρ = slM op l u ρ (deref ρ h) := id rfl
@[simp] theorem y_sl2 {op : D → Option Int → Option Int → Option D} {hi : Envi → R (Option Int)} {h : Hd} {l : Option Int} : sl2 op hi h l ρ = (hi ρ).bind (sl3 op h l) := id rfl
@[simp] theorem y_sl1 {op : D → Option Int → Option Int → Option D} {lo hi : Envi → R (Option Int)} {h : Hd} : sl1 op lo hi h ρ = (lo ρ).bind (sl2 op hi h) := id rfl
@[simp] theorem y_sl {op : D → Option Int → Option Int → Option D} {f : Envi → R Hd} {lo hi : Envi → R (Option Int)} : eSl op f lo hi ρ = (f ρ).frz.bind (sl1 op lo hi) := by unfold eSl sl1 sl2 sl3 slM; rfl
def leM (op : D → List D → Option D) (ρ : Envi) : Option D → Option (List D) → R Hd
  | some a, some ds => opt1 ρ (op a ds)
  | _, _ => .stuck
@[simp] theorem y_leM {op : D → List D → Option D} {ds : List D} : leM op ρ (some a) (some ds) = opt1 ρ (op a ds) := id rfl
@[simp] theorem y_lookEnd {op : D → List D → Option D} {h : Hd} {hs : List Hd} : lookEnd op ρ h hs = leM op ρ (deref ρ h) (derefAll ρ hs) := by unfold lookEnd leM; rfl
def chkM (c : D → Bool) : Option D → Bool
  | some d => c d
  | none => false
@[simp] theorem y_chkM {c : D → Bool} : chkM c (some d) = c d := id rfl
@[simp] theorem y_chk {c : D → Bool} {h : Hd} : chk c ρ h = chkM c (deref ρ h) := by unfold chk chkM; rfl
def me2 (op : D → List D → Option D) (h : Hd) (hs : List Hd) (ρ2 : Envi) : R Hd := lookEnd op ρ2 h hs
def me1 (c : D → Bool) (op : D → List D → Option D) (fa : Envi → R (List Hd)) (h : Hd) (ρ1 : Envi) : R Hd := if chk c ρ1 h = true then (fa ρ1).bind (me2 op h) else .stuck
@[simp] theorem y_me2 {op : D → List D → Option D} {h : Hd} {hs : List Hd} : me2 op h hs ρ = lookEnd op ρ h hs := id rfl
@[simp] theorem y_me1 {c : D → Bool} {op : D → List D → Option D} {fa : Envi → R (List Hd)} {h : Hd} : me1 c op fa h ρ = if chk c ρ h = true then (fa ρ).bind (me2 op h) else .stuck := id rfl
@[simp] theorem y_meth {c : D → Bool} {op : D → List D → Option D} {f : Envi → R Hd} {fa : Envi → R (List Hd)} : eMeth c op f fa ρ = (f ρ).frz.bind (me1 c op fa) := by unfold eMeth me1 me2; rfl
@[simp] theorem y_isKT {l : List D} : isKT (.ktup l) = true := id rfl
@[simp] theorem y_tyD {l : List D} : tyD "list" (.lst l) = true := id rfl
@[simp] theorem y_tyDk {l : List D} : tyD "list" (.klst l) = true := id rfl
@[simp] theorem y_is_non : opIs .non .non = some (.bl true) := id rfl
@[simp] theorem y_isNot_non : opIsNot .non .non = some (.bl false) := id rfl
@[simp] theorem y_is_tup {l : List D} : opIs (.tup l) .non = some (.bl false) := id rfl
@[simp] theorem y_isNot_tup {l : List D} : opIsNot (.tup l) .non = some (.bl true) := id rfl
end
/-! loops by a relation -/
theorem runFor_rel {ι : Type} {b : Bnd} {g : Sem} {enc : ι → D} (I : List ι → Envi → Prop) (h : ∀ x r ρ, I (x :: r) ρ → ∃ ρ1 ρ2, b (enc x) ρ = some ρ1 ∧ (g ρ1 = .nx ρ2 ∨ g ρ1 = .ct ρ2) ∧ I r ρ2) :
    ∀ ds ρ, I ds ρ → ∃ ρ', runFor b g (ds.map enc) ρ = .nx ρ' ∧ I [] ρ'
  | [], ρ, i => ⟨ρ, rfl, i⟩
  | d :: r, ρ, i => by
    obtain ⟨ρ1, ρ2, h1, h2, h3⟩ := h d r ρ i
    obtain ⟨ρ', e1, e2⟩ := runFor_rel I h r ρ2 h3
    refine ⟨ρ', ?_, e2⟩
    rw [List.map_cons]
    unfold runFor
    rw [h1]
    rcases h2 with h2 | h2
    · simp only [h2]; exact e1
    · simp only [h2]; exact e1
/-! webs -/
abbrev Ar := T3 Int Int Int
def arD (x : Ar) : D := .tup [.int x.a, .int x.b, .int x.c]
def webD (n : Nat) (as : List Ar) : D := .tup [.int n, .ktup (as.map arD)]
def arLt (x y : Ar) : Prop := x.a < y.a ∨ (x.a = y.a ∧ x.b < y.b)
structure WebOk (n : Nat) (as : List Ar) : Prop where
  n1 : 1 ≤ n
  n7 : n ≤ 7
  ar : ∀ x ∈ as, 0 ≤ x.a ∧ x.a < n ∧ 0 ≤ x.b ∧ x.b < n ∧ x.a ≠ x.b ∧ 1 ≤ x.c ∧ x.c ≤ 99
  so : as.Pairwise arLt
  len : as.length ≤ 1000
theorem is_ar (x : Ar) : Is (arD x) x := is_t3 (is_int _) (is_int _) (is_int _)
theorem is_ars (as : List Ar) : Is (.ktup (as.map arD)) (Tup.mk as) := is_ktup (iss_map is_ar as)
theorem is_web (n : Nat) (as : List Ar) : Is (webD n as) ((n : Int), Tup.mk as) := is_pair (is_int _) (is_ars as)
end Pv

set_option Elab.async false
set_option linter.all false
set_option maxRecDepth 100000
namespace Pv
open PySem PySem.Spec PyProof.Rows L2
open PySem.W (Datum DatumOrd Tup T3 T4)
/-! rows -/
def intsN (n : Nat) : List Int := (List.range n).map fun i : Nat => (i : Int)
theorem nats_intsN (n : Nat) : nats n = (intsN n).map D.int := by unfold nats intsN; rw [List.map_map]; rfl
theorem ints_len (n : Nat) : (intsN n).length = n := by unfold intsN; simp
theorem mem_intsN {n : Nat} {x : Int} : x ∈ intsN n ↔ 0 ≤ x ∧ x < n := by
  unfold intsN
  rw [List.mem_map]
  constructor
  · rintro ⟨i, hi, rfl⟩
    rw [List.mem_range] at hi
    omega
  · rintro ⟨h1, h2⟩
    exact ⟨x.toNat, List.mem_range.mpr (by omega), by omega⟩
theorem ints_lt (n : Nat) : (intsN n).Pairwise (· < ·) := by
  unfold intsN
  rw [List.pairwise_map]
  exact List.pairwise_lt_range.imp fun h => by omega
theorem ints_nodup (n : Nat) : (intsN n).Nodup := (ints_lt n).imp fun h => by omega
def rowD (r : List Int) : D := .ktup (r.map .int)
theorem is_row (r : List Int) : Is (rowD r) (Tup.mk r) := is_ktup (iss_ints r)
abbrev leI (a b : Int) : Bool := decide (a ≤ b)
theorem sortD_ints (r : List Int) : sortD (r.map .int) (r.map Datum.toD) = (r.mergeSort leI).map .int := by
  unfold sortD
  have hz : (r.map D.int).zip (r.map Datum.toD) = r.map fun x => (D.int x, (Datum.toD x : PyData)) := by
    induction r with
    | nil => rfl
    | cons x r ih => rw [List.map_cons, List.map_cons, List.zip_cons_cons, ih]; rfl
  rw [hz, ← List.map_mergeSort (r := leI) (f := fun x : Int => (D.int x, (Datum.toD x : PyData))), List.map_map]
  · rfl
  · intro a _ b _
    have := PySem.W.dataLe_int (fun x : Int => x)
    exact (congrFun (congrFun this a) b).symm
theorem sortable_ints (r : List Int) : sortableB (r.map Datum.toD) = true := by
  unfold sortableB
  rw [Bool.or_eq_true]
  refine .inr ?_
  rw [List.all_eq_true]
  intro p hp
  obtain ⟨x, _, rfl⟩ := List.mem_map.mp hp
  rfl
theorem depthB_is {α : Type} [DecidableEq α] [Datum α] (hd : Datum.depth α ≤ 60) (xs : List α) : depthB (xs.map Datum.toD) = true := by
  unfold depthB
  rw [List.all_eq_true]
  intro p hp
  obtain ⟨x, _, rfl⟩ := List.mem_map.mp hp
  exact decide_eq_true (Nat.le_trans (Datum.depth_le x) hd)
theorem fSorted_ints (r : List Int) : fSorted [.lst (r.map .int)] = .ow (.li ((r.mergeSort leI).map .int)) := by
  have h : toPys (r.map D.int) = some (r.map Datum.toD) := iss_ints r
  simp only [fSorted, lstOf, h, alikeB_is, sortable_ints, depthB_is (α := Int) (by decide) r, Bool.and_self, if_true, sortD_ints]
theorem sort_perm {n : Nat} {r : List Int} (h : r.Perm (intsN n)) : r.mergeSort leI = intsN n := by
  refine List.Perm.eq_of_pairwise (le := fun a b => a ≤ b) (fun a b _ _ h1 h2 => by omega) ?_ ((ints_lt n).imp fun h => by omega) ((List.mergeSort_perm r leI).trans h)
  have := List.pairwise_mergeSort (le := leI) (fun a b c h1 h2 => by simp [leI] at *; omega) (fun a b => by simp [leI]; omega) r
  exact this.imp fun h => by simpa [leI] using h
/-! a dict that tells the places -/
theorem enumD_zip : ∀ (i : Nat) (r : List Int), enumD i (r.map .int) = (r.zipIdx i).map fun p => .tup [.int (p.2 : Nat), .int p.1]
  | _, [] => rfl
  | i, x :: r => by rw [List.map_cons, enumD, enumD_zip (i + 1) r]; rfl
theorem putA_new {κ α : Type} [DecidableEq κ] {kvs : List (κ × α)} {k : κ} {v : α} (h : k ∉ kvs.map (·.1)) : putA kvs k v = kvs ++ [(k, v)] := by
  unfold putA
  rw [if_neg]
  intro z
  rw [List.any_eq_true] at z
  obtain ⟨x, hx, e⟩ := z
  exact h (List.mem_map.mpr ⟨x, hx, of_decide_eq_true e⟩)
theorem mergeA_new {κ α : Type} [DecidableEq κ] : ∀ (more kvs : List (κ × α)), ((kvs ++ more).map (·.1)).Nodup → mergeA kvs more = kvs ++ more
  | [], kvs, _ => by rw [List.append_nil]; rfl
  | p :: r, kvs, h => by
    have hp : p.1 ∉ kvs.map (·.1) := by
      rw [List.map_append, List.map_cons, List.nodup_append] at h
      intro z
      exact h.2.2 _ z _ List.mem_cons_self rfl
    show mergeA (putA kvs p.1 p.2) r = _
    rw [putA_new hp, mergeA_new r]
    · rw [List.append_assoc]; rfl
    · rw [List.append_assoc]; exact h
theorem zip_unzip {κ α : Type} : ∀ l : List (κ × α), (l.map (·.1)).zip (l.map (·.2)) = l
  | [] => rfl
  | x :: l => by rw [List.map_cons, List.map_cons, List.zip_cons_cons, zip_unzip l]
def placeK (r : List Int) : List (Key × D) := (r.zipIdx).map fun p => (.inl p.1, .int (p.2 : Nat))
theorem pairsK_place : ∀ (l : List (Int × Nat)), pairsK (l.map fun p => .tup [.int p.1, .int (p.2 : Nat)]) = some (l.map fun p => ((.inl p.1 : Key), D.int (p.2 : Nat)))
  | [] => rfl
  | p :: l => by
    rw [List.map_cons, List.map_cons]
    simp only [pairsK, keyOf, pairsK_place l]
theorem placeK_keys (r : List Int) : (placeK r).map (·.1) = r.map fun x => (.inl x : Key) := by
  unfold placeK
  rw [List.map_map]
  have : ((fun p : Key × D => p.1) ∘ fun p : Int × Nat => ((.inl p.1 : Key), D.int (p.2 : Nat))) = (fun x => (.inl x : Key)) ∘ Prod.fst := rfl
  rw [this, ← List.map_map, List.zipIdx_map_fst]
theorem fDictK_place {r : List Int} (h : r.Nodup) : fDictK [.lst ((r.zipIdx).map fun p => .tup [.int p.1, .int (p.2 : Nat)])] = .ow (.di (placeK r)) := by
  simp only [fDictK, lstOf, pairsK_place]
  have : mergeA [] (placeK r) = placeK r := by
    rw [mergeA_new]
    · rfl
    · rw [List.nil_append, placeK_keys]
      refine List.Pairwise.map _ (fun a b hab z => hab ?_) h
      cases z; rfl
  exact congrArg (fun z => Rf.ow (.di z)) this
theorem lookA_place : ∀ (i : Nat) (r : List Int) (x : Int), x ∈ r → lookA ((r.zipIdx i).map fun p => ((.inl p.1 : Key), D.int (p.2 : Nat))) (.inl x) = some (.int ((i + r.idxOf x : Nat) : Int))
  | i, [], x, h => nomatch h
  | i, y :: r, x, h => by
    rw [List.zipIdx_cons, List.map_cons]
    unfold lookA
    rw [List.find?_cons]
    by_cases e : y = x
    · subst e
      simp
    · have hx : x ∈ r := by
        rcases List.mem_cons.mp h with h | h
        · exact absurd h.symm e
        · exact h
      have e' : (y == x) = false := by simpa using e
      have ih := lookA_place (i + 1) r x hx
      unfold lookA at ih
      have e2 : decide (((.inl y : Key), D.int (i : Nat)).1 = .inl x) = false := by simpa using e
      rw [e2]
      simp only [ih, List.idxOf_cons, e']
      simp only [cond_false]
      congr 3
      omega
theorem opDGet_place {r : List Int} {x : Int} (h : x ∈ r) : opDGet (.dk ((placeK r).map (·.1)) ((placeK r).map (·.2))) (.int x) = some (.int (r.idxOf x : Nat)) := by
  unfold opDGet dLook
  simp only [keyOf, zip_unzip]
  have := lookA_place 0 r x h
  rw [Nat.zero_add] at this
  unfold placeK
  rw [this]
/-! what a row turns -/
def turnedL (as : List Ar) (r : List Int) : List Ar := as.filter fun x => decide (r.idxOf x.b < r.idxOf x.a)
def weightI (as : List Ar) (r : List Int) : Int := ((turnedL as r).map (·.c)).sum
theorem opIndexT_row {r : List Int} {x : Int} (h : x ∈ r) : opIndexT (rowD r) [.int x] = some (.int (r.idxOf x : Nat)) := ixD_is (is_int x) (iss_ints r) h (by decide) (.inr rfl)
structure RowOk (n : Nat) (r : List Int) : Prop where
  p : r.Perm (intsN n)
theorem RowOk.mem {n : Nat} {r : List Int} (h : RowOk n r) {x : Int} : x ∈ r ↔ 0 ≤ x ∧ x < n := by rw [h.p.mem_iff, mem_intsN]
theorem RowOk.nodup {n : Nat} {r : List Int} (h : RowOk n r) : r.Nodup := h.p.nodup_iff.mpr (ints_nodup n)
theorem RowOk.len {n : Nat} {r : List Int} (h : RowOk n r) : r.length = n := by rw [h.p.length_eq, ints_len]
theorem eraseIdx_mapL {α β : Type} (f : α → β) : ∀ (l : List α) (j : Nat), (l.map f).eraseIdx j = (l.eraseIdx j).map f
  | [], _ => rfl
  | a :: l, 0 => rfl
  | a :: l, j + 1 => by rw [List.map_cons, List.eraseIdx_cons_succ, List.eraseIdx_cons_succ, List.map_cons, eraseIdx_mapL f l j]
theorem filterMap_ite {α β : Type} (f : α → β) (p : α → Prop) [DecidablePred p] : ∀ l : List α, l.filterMap (fun x => if p x then some (f x) else none) = (l.filter fun x => decide (p x)).map f
  | [] => rfl
  | a :: l => by
    by_cases h : p a
    · rw [List.filterMap_cons_some (by rw [if_pos h]), List.filter_cons_of_pos (by simpa using h), List.map_cons, filterMap_ite f p l]
    · rw [List.filterMap_cons_none (by rw [if_neg h]), List.filter_cons_of_neg (by simpa using h), filterMap_ite f p l]
end Pv

set_option Elab.async false
set_option linter.all false
set_option maxRecDepth 100000
namespace Pv
open PySem PySem.Spec PyProof.Rows L2
open PySem.W (Datum DatumOrd Tup T3 T4)
/-! one thing of a row moved -/
def putI (r : List Int) (x : Int) (p : Nat) : List Int := (r.filter fun y => decide (y ≠ x)).take p ++ [x] ++ (r.filter fun y => decide (y ≠ x)).drop p
theorem putI_perm {r : List Int} {x : Int} (hx : x ∈ r) (hn : r.Nodup) (p : Nat) : (putI r x p).Perm r := by
  unfold putI
  have h1 : ((r.filter fun y => decide (y ≠ x)).take p ++ [x] ++ (r.filter fun y => decide (y ≠ x)).drop p).Perm (x :: r.filter fun y => decide (y ≠ x)) := by
    rw [List.append_assoc, List.singleton_append]
    refine List.perm_middle.trans (List.Perm.cons _ ?_)
    rw [List.take_append_drop]
  refine h1.trans ?_
  clear h1
  induction r with
  | nil => exact nomatch hx
  | cons a r ih =>
    rw [List.nodup_cons] at hn
    by_cases e : a = x
    · subst e
      rw [List.filter_cons_of_neg (by simp)]
      have : (r.filter fun y => decide (y ≠ a)) = r := List.filter_eq_self.mpr fun y hy => by
        have : y ≠ a := fun z => hn.1 (z ▸ hy)
        simpa using this
      rw [this]
    · have hx' : x ∈ r := by
        rcases List.mem_cons.mp hx with h | h
        · exact absurd h.symm e
        · exact h
      rw [List.filter_cons_of_pos (by simpa using e)]
      exact (List.Perm.swap _ _ _).trans ((ih hx' hn.2).cons a)
theorem putI_ok {n : Nat} {r : List Int} {x : Int} (h : RowOk n r) (hx : 0 ≤ x ∧ x < n) (p : Nat) : RowOk n (putI r x p) := ⟨(putI_perm (h.mem.mpr hx) h.nodup p).trans h.p⟩
theorem putI_self {r : List Int} {a : Int} (hn : (a :: r).Nodup) : putI (a :: r) a 0 = a :: r := by
  unfold putI
  rw [List.nodup_cons] at hn
  rw [List.filter_cons_of_neg (by simp)]
  have : (r.filter fun y => decide (y ≠ a)) = r := List.filter_eq_self.mpr fun y hy => by
    have : y ≠ a := fun z => hn.1 (z ▸ hy)
    simpa using this
  rw [this]
  simp
/-! slices of a known tuple -/
theorem opSl_take {l : List D} {p : Nat} : opSl true (.ktup l) none (some (p : Int)) = some (.ktup (l.take p)) := by
  unfold opSl
  simp only [lstOf, tupOf]
  rw [HT.sIx_none, HT.sIx_nat]
  by_cases h : min p l.length = l.length
  · rw [if_pos ⟨rfl, h⟩, List.take_of_length_le (by omega)]
  · rw [if_neg (fun z => h z.2)]
    simp only [if_true, cutD, HT.sIx_none, HT.sIx_nat, List.drop_zero, Nat.sub_zero]
    rw [← List.take_take, List.take_of_length_le (Nat.le_refl l.length)]
theorem opSl_drop {l : List D} {p : Nat} : opSl true (.ktup l) (some (p : Int)) none = some (.ktup (l.drop p)) := by
  unfold opSl
  simp only [lstOf, tupOf]
  rw [HT.sIx_none, HT.sIx_nat]
  by_cases h : min p l.length = 0
  · rw [if_pos ⟨h, rfl⟩]
    by_cases hp : p = 0
    · subst hp; rfl
    · have : l = [] := List.eq_nil_of_length_eq_zero (by omega)
      subst this; simp
  · rw [if_neg (fun z => h z.1)]
    simp only [if_true, cutD, HT.sIx_none, HT.sIx_nat]
    congr 2
    have h1 : (l.drop (min p l.length)) = l.drop p := by
      by_cases hp : p ≤ l.length
      · rw [Nat.min_eq_left hp]
      · rw [Nat.min_eq_right (by omega), List.drop_of_length_le (Nat.le_refl _), List.drop_of_length_le (by omega)]
    rw [h1, List.take_of_length_le]
    rw [List.length_drop]; omega
theorem opAdd_k {a b : List D} (h : a.length + b.length ≤ big) : opAdd (.ktup a) (.ktup b) = some (.ktup (a ++ b)) := by
  show (if _ then _ else _) = _
  rw [if_pos h]
/-! the first of the least -/
abbrev Cand := T4 Int Int Int (Tup Int)
def candD (c : Cand) : D := .tup [.int c.a, .int c.b, .int c.c, rowD c.d.items]
theorem is_cand (c : Cand) : Is (candD c) c := is_t4 (is_int _) (is_int _) (is_int _) (is_row _)
def fstMin (o : Option Cand) (c : Cand) : Option Cand := match o with
  | none => some c
  | some a => if c.a < a.a then some c else some a
def candLt (x y : Cand) : Prop := x.b < y.b ∨ (x.b = y.b ∧ x.c < y.c)
theorem lt_cand {x y : Cand} (h : candLt x y) : DatumOrd.lt y x = decide (y.a < x.a) := by
  show (if y.a = x.a then (if y.b = x.b then (if y.c = x.c then DatumOrd.lt y.d x.d else DatumOrd.lt y.c x.c) else DatumOrd.lt y.b x.b) else DatumOrd.lt y.a x.a) = _
  by_cases e : y.a = x.a
  · rw [if_pos e]
    rcases h with h | ⟨h, h'⟩
    · rw [if_neg (by omega)]
      show decide (y.b < x.b) = decide (y.a < x.a)
      rw [decide_eq_false (by omega), decide_eq_false (by omega)]
    · rw [if_pos h.symm, if_neg (by omega)]
      show decide (y.c < x.c) = decide (y.a < x.a)
      rw [decide_eq_false (by omega), decide_eq_false (by omega)]
  · rw [if_neg e]; rfl
theorem argBest_succ (bt : Nat → Nat → Bool) (k : Nat) : argBest bt (k + 1) = if bt (k + 1) (argBest bt k) = true then k + 1 else argBest bt k := rfl
theorem fold_min (C : List Cand) (x : Cand) (hs : C.Pairwise candLt) : ∀ k, k < C.length → (C.take (k + 1)).foldl fstMin none = C[argBest (fun i j => DatumOrd.lt (C.getD i x) (C.getD j x)) k]?
  | 0, h => by
    cases C with
    | nil => exact absurd h (Nat.lt_irrefl _)
    | cons c C => rfl
  | k + 1, h => by
    have ih := fold_min C x hs k (by omega)
    have hb := argBest_le (fun i j => DatumOrd.lt (C.getD i x) (C.getD j x)) k
    rw [argBest_succ]
    generalize argBest (fun i j => DatumOrd.lt (C.getD i x) (C.getD j x)) k = m at ih hb
    have hbl : m < C.length := by omega
    rw [List.take_succ_eq_append_getElem h, List.foldl_append, ih, List.getElem?_eq_getElem hbl]
    have hlt : candLt C[m] C[k + 1] := List.pairwise_iff_getElem.mp hs _ _ hbl h (by omega)
    have e := lt_cand hlt
    have g1 : C.getD (k + 1) x = C[k + 1] := by rw [List.getD_eq_getElem?_getD, List.getElem?_eq_getElem h]; rfl
    have g2 : C.getD m x = C[m] := by rw [List.getD_eq_getElem?_getD, List.getElem?_eq_getElem hbl]; rfl
    rw [g1, g2, e]
    show (if C[k + 1].a < C[m].a then some C[k + 1] else some C[m]) = _
    by_cases hc : C[k + 1].a < C[m].a
    · rw [if_pos hc, if_pos (decide_eq_true hc), List.getElem?_eq_getElem h]
    · rw [if_neg hc, if_neg (by simpa using hc), List.getElem?_eq_getElem hbl]
theorem minAt_fold {C : List Cand} (hs : C.Pairwise candLt) (hn : C ≠ []) : C[minAt C]? = C.foldl fstMin none := by
  cases C with
  | nil => exact absurd rfl hn
  | cons c C =>
    have := fold_min (c :: C) c hs C.length (by simp)
    rw [List.take_of_length_le (by simp)] at this
    exact this.symm
theorem fold_least : ∀ (C : List Cand) (o : Option Cand), (∀ b, C.foldl fstMin o = some b → (∀ c ∈ C, b.a ≤ c.a) ∧ ∀ a, o = some a → b.a ≤ a.a) ∧ (∀ b, C.foldl fstMin o = some b → b ∈ C ∨ o = some b)
  | [], o => ⟨fun b h => ⟨fun c hc => (nomatch hc), fun a e => by rw [List.foldl_nil] at h; rw [h] at e; cases e; exact Int.le_refl _⟩, fun b h => .inr h⟩
  | c :: C, o => by
    obtain ⟨i1, i2⟩ := fold_least C (fstMin o c)
    rw [List.foldl_cons]
    have hm : ∃ m, fstMin o c = some m ∧ m.a ≤ c.a ∧ (∀ a, o = some a → m.a ≤ a.a) ∧ (m = c ∨ o = some m) := by
      cases o with
      | none => exact ⟨c, rfl, Int.le_refl _, (fun a e => by cases e), .inl rfl⟩
      | some a =>
        by_cases h : c.a < a.a
        · exact ⟨c, if_pos h, Int.le_refl _, fun b e => by cases e; omega, .inl rfl⟩
        · exact ⟨a, if_neg h, by omega, fun b e => by cases e; omega, .inr rfl⟩
    obtain ⟨m, hm, h1, h2, h3⟩ := hm
    refine ⟨fun b h => ?_, fun b h => ?_⟩
    · obtain ⟨j1, j2⟩ := i1 b h
      have j2 := j2 m hm
      refine ⟨fun d hd => ?_, fun a e => by have := h2 a e; omega⟩
      rcases List.mem_cons.mp hd with rfl | hd
      · omega
      · exact j1 d hd
    · rcases i2 b h with h | h
      · exact .inl (List.mem_cons_of_mem _ h)
      · rw [hm] at h
        cases h
        rcases h3 with h3 | h3
        · exact .inl (by rw [h3]; exact List.mem_cons_self)
        · exact .inr h3
theorem fold_some : ∀ (C : List Cand) (a : Cand), ∃ b, C.foldl fstMin (some a) = some b
  | [], a => ⟨a, rfl⟩
  | c :: C, a => by
    rw [List.foldl_cons]
    show ∃ b, C.foldl fstMin (if c.a < a.a then some c else some a) = some b
    split
    · exact fold_some C c
    · exact fold_some C a
/-! the moves -/
def candOf (as : List Ar) (r : List Int) (i p : Nat) : Cand := ⟨weightI as (putI r i p), i, p, ⟨putI r i p⟩⟩
def candRow (as : List Ar) (r : List Int) (i : Nat) (ps : List Nat) : List Cand := ps.map fun p => candOf as r i p
def cands (as : List Ar) (r : List Int) (n : Nat) (is : List Nat) : List Cand := is.flatMap fun i => candRow as r i (List.range n)
theorem cands_lt (as : List Ar) (r : List Int) (n : Nat) : ∀ is : List Nat, is.Pairwise (· < ·) → (cands as r n is).Pairwise candLt ∧ ∀ c ∈ cands as r n is, ∃ i ∈ is, c.b = (i : Int)
  | [], _ => ⟨.nil, fun c h => nomatch h⟩
  | i :: is, h => by
    obtain ⟨p1, p2⟩ := List.pairwise_cons.mp h
    obtain ⟨i1, i2⟩ := cands_lt as r n is p2
    have hr : ∀ c ∈ candRow as r i (List.range n), c.b = (i : Int) := fun c hc => by
      obtain ⟨p, _, rfl⟩ := List.mem_map.mp hc
      rfl
    refine ⟨List.pairwise_append.mpr ⟨?_, i1, fun x hx y hy => ?_⟩, fun c hc => ?_⟩
    · unfold candRow
      rw [List.pairwise_map]
      exact List.pairwise_lt_range.imp fun {a b} hab => .inr ⟨rfl, by show (a : Int) < (b : Int); omega⟩
    · obtain ⟨k, hk, e⟩ := i2 y hy
      have := hr x hx
      have := p1 k hk
      exact .inl (by omega)
    · rcases List.mem_append.mp hc with hc | hc
      · exact ⟨i, List.mem_cons_self, hr c hc⟩
      · obtain ⟨k, hk, e⟩ := i2 c hc
        exact ⟨k, List.mem_cons_of_mem _ hk, e⟩
def bestC (as : List Ar) (n : Nat) (r : List Int) : Option Cand := (cands as r n (List.range n)).foldl fstMin none
def bestR (as : List Ar) (n : Nat) (r : List Int) : List Int := match bestC as n r with
  | some c => c.d.items
  | none => []
theorem cands_mem {as : List Ar} {r : List Int} {n : Nat} {c : Cand} (h : c ∈ cands as r n (List.range n)) : ∃ i p, i < n ∧ p < n ∧ c = candOf as r i p := by
  obtain ⟨i, hi, h⟩ := List.mem_flatMap.mp h
  obtain ⟨p, hp, rfl⟩ := List.mem_map.mp h
  exact ⟨i, p, List.mem_range.mp hi, List.mem_range.mp hp, rfl⟩
theorem cands_mk {as : List Ar} {r : List Int} {n i p : Nat} (hi : i < n) (hp : p < n) : candOf as r i p ∈ cands as r n (List.range n) :=
  List.mem_flatMap.mpr ⟨i, List.mem_range.mpr hi, List.mem_map.mpr ⟨p, List.mem_range.mpr hp, rfl⟩⟩
theorem cands_len (as : List Ar) (r : List Int) (n : Nat) : ∀ is : List Nat, (cands as r n is).length = is.length * n
  | [] => by simp [cands]
  | i :: is => by
    show (candRow as r i (List.range n) ++ cands as r n is).length = (is.length + 1) * n
    rw [List.length_append, cands_len as r n is, Nat.succ_mul]
    unfold candRow
    rw [List.length_map, List.length_range]; omega
theorem bestC_some {as : List Ar} {n : Nat} {r : List Int} (hn : 1 ≤ n) : ∃ i p, i < n ∧ p < n ∧ bestC as n r = some (candOf as r i p) ∧ ∀ c ∈ cands as r n (List.range n), (candOf as r i p).a ≤ c.a := by
  have hne : ∃ b, bestC as n r = some b := by
    unfold bestC
    cases e : cands as r n (List.range n) with
    | nil =>
      have := cands_len as r n (List.range n)
      rw [e, List.length_range] at this
      have h2 : 1 ≤ n * n := Nat.mul_le_mul hn hn
      rw [← this] at h2
      exact absurd h2 (by simp)
    | cons c C => exact fold_some C c
  obtain ⟨b, hb⟩ := hne
  obtain ⟨h1, h2⟩ := fold_least (cands as r n (List.range n)) none
  rcases h2 b hb with h | h
  · obtain ⟨i, p, hi, hp, rfl⟩ := cands_mem h
    exact ⟨i, p, hi, hp, hb, (h1 _ hb).1⟩
  · cases h
theorem bestR_ok {as : List Ar} {n : Nat} {r : List Int} (hn : 1 ≤ n) (hr : RowOk n r) : RowOk n (bestR as n r) ∧ weightI as (bestR as n r) ≤ weightI as r := by
  obtain ⟨i, p, hi, hp, e, hl⟩ := bestC_some (as := as) (r := r) hn
  have eb : bestR as n r = putI r i p := by unfold bestR; rw [e]; rfl
  refine ⟨by rw [eb]; exact putI_ok hr ⟨by omega, by omega⟩ p, ?_⟩
  rw [eb]
  cases r with
  | nil => have := hr.len; simp at this; omega
  | cons a r =>
    have ha := hr.mem.mp List.mem_cons_self
    have := hl _ (cands_mk (as := as) (r := a :: r) (i := a.toNat) (p := 0) (by omega) (by omega))
    have e2 : putI (a :: r) (a.toNat : Nat) 0 = a :: r := by
      rw [Int.toNat_of_nonneg ha.1]
      exact putI_self hr.nodup
    have h3 : (candOf as (a :: r) a.toNat 0).a = weightI as (a :: r) := by unfold candOf; dsimp only; rw [e2]
    rw [h3] at this
    exact this
/-! as long as it gets better -/
def stepsR (as : List Ar) (n : Nat) : Nat → List Int → List (List Int)
  | 0, _ => []
  | k + 1, r => if weightI as (bestR as n r) < weightI as r then bestR as n r :: stepsR as n k (bestR as n r) else []
theorem sum_nonneg : ∀ l : List Int, (∀ x ∈ l, 0 ≤ x) → 0 ≤ l.sum
  | [], _ => Int.le_refl _
  | x :: l, h => by
    have := sum_nonneg l fun y hy => h y (List.mem_cons_of_mem _ hy)
    have := h x List.mem_cons_self
    rw [List.sum_cons]; omega
theorem sum_le (m : Int) : ∀ l : List Int, (∀ x ∈ l, x ≤ m) → l.sum ≤ m * l.length
  | [], _ => by simp
  | x :: l, h => by
    have := sum_le m l fun y hy => h y (List.mem_cons_of_mem _ hy)
    have := h x List.mem_cons_self
    rw [List.sum_cons, List.length_cons, show ((l.length + 1 : Nat) : Int) = (l.length : Int) + 1 by omega, Int.mul_add]; omega
theorem weight_nn {n : Nat} {as : List Ar} {r : List Int} (h : WebOk n as) : 0 ≤ weightI as r ∧ weightI as r ≤ 99000 := by
  have hc : ∀ x ∈ (turnedL as r).map (·.c), 1 ≤ x ∧ x ≤ 99 := fun x hx => by
    obtain ⟨y, hy, rfl⟩ := List.mem_map.mp hx
    obtain ⟨_, _, _, _, _, h1, h2⟩ := h.ar y (List.mem_filter.mp hy).1
    exact ⟨h1, h2⟩
  refine ⟨sum_nonneg _ fun x hx => by have := hc x hx; omega, ?_⟩
  have h1 := sum_le 99 ((turnedL as r).map (·.c)) fun x hx => (hc x hx).2
  have h2 : ((turnedL as r).map (·.c)).length ≤ 1000 := by
    rw [List.length_map]
    exact Nat.le_trans (List.length_filter_le _ _) h.len
  unfold weightI
  omega
@[simp] theorem y_whileN {N : Nat} {c : Envi → R Bool} {g : Sem} {ρ : Envi} : sWhileN N c g ρ = runW c g N ρ := id rfl
theorem runW_stop {N : Nat} {c : Envi → R Bool} {g : Sem} {ρ ρ1 : Envi} (h : c ρ = .ok false ρ1) : runW c g (N + 1) ρ = .nx ρ1 := by
  unfold runW; rw [h]; rfl
theorem runW_go {N : Nat} {c : Envi → R Bool} {g : Sem} {ρ ρ1 ρ2 : Envi} (h : c ρ = .ok true ρ1) (h2 : g ρ1 = .nx ρ2) : runW c g (N + 1) ρ = runW c g N ρ2 := by
  show (c ρ).toFl _ = _
  rw [h]
  simp [h2]
end Pv

set_option Elab.async false
set_option linter.all false
set_option maxRecDepth 100000
namespace Pv
open PySem PySem.Spec PyProof.Rows L2
/-! an object with fields: what a method gets and leaves -/
structure FldW (P : Pr) (B F H : Hp) (p : Addr) (fv : List (Option V)) (fs : List Slot) : Prop where
  ob : ObR P B F H p fv
  len : fs.length = fv.length
  sl : ∃ al : Nat → Addr, (∀ (i : Nat) (s : Slot), fs[i]? = some s → SlotR P.K F H (some (p, fv)) (al i) (fv[i]?).join s) ∧
    (∀ (i : Nat) (s : Slot), fs[i]? = some s → s.isOw = true → F (al i) = none ∧ B (al i) = none) ∧
    (∀ (i j : Nat) (s t : Slot), fs[i]? = some s → fs[j]? = some t → s.isOw = true → t.isOw = true → al i = al j → i = j)
def initM (n : Nat) (ds : List D) : Envi := .self :: (ds.map Slot.fz ++ List.replicate (n - (ds.length + 1)) .un)
theorem initM_len {n : Nat} {ds : List D} (h : ds.length + 1 ≤ n) : (initM n ds).length = n := by
  unfold initM
  rw [List.length_cons, List.length_append, List.length_map, List.length_replicate]; omega
theorem initM_ow {n : Nat} {ds : List D} {i : Nat} {s : Slot} (h : (initM n ds)[i]? = some s) : s.isOw = false := by
  unfold initM at h
  cases i with
  | zero => cases h; rfl
  | succ i =>
    rw [List.getElem?_cons_succ] at h
    by_cases hi : i < ds.length
    · rw [List.getElem?_append_left (by simpa using hi), List.getElem?_map, List.getElem?_eq_getElem hi] at h
      cases h; rfl
    · rw [List.getElem?_append_right (by simpa using Nat.le_of_not_lt hi), List.getElem?_replicate] at h
      split at h
      · cases h; rfl
      · cases h
section
variable {P : Pr} {B F0 F H : Hp} {σ : L2.St} {p : Addr} {fv : List (Option V)} {fs : List Slot}
/-- at a method's start -/
theorem Wf.initM {N : List Str} {vs : List V} {ds : List D} (hn : P.n = N.length) (hl : vs.length + 1 ≤ N.length) (s : Same F H) (sb : Same B H) (r : Reps P.K F vs ds) (w : FldW P B F H p fv fs) :
    Wf P B F F H (L2.start N (.ref p :: vs)) (some (p, fv)) (Pv.initM N.length ds ++ fs) := by
  have hd := r.length
  have l1 : (L2.start N (.ref p :: vs)).length = N.length := by
    unfold L2.start
    rw [List.length_append, List.length_map, List.length_replicate, List.length_cons]; omega
  have l2 : (Pv.initM N.length ds).length = N.length := initM_len (by omega)
  obtain ⟨al, s1, s2, s3⟩ := w.sl
  have hi1 : ∀ {i : Nat}, i < N.length → (tau (L2.start N (.ref p :: vs)) (some (p, fv)))[i]? = (L2.start N (.ref p :: vs))[i]? := fun {i} hi => tau_lt (by rw [l1]; exact hi)
  have hi2 : ∀ {i : Nat}, ¬ i < N.length → (tau (L2.start N (.ref p :: vs)) (some (p, fv)))[i]? = fv[i - N.length]? := fun {i} hi => by
    show (L2.start N (.ref p :: vs) ++ fv)[i]? = _
    rw [List.getElem?_append_right (by rw [l1]; omega), l1]
  refine ⟨s, sb, Same.refl _, fun b o e => .inl e, by rw [l1, hn], ?_, ⟨fun i => al (i - N.length), fun i t h => ?_, fun i t h ht => ?_, fun i j t u h h' ht hu e => ?_⟩, fun q gv e => by cases e; exact w.ob⟩
  · show (Pv.initM N.length ds ++ fs).length = (L2.start N (.ref p :: vs) ++ fv).length
    rw [List.length_append, List.length_append, l1, l2, w.len]
  · by_cases hi : i < N.length
    · rw [List.getElem?_append_left (by rw [l2]; exact hi)] at h
      rw [hi1 hi]
      unfold Pv.initM at h
      cases i with
      | zero =>
        cases h
        refine ⟨p, fv, rfl, ?_⟩
        unfold L2.start
        rfl
      | succ i =>
        rw [List.getElem?_cons_succ] at h
        by_cases hi' : i < ds.length
        · rw [List.getElem?_append_left (by simpa using hi'), List.getElem?_map] at h
          cases e : ds[i]? with
          | none => rw [e] at h; cases h
          | some d =>
            rw [e] at h
            cases h
            obtain ⟨v, h1, h2⟩ := r.get e
            refine ⟨v, ?_, h2⟩
            unfold L2.start
            rw [List.getElem?_append_left (by simp; omega), List.getElem?_map, List.getElem?_cons_succ, h1]
            rfl
        · rw [List.getElem?_append_right (by simpa using Nat.le_of_not_lt hi'), List.getElem?_replicate] at h
          split at h
          · cases h; exact True.intro
          · cases h
    · rw [List.getElem?_append_right (by rw [l2]; omega), l2] at h
      rw [hi2 hi]
      exact s1 _ t h
  · by_cases hi : i < N.length
    · rw [List.getElem?_append_left (by rw [l2]; exact hi)] at h
      rw [initM_ow h] at ht; cases ht
    · rw [List.getElem?_append_right (by rw [l2]; omega), l2] at h
      exact s2 _ t h ht
  · by_cases hi : i < N.length
    · rw [List.getElem?_append_left (by rw [l2]; exact hi)] at h
      rw [initM_ow h] at ht; cases ht
    · by_cases hj : j < N.length
      · rw [List.getElem?_append_left (by rw [l2]; exact hj)] at h'
        rw [initM_ow h'] at hu; cases hu
      · rw [List.getElem?_append_right (by rw [l2]; omega), l2] at h h'
        have := s3 _ _ t u h h' ht hu e
        omega
/-- the fields behind a method's end -/
theorem Wf.toFld {ob : Ob} {ρ : Envi} (w : Wf P B F0 F H σ ob ρ) (h0 : ρ[0]? = some .self) : ∃ fv', ob = some (P.me, fv') ∧ FldW P B F H P.me fv' (ρ.drop P.n) := by
  obtain ⟨al, s1, s2, s3⟩ := w.sl
  obtain ⟨q, fv', e, _⟩ := s1 0 _ h0
  subst e
  have o := w.ob q fv' rfl
  have hm := o.me
  subst hm
  refine ⟨fv', rfl, o, ?_, fun i => al (P.n + i), fun i t h => ?_, fun i t h ht => ?_, fun i j t u h h' ht hu e => ?_⟩
  · have := w.len
    have t : (tau σ (some (P.me, fv'))).length = σ.length + fv'.length := by show (σ ++ fv').length = _; rw [List.length_append]
    rw [List.length_drop, this, t, w.n]; omega
  · rw [List.getElem?_drop] at h
    have := s1 _ t h
    have e2 : (tau σ (some (P.me, fv')))[P.n + i]? = fv'[i]? := by
      show (σ ++ fv')[P.n + i]? = _
      rw [List.getElem?_append_right (by rw [w.n]; omega), w.n]
      congr 1; omega
    rw [e2] at this
    exact this
  · rw [List.getElem?_drop] at h
    exact s2 _ t h ht
  · rw [List.getElem?_drop] at h h'
    have := s3 _ _ t u h h' ht hu e
    omega
open Classical in
/-- the rest of a frame, apart from its object's fields -/
theorem Wf.split {loc : Envi} (w : Wf P B F0 F H σ (some (p, fv)) (loc ++ fs)) (hl : loc.length = P.n) : ∃ B1, Same B1 H ∧ FldW P B1 F H p fv fs ∧
    ∀ F' H' fv' fs', Same F F' → Same F' H' → Same B1 H' → (∀ b o, F' b = some o → F b = some o ∨ B1 b = none ∨ ∃ vs, o = .tup vs) → FldW P B1 F' H' p fv' fs' → Wf P B F0 F' H' σ (some (p, fv')) (loc ++ fs') := by
  obtain ⟨fh, bh, ff, nw, n, len, ⟨al, s1, s2, s3⟩, hob⟩ := w
  have o := hob p fv rfl
  have lf : fs.length = fv.length := by
    have t : (tau σ (some (p, fv))).length = σ.length + fv.length := by show (σ ++ fv).length = _; rw [List.length_append]
    rw [List.length_append, t, hl, n] at len; omega
  have gl : ∀ {i : Nat} {s : Slot}, loc[i]? = some s → (loc ++ fs)[i]? = some s ∧ i < P.n := fun {i s} h => by
    have := (List.getElem?_eq_some_iff.mp h).1
    exact ⟨by rw [List.getElem?_append_left this]; exact h, by omega⟩
  have gf : ∀ {i : Nat} {s : Slot}, fs[i]? = some s → (loc ++ fs)[P.n + i]? = some s := fun {i s} h => by
    rw [List.getElem?_append_right (by omega), hl]
    rw [show P.n + i - P.n = i by omega]; exact h
  have tl : ∀ {i : Nat} (fv : List (Option V)), i < P.n → (tau σ (some (p, fv)))[i]? = σ[i]? := fun {i} fv hi => tau_lt (by rw [n]; exact hi)
  have tf : ∀ (i : Nat) (fv : List (Option V)), (tau σ (some (p, fv)))[P.n + i]? = fv[i]? := fun i fv => by
    show (σ ++ fv)[P.n + i]? = _
    rw [List.getElem?_append_right (by rw [n]; omega), n]
    congr 1; omega
  let own : Addr → Prop := fun b => ∃ i s, loc[i]? = some s ∧ s.isOw = true ∧ al i = b
  let B1 : Hp := fun b => if B b ≠ none ∨ own b then H b else none
  have b1n : ∀ {b : Addr}, B1 b = none → B b = none := fun {b} h => by
    cases e : B b with
    | none => rfl
    | some x =>
      have h : (if B b ≠ none ∨ own b then H b else none) = none := h
      rw [if_pos (.inl (by rw [e]; exact fun z => nomatch z)), bh b x e] at h
      cases h
  have b1o : ∀ {i : Nat} {s : Slot}, loc[i]? = some s → s.isOw = true → ∃ ho, H (al i) = some ho ∧ B1 (al i) = some ho := fun {i s} h hs => by
    obtain ⟨h', hi⟩ := gl h
    have x := s1 i s h'
    obtain ⟨ho, e, _⟩ := x.there hs
    refine ⟨ho, e, ?_⟩
    show (if B (al i) ≠ none ∨ own (al i) then H (al i) else none) = _
    rw [if_pos (.inr ⟨i, s, h, hs, rfl⟩), e]
  have b1p : ∀ {b : Addr}, B b = none → ¬ own b → B1 b = none := fun {b} h h' => by
    show (if B b ≠ none ∨ own b then H b else none) = none
    rw [if_neg (fun z => z.elim (fun z => z h) h')]
  have sB : Same B1 H := fun b x e => by
    have e : (if B b ≠ none ∨ own b then H b else none) = some x := e
    split at e
    · exact e
    · cases e
  refine ⟨B1, sB, ⟨⟨o.me, o.len, o.fp, b1p o.bp fun ⟨i, s, h, hs, e⟩ => ?_, o.at_⟩, lf, fun i => al (P.n + i), fun i t h => ?_, fun i t h ht => ?_, fun i j t u h h' ht hu e => ?_⟩, ?_⟩
  · obtain ⟨h', hi⟩ := gl h
    obtain ⟨ho, e2, hne, _⟩ := (s1 i s h').there hs
    obtain ⟨dx, g, e3⟩ := o.ins
    rw [e, e3] at e2
    cases e2
    exact hne _ _ _ rfl
  · have := s1 _ t (gf h)
    rw [tf i fv] at this
    exact this
  · obtain ⟨g1, g2⟩ := s2 _ t (gf h) ht
    refine ⟨g1, b1p g2 fun ⟨k, s, hk, hs, e⟩ => ?_⟩
    obtain ⟨h', hi⟩ := gl hk
    have := s3 _ _ s t h' (gf h) hs ht e
    omega
  · have := s3 _ _ t u (gf h) (gf h') ht hu e
    omega
  · intro F' H' fv' fs' sF sH sB' nw' w'
    obtain ⟨al', t1, t2, t3⟩ := w'.sl
    have fo : ∀ {i : Nat} {s : Slot}, loc[i]? = some s → s.isOw = true → F' (al i) = none := fun {i s} h hs => by
      obtain ⟨ho, e1, e2⟩ := b1o h hs
      cases e : F' (al i) with
      | none => rfl
      | some x =>
        rcases nw' _ _ e with z | z | ⟨us, rfl⟩
        · have := (s2 i s (gl h).1 hs).1
          rw [z] at this; cases this
        · rw [e2] at z; cases z
        · obtain ⟨ho', e1', _, hz⟩ := (s1 i s (gl h).1).there hs
          have q := sH _ _ e
          rw [sB' _ _ e2] at q
          rw [e1] at e1'
          cases e1'
          exact absurd (Option.some.inj q) (hz us)
    have cs : ∀ {i : Nat} {s : Slot}, (loc ++ fs')[i]? = some s → (i < P.n ∧ loc[i]? = some s) ∨ (¬ i < P.n ∧ fs'[i - P.n]? = some s) := fun {i s} h => by
      by_cases hi : i < P.n
      · rw [List.getElem?_append_left (by omega)] at h; exact .inl ⟨hi, h⟩
      · rw [List.getElem?_append_right (by omega), hl] at h; exact .inr ⟨hi, h⟩
    refine ⟨sH, fun b x e => ?_, ff.trans sF, fun b x e => ?_, n, ?_, ⟨fun i => if i < P.n then al i else al' (i - P.n), fun i s h => ?_, fun i s h hs => ?_, fun i j s t h h' hs ht e => ?_⟩, fun q gv e => ?_⟩
    · refine sB' b x ?_
      show (if B b ≠ none ∨ own b then H b else none) = some x
      rw [if_pos (.inl (by rw [e]; exact fun z => nomatch z)), bh b x e]
    · rcases nw' b x e with z | z
      · exact nw b x z
      · exact .inr (z.imp_left b1n)
    · show (loc ++ fs').length = (σ ++ fv').length
      rw [List.length_append, List.length_append, hl, n, w'.len]
    · rcases cs h with ⟨hi, h⟩ | ⟨hi, h⟩
      · simp only [hi, if_true]
        rw [tl fv' hi]
        have x := s1 i s (gl h).1
        rw [tl fv hi] at x
        cases s with
        | un => exact True.intro
        | fz d =>
          obtain ⟨u, e1, e2⟩ := x
          exact ⟨u, e1, e2.mono sF⟩
        | ow d =>
          obtain ⟨e1, ho, e2, e3⟩ := x
          obtain ⟨ho', g1, g2⟩ := b1o h rfl
          rw [e2] at g1
          cases g1
          exact ⟨e1, ho, sB' _ _ g2, e3.mono sF⟩
        | self =>
          obtain ⟨q, gv, e1, e2⟩ := x
          cases e1
          exact ⟨p, fv', rfl, e2⟩
      · simp only [hi, if_false]
        have := t1 _ s h
        have e : (tau σ (some (p, fv')))[i]? = fv'[i - P.n]? := by
          have := tf (i - P.n) fv'
          rw [show P.n + (i - P.n) = i by omega] at this
          exact this
        rw [e]
        exact this
    · rcases cs h with ⟨hi, h⟩ | ⟨hi, h⟩
      · simp only [hi, if_true]
        exact ⟨fo h hs, (s2 i s (gl h).1 hs).2⟩
      · simp only [hi, if_false]
        obtain ⟨g1, g2⟩ := t2 _ s h hs
        exact ⟨g1, b1n g2⟩
    · rcases cs h with ⟨hi, h⟩ | ⟨hi, h⟩
      · rcases cs h' with ⟨hj, h'⟩ | ⟨hj, h'⟩
        · simp only [hi, hj, if_true] at e
          exact s3 i j s t (gl h).1 (gl h').1 hs ht e
        · simp only [hi, hj, if_true, if_false] at e
          obtain ⟨ho, _, g⟩ := b1o h hs
          have := (t2 _ t h' ht).2
          rw [← e, g] at this; cases this
      · rcases cs h' with ⟨hj, h'⟩ | ⟨hj, h'⟩
        · simp only [hi, hj, if_true, if_false] at e
          obtain ⟨ho, _, g⟩ := b1o h' ht
          have := (t2 _ s h hs).2
          rw [e, g] at this; cases this
        · simp only [hi, hj, if_false] at e
          have := t3 _ _ s t h h' hs ht e
          omega
    · cases e
      exact ⟨w'.ob.me, w'.ob.len, w'.ob.fp, o.bp, w'.ob.at_⟩
end
end Pv

set_option Elab.async false
set_option linter.all false
set_option maxRecDepth 100000
namespace Pv
open PySem PySem.Spec PyProof.Rows L2
/-! methods -/
abbrev pP (K : PySem.W.Frag) (C : Addr) (fns : List Str) (p : Addr) : Pr := ⟨K, fun _ => .none, 0, fns, C, p⟩
theorem FldW.cast {P P' : Pr} {B F H : Hp} {p : Addr} {fv : List (Option V)} {fs : List Slot} (w : FldW P B F H p fv fs) (h1 : P'.K = P.K) (h2 : P'.fns = P.fns) (h3 : P'.C = P.C) (h4 : P'.me = P.me) : FldW P' B F H p fv fs := by
  obtain ⟨⟨me, l, fp, bp, a⟩, len, sl⟩ := w
  refine ⟨⟨by rw [h4]; exact me, by rw [h2]; exact l, fp, bp, by rw [h2, h3]; exact a⟩, len, by rw [h1]; exact sl⟩
/-- a method's promise: its fields' slots ahead and behind -/
def spM (K : PySem.W.Frag) (C : Addr) (fns : List Str) (n : Nat) (fm : List Slot → List D → Option (D × List Slot)) : Sp := fun vs H Q E => vs.length = n + 1 ∧ ∃ p vs', vs = .ref p :: vs' ∧ ∃ B F ds fv fs, Same B H ∧ Same F H ∧ Reps K F vs' ds ∧ FldW (pP K C fns p) B F H p fv fs ∧
  ∃ d fs', fm fs ds = some (d, fs') ∧ ∀ F' H' v fv', Same F F' → Same F' H' → Same B H' → (∀ b o, F' b = some o → F b = some o ∨ B b = none ∨ ∃ vs, o = .tup vs) → FldW (pP K C fns p) B F' H' p fv' fs' → Rep K F' v d → Q v H'
def endM (n : Nat) (ρ : Envi) (d : D) : Option (D × List Slot) := match ρ[0]? with
  | some Pv.Slot.self => some (d, ρ.drop n)
  | _ => none
def endF (n : Nat) : Fl → Option (D × List Slot)
  | .nx ρ => endM n ρ .non
  | .ret (.fz d) ρ => endM n ρ d
  | .ret (.ow o) ρ => endM n ρ o.toD
  | _ => none
def fmOf (n : Nat) (g : Sem) (fs : List Slot) (ds : List D) : Option (D × List Slot) := endF n (g (initM n ds ++ fs))
theorem endM_some {n : Nat} {ρ : Envi} {d d' : D} {fs : List Slot} (h : endM n ρ d = some (d', fs)) : ρ[0]? = some .self ∧ d' = d ∧ fs = ρ.drop n := by
  unfold endM at h
  split at h
  · rename_i e
    cases h
    exact ⟨e, rfl, rfl⟩
  · cases h
theorem fin_genM {K : PySem.W.Frag} {ec : Exc → Value} {C : Addr} {fns : List Str} {N : List Str} {n : Nat} {ts : TS} {g : Sem} {vs : List V} {H : Hp} {Q : VK} {E : XK} (hs : ∀ p, SndS ⟨K, ec, N.length, fns, C, p⟩ (fun cls d _ H => E cls d H) ts g) (hn : n + 1 ≤ N.length)
    (h : spM K C fns n (fmOf N.length g) vs H Q E) : ts { nx := fun _ H' => Q .non H', rt := Q } (L2.start N vs) H := by
  obtain ⟨hl, p, vs', rfl, B, F, ds, fv, fs, sB, sF, r, w, d, fs', e, q⟩ := h
  rw [List.length_cons] at hl
  have wf := Wf.initM (P := ⟨K, ec, N.length, fns, C, p⟩) (N := N) rfl (by omega) sF sB r (w.cast rfl rfl rfl rfl)
  refine hs p B F F H _ _ _ _ wf ?_
  unfold fmOf at e
  have fin : ∀ {F' H' σ' ob' ρ' u d'}, Wf (⟨K, ec, N.length, fns, C, p⟩ : Pr) B F F' H' σ' ob' ρ' → Same F F' → Rep K F' u d' → endM N.length ρ' d' = some (d, fs') → Q u H' := fun {F' H' σ' ob' ρ' u d'} w' s r e => by
    obtain ⟨e0, rfl, rfl⟩ := endM_some e
    obtain ⟨fv', rfl, w2⟩ := w'.toFld e0
    exact q F' H' u fv' s w'.fh w'.bh w'.nw (w2.cast rfl rfl rfl rfl) r
  cases eg : g (initM N.length ds ++ fs) with
  | nx ρ' =>
    rw [eg] at e
    exact fun F' H' σ' ob' w' s => fin w' s .non e
  | ret v ρ' =>
    rw [eg] at e
    cases v with
    | fz d' =>
      rintro B' F' H' σ' ob' u w' s ⟨rfl, r⟩
      exact fin w' s r e
    | ow o =>
      rintro B' F' H' σ' ob' u w' s ⟨a, ho, rfl, rfl, e3, e4, e5⟩
      exact fin (w'.tmpFrz e4 e3) (s.trans (same_new e4)) ((e5.mono (same_new e4)).rep upd_same) e
  | exc c ρ' => rw [eg] at e; cases e
  | bk ρ' => rw [eg] at e; cases e
  | ct ρ' => rw [eg] at e; cases e
  | stuck => rw [eg] at e; cases e
section
variable {P : Pr} {m : Bool} {W : WX} {te ta tb to : TE} {f g : Envi → R Hd} {n : Nat} {fa : Envi → R (List Hd)} {tr : TA} {B F0 F H : Hp} {σ : L2.St} {ob : Ob} {ρ : Envi}
/-- the local i is the object -/
theorem Wf.self (w : Wf P B F0 F H σ ob ρ) {i : Nat} (hi : i < P.n) (e : ρ[i]? = some .self) : ∃ fv, ob = some (P.me, fv) ∧ σ[i]? = some (some (.ref P.me)) := by
  obtain ⟨al, s1, _⟩ := w.sl
  obtain ⟨q, fv, e1, e2⟩ := s1 i _ e
  subst e1
  have hm := (w.ob q fv rfl).me
  subst hm
  have hi' : i < σ.length := by rw [w.n]; exact hi
  rw [tau_lt hi'] at e2
  refine ⟨fv, rfl, ?_⟩
  rw [List.getElem?_eq_getElem hi'] at e2 ⊢
  rw [show σ[i] = some (.ref P.me) from e2]
/-- self.f -/
def eFld (i k : Nat) : Envi → R Hd := fun ρ => match ρ[i]?, ρ[k]? with
  | some .self, some (.fz d) => .ok (.dat d) ρ
  | some .self, some (.ow _) => .ok (.fl k) ρ
  | _, _ => .stuck
theorem fld_at (w : Wf P B F0 F H σ (some (P.me, fv)) ρ) {k j : Nat} {x : Str} {v : V} (hk : k = P.n + j) (hx : P.fns[j]? = some x) (e : (tau σ (some (P.me, fv)))[k]? = some (some v)) : ∃ dx fs, H P.me = some (.ins P.C dx fs) ∧ fs.lookup x = some v := by
  obtain ⟨_, _, _, _, dx, fs, h1, h2, _⟩ := w.ob P.me fv rfl
  refine ⟨dx, fs, h1, ?_⟩
  rw [h2 j x hx]
  have : (σ ++ fv)[k]? = some (some v) := e
  rw [hk, List.getElem?_append_right (by rw [w.n]; omega), w.n, show P.n + j - P.n = j by omega] at this
  rw [this]; rfl
theorem snd_fld {i k j : Nat} {x : Str} (hi : i < P.n) (hk : k = P.n + j) (hx : P.fns[j]? = some x) (hc : Cls P.K P.C) (hn : NoAttr P.K P.C x) : SndE P m W (tFld P.K (tVar i) x) (eFld i k) := fun B F0 F H σ ob ρ Q w q => by
  unfold eFld at q
  split at q
  · rename_i d e0 e1
    obtain ⟨fv, rfl, e2⟩ := w.self hi e0
    obtain ⟨al, s1, _⟩ := w.sl
    obtain ⟨u, h1, h2⟩ := s1 k _ e1
    have h1' : (tau σ (some (P.me, fv)))[k]? = some (some u) := by
      cases z : (tau σ (some (P.me, fv)))[k]? with
      | none => rw [z] at h1; cases h1
      | some o => rw [z] at h1; exact congrArg some h1
    obtain ⟨dx, fs, g1, g2⟩ := fld_at w hk hx h1'
    exact ⟨_, e2, P.me, P.C, dx, fs, u, rfl, g1, hc, hn, g2, q B F H _ u w (Same.refl _) (fun _ => rfl) ⟨rfl, h2⟩⟩
  · rename_i o e0 e1
    obtain ⟨fv, rfl, e2⟩ := w.self hi e0
    obtain ⟨a, ho, h1, h2, _⟩ := w.owned e1
    obtain ⟨dx, fs, g1, g2⟩ := fld_at w hk hx h1
    exact ⟨_, e2, P.me, P.C, dx, fs, _, rfl, g1, hc, hn, g2, q B F H _ _ w (Same.refl _) (fun _ => rfl) ⟨rfl, by omega, h1⟩⟩
  · exact q.elim
def isSelf (i : Nat) : Envi → Bool := fun ρ => match ρ[i]? with
  | some .self => true
  | _ => false
theorem sp_fld {i k j : Nat} {x : Str} (hi : i < P.n) (hk : k = P.n + j) (hx : P.fns[j]? = some x) (hc : Cls P.K P.C) (hn : NoAttr P.K P.C x) : SndP P (tFld P.K (tVar i) x) k (isSelf i) := fun B F0 F H σ ob ρ Q v w e0 e q => by
  unfold isSelf at e0
  split at e0
  · rename_i e1
    obtain ⟨fv, rfl, e2⟩ := w.self hi e1
    obtain ⟨dx, fs, g1, g2⟩ := fld_at w hk hx e
    exact ⟨_, e2, P.me, P.C, dx, fs, v, rfl, g1, hc, hn, g2, q⟩
  · cases e0
/-- self.m(..) -/
def selfM (N : Nat) (fm : List Slot → List D → Option (D × List Slot)) (ρ : Envi) (ds : List D) : R Hd := match fm (ρ.drop N) ds with
  | some (d, fs') => .ok (.dat d) (ρ.take N ++ fs')
  | none => .stuck
def eSelf (i N : Nat) (fm : List Slot → List D → Option (D × List Slot)) (g : Envi → R (List Hd)) : Envi → R Hd := fun ρ => if isSelf i ρ = true then (g ρ).bind fun hs ρ1 => match matAll ρ1 hs with
    | some (ds, ρ2) => if isSelf i ρ2 = true then selfM N fm ρ2 ds else .stuck
    | none => .stuck
  else .stuck
theorem isSelf_at {i : Nat} {ρ : Envi} (h : isSelf i ρ = true) : ρ[i]? = some .self := by
  unfold isSelf at h
  split at h
  · assumption
  · cases h
theorem snd_self {i N : Nat} {x : Str} {fm : List Slot → List D → Option (D × List Slot)} (hi : i < P.n) (hN : P.n = N) (hx : x ∉ P.fns) (ha : SndA P true W n tr fa) : SndE P true W (tMeth P.C x (spM P.K P.C P.fns n fm) [] (fun _ _ _ => False) (tVar i) tr) (eSelf i N fm fa) := fun B F0 F H σ ob ρ Q w q => by
  subst hN
  unfold eSelf at q
  split at q
  · rename_i h0
    obtain ⟨fv, rfl, e2⟩ := w.self hi (isSelf_at h0)
    obtain ⟨_, _, _, _, dx, fs, g1, _, g3, _⟩ := w.ob P.me fv rfl
    refine ⟨_, e2, P.me, dx, fs, rfl, g1, g3 x hx, ?_⟩
    refine ha B F0 F H σ _ ρ _ w (Post.of_bind (k := fun hs ρ1 => match matAll ρ1 hs with | some (ds, ρ2) => if isSelf i ρ2 = true then selfM P.n fm ρ2 ds else R.stuck | none => R.stuck) q ?_)
    rintro hs ρ1 B' F1 H1 ob1 ys w1 s1 i1 ⟨⟨rfl, r1⟩, hl⟩ q
    cases e : matAll ρ1 hs with
    | none => rw [e] at q; exact q.elim
    | some y =>
      obtain ⟨ds, ρ2⟩ := y
      rw [e] at q
      try dsimp only at q
      split at q
      · rename_i h2
        obtain ⟨F2, w2, s2, r2⟩ := w1.matAll r1 e
        obtain ⟨fv2, rfl, e3⟩ := w2.self hi (isSelf_at h2)
        unfold selfM at q
        cases ef : fm (ρ2.drop P.n) ds with
        | none => rw [ef] at q; exact q.elim
        | some z =>
          obtain ⟨d, fs'⟩ := z
          rw [ef] at q
          have hl2 : (ρ2.take P.n).length = P.n := by
            have t : (tau σ (some (P.me, fv2))).length = σ.length + fv2.length := by show (σ ++ fv2).length = _; rw [List.length_append]
            have := w2.len
            rw [t, w2.n] at this
            rw [List.length_take]; omega
          have w3 : Wf P B' F0 F2 H1 σ (some (P.me, fv2)) (ρ2.take P.n ++ ρ2.drop P.n) := by rw [List.take_append_drop]; exact w2
          obtain ⟨B1, sB, fw, back⟩ := w3.split hl2
          rw [List.append_nil]
          refine ⟨by rw [List.length_cons, hl], P.me, ys, rfl, B1, F2, ds, fv2, _, sB, w2.fh, r2, fw.cast rfl rfl rfl rfl, d, fs', ef, fun F' H' v fv' k1 k2 k3 k4 fw' rv => ?_⟩
          have w4 := back F' H' fv' fs' k1 k2 k3 k4 (fw'.cast rfl rfl rfl rfl)
          exact q B' F' H' _ v w4 ((s1.trans s2).trans k1) (fun z => nomatch z) ⟨rfl, rv⟩
      · exact q.elim
  · exact q.elim
/-! C(..).m(..): an object that nobody keeps -/
def unsN (n : Nat) : List Slot := List.replicate n .un
def mkM (nf : Nat) (fi fm : List Slot → List D → Option (D × List Slot)) (ds ds2 : List D) : Option D := match fi (unsN nf) ds with
  | some (.non, fs1) => (fm fs1 ds2).map (·.1)
  | _ => none
theorem FldW.new {K : PySem.W.Frag} {C : Addr} {fns : List Str} {x dx : Addr} {F H : Hp} (hx : H x = none) (hd : H dx = none) (hne : dx ≠ x) (s : Same F H) : FldW (pP K C fns x) H F (upd (upd H dx (.own x)) x (.ins C dx [])) x (List.replicate fns.length none) (unsN fns.length) := by
  refine ⟨⟨rfl, List.length_replicate, s.free hx, hx, dx, [], upd_same, fun j f h => ?_, fun g _ => rfl, List.nodup_nil⟩, by unfold unsN; rw [List.length_replicate, List.length_replicate], fun _ => 0, fun i t h => ?_, fun i t h ht => ?_, fun i j t u h h' ht => ?_⟩
  · rw [List.getElem?_replicate]
    split <;> rfl
  all_goals
    unfold unsN at h
    rw [List.getElem?_replicate] at h
    split at h
    · cases h
      first | exact True.intro | cases ht
    · cases h
end
end Pv

set_option Elab.async false
set_option linter.all false
set_option maxRecDepth 100000
namespace Pv
open PySem PySem.Spec PyProof.Rows L2
/-! self.f = e -/
theorem nodup_sub {α : Type} [BEq α] [LawfulBEq α] : ∀ {l m : List α}, l.Nodup → (∀ x ∈ l, x ∈ m) → l.length ≤ m.length
  | [], _, _, _ => Nat.zero_le _
  | a :: l, m, h, s => by
    rw [List.nodup_cons] at h
    have ha := s a List.mem_cons_self
    have ih := nodup_sub (l := l) (m := m.erase a) h.2 fun x hx => (List.mem_erase_of_ne (fun (e : x = a) => h.1 (by rw [← e]; exact hx))).mpr (s x (List.mem_cons_of_mem _ hx))
    have := List.length_erase_of_mem ha
    have := List.length_pos_of_mem ha
    rw [List.length_cons]; omega
theorem putF_keys (f : Str) (v : V) : ∀ fs : List (Str × V), (putF f v fs).map (·.1) = if f ∈ fs.map (·.1) then fs.map (·.1) else fs.map (·.1) ++ [f]
  | [] => rfl
  | (g, x) :: r => by
    show ((if g = f then (g, v) :: r else (g, x) :: putF f v r)).map (·.1) = _
    by_cases e : g = f
    · subst e
      rw [if_pos rfl, if_pos (by simp)]; rfl
    · rw [if_neg e, List.map_cons, putF_keys f v r]
      by_cases h : f ∈ r.map (·.1)
      · rw [if_pos h, if_pos (by simpa using .inr (by simpa using h))]; rfl
      · rw [if_neg h, if_neg (by
          rw [List.map_cons, List.mem_cons]
          exact fun z => z.elim (fun z => e z.symm) h)]; rfl
theorem lookup_none {f : Str} : ∀ {fs : List (Str × V)}, fs.lookup f = none → f ∉ fs.map (·.1)
  | [], _ => by simp
  | (g, x) :: r, h => by
    rw [List.lookup_cons] at h
    split at h
    · cases h
    · rename_i e
      rw [List.map_cons, List.mem_cons]
      exact fun z => z.elim (fun z => by subst z; simp at e) (lookup_none h)
section
variable {P : Pr} {m : Bool} {W : WX} {te : TE} {f : Envi → R Hd} {B B0 F0 F H : Hp} {σ : L2.St} {fv : List (Option V)} {ρ : Envi} {fs : List (Str × V)}
theorem Wf.setFld {x : Str} {v : V} {k j : Nat} {a0 : Addr} {s : Slot} {dx : Addr} (w : Wf P B0 F0 F H σ (some (P.me, fv)) ρ) (hk : k = P.n + j) (hx : P.fns[j]? = some x) (hnd : P.fns.Nodup) (hB : Same B B0)
    (hins : H P.me = some (.ins P.C dx fs)) (hl : (∀ (j : Nat) (f : Str), P.fns[j]? = some f → fs.lookup f = (fv[j]? : Option (Option V)).join) ∧ (∀ g, g ∉ P.fns → fs.lookup g = none) ∧ (fs.map (·.1)).Nodup)
    (hs : SlotR P.K F H (some (P.me, fv)) a0 (some v) s) (hself : s ≠ .self) (hsep : s.isOw = true → F a0 = none ∧ B a0 = none ∧ B0 a0 ≠ none) :
    Wf P B F0 F (upd H P.me (.ins P.C dx (putF x v fs))) σ (some (P.me, fv.set j (some v))) (ρ.set k s) := by
  obtain ⟨fh, bh, ff, nw, n, len, ⟨al, s1, s2, s3⟩, hob⟩ := w
  have o := hob P.me fv rfl
  have hj : j < fv.length := by rw [o.len]; exact (List.getElem?_eq_some_iff.mp hx).1
  have tl : (tau σ (some (P.me, fv))).length = σ.length + fv.length := by show (σ ++ fv).length = _; rw [List.length_append]
  have hkρ : k < ρ.length := by rw [len, tl, n]; omega
  have te : tau σ (some (P.me, fv.set j (some v))) = (tau σ (some (P.me, fv))).set k (some v) := by
    show σ ++ fv.set j (some v) = (σ ++ fv).set k (some v)
    rw [List.set_append, if_neg (by rw [n]; omega), n, show k - P.n = j by omega]
  have bme : B P.me = none := hB.free o.bp
  have neq : ∀ {i : Nat} {t : Slot}, ρ[i]? = some t → t.isOw = true → al i ≠ P.me := fun {i t} h ht e => by
    obtain ⟨ho, e2, hne, _⟩ := (s1 i t h).there ht
    rw [e, hins] at e2
    cases e2
    exact hne _ _ _ rfl
  have rs : ∀ {a : Addr} {u : Option V} {t : Slot}, (t.isOw = true → a ≠ P.me) → SlotR P.K F H (some (P.me, fv)) a u t → SlotR P.K F (upd H P.me (.ins P.C dx (putF x v fs))) (some (P.me, fv.set j (some v))) a u t := fun {a u t} hne h => by
    cases t with
    | un => exact True.intro
    | fz d => exact h
    | ow d =>
      obtain ⟨e1, ho, e2, e3⟩ := h
      exact ⟨e1, ho, by rw [upd_ne (hne rfl)]; exact e2, e3⟩
    | self =>
      obtain ⟨q, gv, e1, e2⟩ := h
      cases e1
      exact ⟨P.me, _, rfl, e2⟩
  refine ⟨fun b y e => ?_, fun b y e => ?_, ff, fun b y e => ?_, n, ?_, ⟨fun i => if i = k then a0 else al i, fun i t h => ?_, fun i t h ht => ?_, fun i i' t u h h' ht hu e => ?_⟩, fun q gv e => ?_⟩
  · rw [upd_ne (ne_of_none e o.fp)]; exact fh b y e
  · rw [upd_ne (ne_of_none e bme)]; exact bh b y (hB b y e)
  · rcases nw b y e with z | z
    · exact .inl z
    · exact .inr (z.imp_left hB.free)
  · rw [te, List.length_set, List.length_set]; exact len
  · rw [te]
    by_cases hi : i = k
    · subst hi
      rw [List.getElem?_set_self hkρ] at h
      cases h
      rw [List.getElem?_set_self (by rw [← len]; exact hkρ)]
      simp only [if_true]
      refine rs (fun ho e => ?_) hs
      have := (hsep ho).2.2
      rw [e, o.bp] at this
      exact this rfl
    · rw [List.getElem?_set_ne (fun z => hi z.symm)] at h ⊢
      simp only [hi, if_false]
      exact rs (neq h) (s1 i t h)
  · by_cases hi : i = k
    · subst hi
      rw [List.getElem?_set_self hkρ] at h
      cases h
      simp only [if_true]
      exact ⟨(hsep ht).1, (hsep ht).2.1⟩
    · rw [List.getElem?_set_ne (fun z => hi z.symm)] at h
      simp only [hi, if_false]
      exact ⟨(s2 i t h ht).1, hB.free (s2 i t h ht).2⟩
  · by_cases hi : i = k
    · by_cases hi' : i' = k
      · rw [hi, hi']
      · subst hi
        rw [List.getElem?_set_self hkρ] at h
        cases h
        rw [List.getElem?_set_ne (fun z => hi' z.symm)] at h'
        simp only [hi', if_true, if_false] at e
        have := (s2 i' u h' hu).2
        rw [← e] at this
        exact absurd this (hsep ht).2.2
    · by_cases hi' : i' = k
      · subst hi'
        rw [List.getElem?_set_self hkρ] at h'
        cases h'
        rw [List.getElem?_set_ne (fun z => hi z.symm)] at h
        simp only [hi, if_true, if_false] at e
        have := (s2 i t h ht).2
        rw [e] at this
        exact absurd this (hsep hu).2.2
      · rw [List.getElem?_set_ne (fun z => hi z.symm)] at h
        rw [List.getElem?_set_ne (fun z => hi' z.symm)] at h'
        simp only [hi, hi', if_false] at e
        exact s3 i i' t u h h' ht hu e
  · cases e
    refine ⟨rfl, by rw [List.length_set]; exact o.len, o.fp, bme, dx, putF x v fs, upd_same, fun j' g hg => ?_, fun g hg => ?_, ?_⟩
    · rw [lookup_putF]
      by_cases hgx : g = x
      · subst hgx
        have : j' = j := by
          have h1 := (List.getElem?_eq_some_iff.mp hg)
          have h2 := (List.getElem?_eq_some_iff.mp hx)
          exact (List.getElem_inj hnd).mp (h1.2.trans h2.2.symm)
        subst this
        rw [if_pos rfl, List.getElem?_set_self hj]; rfl
      · rw [if_neg hgx, List.getElem?_set_ne (fun z => by subst z; rw [hx] at hg; exact hgx (Option.some.inj hg).symm)]
        exact hl.1 j' g hg
    · rw [lookup_putF, if_neg (fun z => hg (by rw [z]; exact List.mem_of_getElem? hx))]
      exact hl.2.1 g hg
    · rw [putF_keys]
      split
      · exact hl.2.2
      · rename_i hn
        rw [List.nodup_append]
        exact ⟨hl.2.2, List.nodup_cons.mpr ⟨by simp, List.nodup_nil⟩, fun a ha b hb e => hn (by rw [← show b = x by simpa using hb, ← e]; exact ha)⟩
def setFH (i k : Nat) (ρ : Envi) (h : Hd) : Fl := if isSelf i ρ = true then (match h with
  | .tm o => .nx (ρ.set k (.ow o))
  | .dat d => .nx (ρ.set k (.fz d))
  | _ => .stuck) else .stuck
/-- self.f = e; e new, or data -/
def sSetF (i k : Nat) (f : Envi → R Hd) : Sem := fun ρ => (f ρ).toFl fun h ρ1 => setFH i k ρ1 h
theorem snd_setF {i k j : Nat} {x : Str} (hi : i < P.n) (hk : k = P.n + j) (hx : P.fns[j]? = some x) (hnd : P.fns.Nodup) (h9 : P.fns.length < 1000) (hc : Cls P.K P.C) (hn : NoAttr P.K P.C x) (he : SndE P true W te f) : SndS P W (sFld P.K (tVar i) te x) (sSetF i k f) := fun B F0 F H σ ob ρ D w q => by
  refine he B F0 F H σ ob ρ _ w (Post.of_toFl (H := H) (ρ := ρ) q ?_)
  intro a ρ' B' F' H' ob' v w' s i' r q
  unfold setFH at q
  split at q
  · rename_i h0
    obtain ⟨fv, rfl, e2⟩ := w'.self hi (isSelf_at h0)
    obtain ⟨me, ol, _, _, dx, fs, g1, g2, g3, g4⟩ := w'.ob P.me fv rfl
    have hlen : fs.length < 1000 := by
      have := nodup_sub (m := P.fns) g4 fun y hy => by
        by_cases z : y ∈ P.fns
        · exact z
        · exact absurd hy (lookup_none (g3 y z))
      rw [List.length_map] at this
      omega
    refine ⟨_, e2, P.me, P.C, dx, fs, rfl, g1, hc, hn, hlen, ?_⟩
    cases a with
    | tm o =>
      obtain ⟨a, ho, rfl, rfl, e3, e4, e5⟩ := r
      have w2 := w'.setFld (B := B) (v := .ref a) (a0 := a) (s := .ow o) hk hx hnd (same_new e3) g1 ⟨g2, g3, g4⟩ ⟨rfl, ho, w'.getH, e5⟩ (fun z => nomatch z) fun _ => ⟨e4, e3, by rw [upd_same]; exact fun z => nomatch z⟩
      exact q F' _ σ _ w2 s
    | dat d =>
      obtain ⟨rfl, r⟩ := r
      have w2 := w'.setFld (B := B') (v := v) (a0 := 0) (s := .fz d) hk hx hnd (Same.refl _) g1 ⟨g2, g3, g4⟩ ⟨v, rfl, r⟩ (fun z => nomatch z) fun z => nomatch z
      exact q F' _ σ _ w2 s
    | _ => exact q.elim
  · exact q.elim
end
end Pv

set_option Elab.async false
set_option linter.all false
set_option maxRecDepth 100000
namespace Pv
open PySem PySem.Spec PyProof.Rows L2
/-! {} and {k: x} -/
section
variable {P : Pr} {m : Bool} {W : WX} {te ta tb : TE} {f g : Envi → R Hd} {n : Nat} {fa : Envi → R (List Hd)} {tr : TA} {B F0 F H : Hp} {σ : L2.St} {ob : Ob} {ρ : Envi}
def eNew (o : Own) : Envi → R Hd := fun ρ => .ok (.tm o) ρ
theorem snd_dnewK : SndE P m W tDNewK (eNew (.di [])) := fun B F0 F H σ ob ρ Q w q p hp =>
  q _ F _ ob _ (w.tmp hp) (Same.refl _) (fun _ => rfl) ⟨p, _, rfl, rfl, w.bh.free hp, w.fh.free hp, [], rfl, Nat.zero_le _, .nil⟩
theorem snd_dnewT : SndE P m W tDNewT (eNew (.ti [])) := fun B F0 F H σ ob ρ Q w q p hp =>
  q _ F _ ob _ (w.tmp hp) (Same.refl _) (fun _ => rfl) ⟨p, _, rfl, rfl, w.bh.free hp, w.fh.free hp, [], rfl, Nat.zero_le _, .nil⟩
def dsp2 (h k : Hd) (ρ2 : Envi) : R Hd := match h, k with
  | .dat a, .dat d => match keyOf a with
    | some k => .ok (.tm (.di [(k, d)])) ρ2
    | none => .stuck
  | _, _ => .stuck
def dsp1 (g : Envi → R Hd) (h : Hd) (ρ1 : Envi) : R Hd := (eMat g ρ1).bind (dsp2 h)
def eDisp1 (f g : Envi → R Hd) : Envi → R Hd := fun ρ => (eMat f ρ).bind (dsp1 g)
theorem eMat_ok {f : Envi → R Hd} {ρ ρ' : Envi} {h : Hd} (e : eMat f ρ = .ok h ρ') : ∃ d, h = .dat d := by
  unfold eMat at e
  cases e1 : (f ρ).frz with
  | stuck => rw [e1] at e; cases e
  | exc c ρ1 => rw [e1] at e; cases e
  | ok k ρ1 =>
    rw [e1] at e
    have e : (match mat ρ1 k with | some (d, ρ2) => R.ok (Hd.dat d) ρ2 | none => R.stuck) = .ok h ρ' := e
    split at e
    · cases e; exact ⟨_, rfl⟩
    · cases e
theorem HR_dat {B B' F : Hp} {v : V} {h : Hd} {d : D} (e : h = .dat d) (r : HR P B B' F σ ob v h) : B' = B ∧ Rep P.K F v d := by subst e; exact r
theorem snd_disp1 (ha : SndE P m W ta f) (hb : SndE P m W tb g) : SndE P m W (tDisp [(ta, tb)]) (eDisp1 f g) := fun B F0 F H σ ob ρ Q w q p hp => by
  have fp := w.fh.free hp
  have bp := w.bh.free hp
  refine snd_mat ha _ F0 F _ σ ob ρ _ (w.tmp hp) ?_
  -- what follows is asked under the larger B
  have key : ∀ {α β : Type} {Rel : Hp → Hp → Ob → β → α → Prop} {Q' : β → Hp → Prop} {r : R α} {m' : Bool}, (∀ a ρ', r = .ok a ρ' → ∀ B' F' H' ob' v, Wf P B' F0 F' H' σ ob' ρ' → Same F F' → (m' = false → ob' = ob) → Rel B' F' ob' v a → Q' v H') →
      (∀ c ρ', r = .exc c ρ' → ∀ F' H' ob', Wf P (upd B p (.dK [])) F0 F' H' σ ob' ρ' → Same F F' → W (P.ec c) none σ H') → r ≠ .stuck → Post P (upd B p (.dK [])) F0 F σ ob m' W Rel Q' r := fun {α β Rel Q' r m'} h1 h2 h3 => by
    cases r with
    | ok a ρ' => exact fun B' F' H' ob' v w s i r => h1 a ρ' rfl B' F' H' ob' v w s i r
    | exc c ρ' => exact fun F' H' ob' w s => h2 c ρ' rfl F' H' ob' w s
    | stuck => exact h3 rfl
  cases e1 : eMat f ρ with
  | stuck => unfold eDisp1 at q; rw [e1] at q; exact q.elim
  | exc c ρ1 =>
    intro F' H' ob' w' s
    unfold eDisp1 at q
    rw [e1] at q
    exact q F' H' ob' (w'.lessB (same_new bp)) s
  | ok h ρ1 =>
    intro B1 F1 H1 ob1 x w1 s1 i1 r1
    unfold eDisp1 at q
    rw [e1] at q
    have q : Post P B F0 F σ ob m W (RelE P B σ) Q ((eMat g ρ1).bind (dsp2 h)) := q
    obtain ⟨a, rfl⟩ : ∃ a, h = .dat a := eMat_ok e1
    obtain ⟨rfl, r1⟩ := r1
    refine snd_mat hb _ F0 F1 H1 σ ob1 ρ1 _ w1 ?_
    cases e2 : eMat g ρ1 with
    | stuck => rw [e2] at q; exact q.elim
    | exc c ρ2 =>
      intro F' H' ob' w' s
      rw [e2] at q
      exact q F' H' ob' (w'.lessB (same_new bp)) (s1.trans s)
    | ok k ρ2 =>
      intro B2 F2 H2 ob2 y w2 s2 i2 r2
      rw [e2] at q
      obtain ⟨d, rfl⟩ : ∃ d, k = .dat d := eMat_ok e2
      obtain ⟨rfl, r2⟩ := r2
      have q : Post P B F0 F σ ob m W (RelE P B σ) Q (match keyOf a with | some k => R.ok (Hd.tm (.di [(k, d)])) ρ2 | none => R.stuck) := q
      cases e3 : keyOf a with
      | none => rw [e3] at q; exact q.elim
      | some k =>
        rw [e3] at q
        have f2 : F2 p = none := by
          cases z : F2 p with
          | none => rfl
          | some o =>
            rcases w2.nw p o z with z' | z' | ⟨us, rfl⟩
            · have := w.ff p o z'
              rw [fp] at this; cases this
            · rw [upd_same] at z'; cases z'
            · have z' := w2.fh _ _ z
              rw [w2.getH] at z'; cases z'
        refine ⟨w2.getH, [(k, y)], ?_, by show 1 ≤ 15; decide, ?_⟩
        · have := keyOf_rep r1 e3
          rw [this]; rfl
        · exact q _ F2 _ ob2 _ (w2.tmpUpd f2) (s1.trans s2) (fun z => (i2 z).trans (i1 z)) ⟨p, _, rfl, rfl, bp, f2, [(k, y)], rfl, by show 1 ≤ sizeLine; decide, .cons ⟨rfl, r2⟩ .nil⟩
/-! C(..).m(k) -/
theorem FldW.H0 {P : Pr} {B F H : Hp} {p : Addr} {fv : List (Option V)} {fs : List Slot} (w : FldW P B F H p fv fs) {B' : Hp} (h : Same B' B) : FldW P B' F H p fv fs := by
  obtain ⟨⟨me, l, fp, bp, a⟩, len, al, s1, s2, s3⟩ := w
  exact ⟨⟨me, l, fp, h.free bp, a⟩, len, al, s1, fun i s e hs => ⟨(s2 i s e hs).1, h.free (s2 i s e hs).2⟩, s3⟩
/-- an object made for one call of a method; the method's arguments a number, or none -/
def eMk (nf : Nat) (fi fm : List Slot → List D → Option (D × List Slot)) (g : Envi → R (List Hd)) (ds2 : List D) : Envi → R Hd := fun ρ => (g ρ).bind fun hs ρ1 => match matAll ρ1 hs with
  | some (ds, ρ2) => match mkM nf fi fm ds ds2 with
    | some d => .ok (.dat d) ρ2
    | none => .stuck
  | none => .stuck
theorem mk_call {K : PySem.W.Frag} {C : Addr} {fns : List Str} {n n2 : Nat} {fi fm : List Slot → List D → Option (D × List Slot)} {F H : Hp} {vs vs2 : List V} {ds ds2 : List D} {d : D} {Q : VK} {mt : Str} (hm : mt ∉ fns) (hv : vs.length = n) (hv2 : vs2.length = n2) (s : Same F H) (r : Reps K F vs ds) (r2 : ∀ F, Reps K F vs2 ds2) (e : mkM fns.length fi fm ds ds2 = some d)
    (q : ∀ F' H' v, Same F F' → Same F' H' → Same H H' → (∀ b o, F' b = some o → F b = some o ∨ H b = none ∨ ∃ vs, o = .tup vs) → Rep K F' v d → Q v H') (x dx : Addr) (hx : H x = none) (hd : H dx = none) (hne : dx ≠ x) :
    spM K C fns n fi (.ref x :: vs) (upd (upd H dx (.own x)) x (.ins C dx [])) (fun v H2 => v = .non ∧ ∃ a dx fs, V.ref x = .ref a ∧ H2 a = some (.ins C dx fs) ∧ fs.lookup mt = none ∧ spM K C fns n2 fm (.ref x :: vs2) H2 Q fun _ _ _ => False) fun _ _ _ => False := by
  unfold mkM at e
  split at e
  · rename_i fs1 e1
    obtain ⟨⟨d', fs2⟩, e2, rfl⟩ := Option.map_eq_some_iff.mp e
    have hh : Same H (upd (upd H dx (.own x)) x (.ins C dx [])) := (same_new hd).trans (same_new (by rw [upd_ne (Ne.symm hne)]; exact hx))
    refine ⟨by rw [List.length_cons, hv], x, vs, rfl, H, F, ds, _, _, hh, s.trans hh, r, FldW.new hx hd hne s, .non, fs1, e1, fun F1 H1 v fv1 k1 k2 k3 k4 w1 rv => ?_⟩
    cases rv
    obtain ⟨_, _, _, _, dx1, g1, h1, _, h3, _⟩ := w1.ob
    refine ⟨rfl, x, dx1, g1, rfl, h1, h3 mt hm, by rw [List.length_cons, hv2], x, vs2, rfl, H, F1, ds2, fv1, fs1, k3, k2, r2 F1, w1, d', fs2, e2, fun F2 H2 v fv2 j1 j2 j3 j4 w2 rv => ?_⟩
    refine q F2 H2 v (k1.trans j1) j2 j3 (fun b o z => ?_) rv
    rcases j4 b o z with z | z
    · exact k4 b o z
    · exact .inr z
  · cases e
theorem snd_mk {fns : List Str} {C : Addr} {n2 : Nat} {fi fm : List Slot → List D → Option (D × List Slot)} {mt : Str} {t2 : TA} {vs2 : List V} {ds2 : List D} (hm : mt ∉ fns) (h2 : ∀ σ H Q, Q vs2 H → t2 σ H Q) (hv2 : vs2.length = n2) (r2 : ∀ F, Reps P.K F vs2 ds2) (ha : SndA P m W n tr fa) :
    SndE P m W (tMeth C mt (spM P.K C fns n2 fm) [] (fun _ _ _ => False) (tMake C (spM P.K C fns n fi) [] (fun _ _ _ => False) tr) t2) (eMk fns.length fi fm fa ds2) := fun B F0 F H σ ob ρ Q w q => by
  refine ha B F0 F H σ ob ρ _ w (Post.of_bind (k := fun hs ρ1 => match matAll ρ1 hs with | some (ds, ρ2) => (match mkM fns.length fi fm ds ds2 with | some d => R.ok (Hd.dat d) ρ2 | none => R.stuck) | none => R.stuck) q ?_)
  rintro hs ρ1 B' F1 H1 ob1 ys w1 s1 i1 ⟨⟨rfl, r1⟩, hl⟩ q
  cases e : matAll ρ1 hs with
  | none => rw [e] at q; exact q.elim
  | some y =>
    obtain ⟨ds, ρ2⟩ := y
    rw [e] at q
    have q : Post P B' F0 F σ ob m W (RelE P B' σ) Q (match mkM fns.length fi fm ds ds2 with | some d => R.ok (Hd.dat d) ρ2 | none => R.stuck) := q
    cases e2 : mkM fns.length fi fm ds ds2 with
    | none => rw [e2] at q; exact q.elim
    | some d =>
      rw [e2] at q
      obtain ⟨F2, w2, s2, rr⟩ := w1.matAll r1 e
      intro x dx hx hd hne
      rw [List.append_nil]
      have := mk_call (C := C) (n := n) (n2 := n2) (Q := Q) hm hl hv2 w2.fh rr r2 e2 (fun F' H' v k1 k2 k3 k4 rv => q B' F' H' ob1 v (w2.call k1 k2 k3 k4) ((s1.trans s2).trans k1) i1 ⟨rfl, rv⟩) x dx hx hd hne
      obtain ⟨z0, p, vs', z1, B1, F', ds', fv, fs, z2, z3, z4, z5, d', fs', z6, z7⟩ := this
      refine ⟨z0, p, vs', z1, B1, F', ds', fv, fs, z2, z3, z4, z5, d', fs', z6, fun F'' H'' v fv' k1 k2 k3 k4 k5 k6 => ?_⟩
      obtain ⟨y1, a, dx', g, y2, y3, y4, y5⟩ := z7 F'' H'' v fv' k1 k2 k3 k4 k5 k6
      refine ⟨y1, a, dx', g, y2, y3, y4, h2 _ _ _ ?_⟩
      rw [List.append_nil]
      exact y5
end
end Pv

set_option Elab.async false
set_option linter.all false
set_option maxRecDepth 100000
namespace Pv
open PySem PySem.Spec PyProof.Rows L2
/-! x = C(..), and what follows to the def's end -/
def noSelf (ρ : Envi) : Bool := ρ.all fun s => match s with
  | .self => false
  | _ => true
def letEnd (n : Nat) : Fl → Fl
  | .ret v _ => .ret v (unsN n)
  | .exc c _ => .exc c (unsN n)
  | _ => .stuck
def sLet (i n nf : Nat) (fi : List Slot → List D → Option (D × List Slot)) (g : Envi → R (List Hd)) (rest : Sem) : Sem := fun ρ => (g ρ).toFl fun hs ρ1 => match matAll ρ1 hs with
  | some (ds, ρ2) => if (decide (ρ2.length = n) && noSelf ρ2) = true then (match fi (unsN nf) ds with
    | some (.non, fs1) => letEnd n (rest (ρ2.set i .self ++ fs1))
    | _ => .stuck) else .stuck
  | none => .stuck
section
variable {P : Pr} {m : Bool} {W : WX} {n : Nat} {fa : Envi → R (List Hd)} {tr : TA} {B F0 F H : Hp} {σ : L2.St} {ob : Ob} {ρ : Envi} {D : Ends}
theorem Wf.bare {P' : Pr} {B' : Hp} (w : Wf P' B' F0 F H σ ob ρ) (hn : P'.n = P.n) : Wf P B' F0 F H σ none (unsN P.n) := by
  obtain ⟨fh, bh, ff, nw, n, len, _, _⟩ := w
  have get : ∀ {i : Nat} {s : Slot}, (unsN P.n)[i]? = some s → s = .un := fun {i s} h => by
    unfold unsN at h
    rw [List.getElem?_replicate] at h
    split at h
    · cases h; rfl
    · cases h
  refine ⟨fh, bh, ff, nw, n.trans hn, ?_, ⟨fun _ => 0, fun i s h => (by rw [get h]; exact True.intro), (fun i s h hs => by rw [get h] at hs; cases hs), (fun i j s t h h' hs => by rw [get h] at hs; cases hs)⟩, fun q gv e => nomatch e⟩
  show (unsN P.n).length = σ.length
  unfold unsN
  rw [List.length_replicate, n, hn]
theorem letEnd_post {P' : Pr} (hn : P'.n = P.n) (hK : P'.K = P.K) (he : P'.ec = P.ec) : ∀ {r : Fl}, PostS P B F0 F W D (letEnd P.n r) → PostS P' B F0 F W D r
  | .ret v ρ', h => fun B' F' H' σ' ob' u w s r => h B' F' H' σ' none u (w.bare hn) s (by
      cases v with
      | fz d => exact ⟨r.1, by rw [← hK]; exact r.2⟩
      | ow o =>
        obtain ⟨a, ho, e1, e2, e3, e4, e5⟩ := r
        exact ⟨a, ho, e1, e2, e3, e4, by rw [← hK]; exact e5⟩)
  | .exc c ρ', h => fun F' H' σ' ob' w s => by rw [he]; exact h F' H' σ' none (w.bare hn) s
  | .nx _, h => h.elim
  | .bk _, h => h.elim
  | .ct _, h => h.elim
  | .stuck, h => h
/-- a frame that has come by an object -/
theorem Wf.gain {fns : List Str} {C x : Addr} {F1 H1 : Hp} {fv : List (Option V)} {fs : List Slot} {i : Nat} (w : Wf P B F0 F H σ ob ρ) (hl : ρ.length = P.n) (hns : noSelf ρ = true) (hi : i < P.n) (k1 : Same F F1) (k2 : Same F1 H1) (k3 : Same H H1) (k4 : ∀ b o, F1 b = some o → F b = some o ∨ H b = none ∨ ∃ vs, o = .tup vs)
    (hx : H x = none) (fw : FldW (pP P.K C fns x) H F1 H1 x fv fs) : Wf ⟨P.K, P.ec, P.n, fns, C, x⟩ B F0 F1 H1 (σ.set i (some (.ref x))) (some (x, fv)) (ρ.set i .self ++ fs) := by
  obtain ⟨fh, bh, ff, nw, n, len, ⟨al, s1, s2, s3⟩, hob⟩ := w
  obtain ⟨al', t1, t2, t3⟩ := fw.sl
  have ls : (σ.set i (some (V.ref x))).length = P.n := by rw [List.length_set]; exact n
  have lr : (ρ.set i Pv.Slot.self).length = P.n := by rw [List.length_set]; exact hl
  have tl : ∀ {j : Nat}, j < P.n → (tau (σ.set i (some (.ref x))) (some (x, fv)))[j]? = (σ.set i (some (.ref x)))[j]? := fun {j} hj => tau_lt (by rw [ls]; exact hj)
  have tf : ∀ {j : Nat}, ¬ j < P.n → (tau (σ.set i (some (.ref x))) (some (x, fv)))[j]? = fv[j - P.n]? := fun {j} hj => by
    show (σ.set i (some (.ref x)) ++ fv)[j]? = _
    rw [List.getElem?_append_right (by rw [ls]; omega), ls]
  have cs : ∀ {j : Nat} {s : Slot}, (ρ.set i Pv.Slot.self ++ fs)[j]? = some s → (j < P.n ∧ j = i ∧ s = .self) ∨ (j < P.n ∧ j ≠ i ∧ ρ[j]? = some s) ∨ (¬ j < P.n ∧ fs[j - P.n]? = some s) := fun {j s} h => by
    by_cases hj : j < P.n
    · rw [List.getElem?_append_left (by rw [lr]; exact hj)] at h
      by_cases e : j = i
      · subst e
        rw [List.getElem?_set_self (by rw [hl]; exact hi)] at h
        cases h
        exact .inl ⟨hj, rfl, rfl⟩
      · rw [List.getElem?_set_ne (fun z => e z.symm)] at h
        exact .inr (.inl ⟨hj, e, h⟩)
    · rw [List.getElem?_append_right (by rw [lr]; omega), lr] at h
      exact .inr (.inr ⟨hj, h⟩)
  have told : ∀ {j : Nat}, j < P.n → (tau σ ob)[j]? = σ[j]? := fun {j} hj => tau_lt (by rw [n]; exact hj)
  have alive : ∀ {j : Nat} {s : Slot}, ρ[j]? = some s → s.isOw = true → ∃ ho, H (al j) = some ho := fun {j s} h hs => by
    obtain ⟨ho, e, _⟩ := (s1 j s h).there hs
    exact ⟨ho, e⟩
  refine ⟨k2, bh.trans k3, ff.trans k1, fun b o e => ?_, ls, ?_, ⟨fun j => if j < P.n then al j else al' (j - P.n), fun j s h => ?_, fun j s h hs => ?_, fun j j' s t h h' hs ht e => ?_⟩, fun q gv e => ?_⟩
  · rcases k4 b o e with z | z
    · exact nw b o z
    · exact .inr (z.imp_left bh.free)
  · show (ρ.set i Pv.Slot.self ++ fs).length = (σ.set i (some (.ref x)) ++ fv).length
    rw [List.length_append, List.length_append, lr, ls, fw.len]
  · rcases cs h with ⟨hj, rfl, rfl⟩ | ⟨hj, hji, h⟩ | ⟨hj, h⟩
    · rw [tl hj, List.getElem?_set_self (by rw [n]; exact hj)]
      exact ⟨x, fv, rfl, rfl⟩
    · simp only [hj, if_true]
      rw [tl hj, List.getElem?_set_ne (fun z => hji z.symm)]
      have y := s1 j s h
      rw [told hj] at y
      cases s with
      | un => exact True.intro
      | fz d => obtain ⟨u, e1, e2⟩ := y; exact ⟨u, e1, e2.mono k1⟩
      | ow o => obtain ⟨e1, ho, e2, e3⟩ := y; exact ⟨e1, ho, k3 _ _ e2, e3.mono k1⟩
      | self =>
        unfold noSelf at hns
        rw [List.all_eq_true] at hns
        have := hns _ (List.mem_of_getElem? h)
        cases this
    · simp only [hj, if_false]
      rw [tf hj]
      exact t1 _ s h
  · rcases cs h with ⟨hj, rfl, rfl⟩ | ⟨hj, hji, h⟩ | ⟨hj, h⟩
    · cases hs
    · simp only [hj, if_true]
      obtain ⟨ho, e, _, hz⟩ := (s1 j s h).there hs
      refine ⟨?_, (s2 j s h hs).2⟩
      cases z : F1 (al j) with
      | none => rfl
      | some o =>
        rcases k4 _ _ z with y | y | ⟨us, rfl⟩
        · have := (s2 j s h hs).1
          rw [y] at this; cases this
        · rw [e] at y; cases y
        · have q := k2 _ _ z
          rw [k3 _ _ e] at q
          exact absurd (Option.some.inj q) (hz us)
    · simp only [hj, if_false]
      exact ⟨(t2 _ s h hs).1, bh.free (t2 _ s h hs).2⟩
  · rcases cs h with ⟨hj, rfl, rfl⟩ | ⟨hj, hji, h⟩ | ⟨hj, h⟩
    · cases hs
    · rcases cs h' with ⟨hj', rfl, rfl⟩ | ⟨hj', hji', h'⟩ | ⟨hj', h'⟩
      · cases ht
      · simp only [hj, hj', if_true] at e
        exact s3 j j' s t h h' hs ht e
      · simp only [hj, hj', if_true, if_false] at e
        obtain ⟨ho, z⟩ := alive h hs
        have := (t2 _ t h' ht).2
        rw [← e, z] at this; cases this
    · rcases cs h' with ⟨hj', rfl, rfl⟩ | ⟨hj', hji', h'⟩ | ⟨hj', h'⟩
      · cases ht
      · simp only [hj, hj', if_true, if_false] at e
        obtain ⟨ho, z⟩ := alive h' ht
        have := (t2 _ s h hs).2
        rw [e, z] at this; cases this
      · simp only [hj, hj', if_false] at e
        have := t3 _ _ s t h h' hs ht e
        omega
  · cases e
    exact ⟨rfl, fw.ob.len, fw.ob.fp, bh.free hx, fw.ob.at_⟩
theorem snd_let {fns : List Str} {C : Addr} {i : Nat} {fi : List Slot → List Pv.D → Option (Pv.D × List Slot)} {ts : TS} {rest : Sem} {N : Nat} (hi : i < P.n) (hN : P.n = N) (ha : SndA P m W n tr fa) (hr : ∀ x, SndS ⟨P.K, P.ec, P.n, fns, C, x⟩ W ts rest) :
    SndS P W (tSeq (tAsg (tMake C (spM P.K C fns n fi) [] (fun _ _ _ => False) tr) (gName i)) ts) (sLet i N fns.length fi fa rest) := fun B F0 F H σ ob ρ D w q => by
  subst hN
  refine ha B F0 F H σ ob ρ _ w (Post.of_toFl (H := H) (ρ := ρ) q ?_)
  rintro hs ρ1 B' F1 H1 ob1 ys w1 s1 i1 ⟨⟨rfl, r1⟩, hl⟩ q
  cases e : matAll ρ1 hs with
  | none => rw [e] at q; exact q.elim
  | some y =>
    obtain ⟨ds, ρ2⟩ := y
    rw [e] at q
    try dsimp only at q
    split at q
    · rename_i hc
      rw [Bool.and_eq_true] at hc
      obtain ⟨F2, w2, s2, rr⟩ := w1.matAll r1 e
      intro x dx hx hd hne
      rw [List.append_nil]
      have hh : Same H1 (upd (upd H1 dx (.own x)) x (.ins C dx [])) := (same_new hd).trans (same_new (by rw [upd_ne (Ne.symm hne)]; exact hx))
      split at q
      · rename_i fs1 e1
        refine ⟨by rw [List.length_cons, hl], x, ys, rfl, H1, F2, ds, _, _, hh, w2.fh.trans hh, rr, FldW.new hx hd hne w2.fh, .non, fs1, e1, fun F3 H3 v fv k1 k2 k3 k4 fw rv => ?_⟩
        cases rv
        refine ⟨rfl, ?_⟩
        have w3 := w2.gain (i := i) (of_decide_eq_true hc.1) hc.2 hi k1 k2 k3 k4 hx fw
        refine hr x B' F0 F3 H3 _ _ _ D w3 (letEnd_post (P := P) (P' := ⟨P.K, P.ec, P.n, fns, C, x⟩) rfl rfl rfl ?_)
        exact q.shift ((s1.trans s2).trans k1)
      · exact q.elim
    · exact q.elim
end
end Pv

set_option Elab.async false
set_option linter.all false
set_option maxRecDepth 100000
namespace Pv
open PySem PySem.Spec PyProof.Rows L2
/-! what the top has written of a class -/
structure Mth (K : PySem.W.Frag) (C : Addr) (x qual : Str) (st : Stmt) (ps : List Str) where
  f : Addr
  fd : FuncData
  F : Fun K x qual st f fd
  b : Binds K fd ps []
  m : Meth K C x f
structure Ini (K : PySem.W.Frag) (C : Addr) (qual : Str) (st : Stmt) (ps : List Str) where
  f : Addr
  fd : FuncData
  F : Fun K "__init__" qual st f fd
  b : Binds K fd ps []
  mo : Mk K C f
theorem nmem {l : List Str} {x : Str} (h : l.contains x = false) : x ∉ l := fun z => by
  rw [List.contains_iff_mem.mpr z] at h
  cases h
theorem pass0E {X : Cx} : Passes (L2.CX X.prog X.w) X (fun _ _ _ => False) := fun pins σ H s e s' I c => passAt takes0 σ pins H s e s' I c
theorem ktup_K {K : PySem.W.Frag} {a : Addr} {its : List Value} {n : Nat} {sl : Array (Option Value)} {vs : List V} (h : K.lookup a = some ⟨.type "tuple", none, .seq its.toArray n, sl⟩) (hs : its.length ≤ sizeLine) (r : Vals vs its) : KTup K (fun _ => none) a vs :=
  .inr ⟨_, its.toArray, n, h, rfl, rfl, rfl, by simpa using hs, by simpa using r⟩
theorem op_eqK {X : Cx} {K : PySem.W.Frag} (hu : X.A.units + 64 < cLine) (hK : X.K = K := by rfl) : OpR X (compareOp .Eq) (rEqD K) := by subst hK; exact op_eqD hu
theorem op_neK {X : Cx} {K : PySem.W.Frag} (hu : X.A.units + 64 < cLine) (hK : X.K = K := by rfl) : OpR X (compareOp .NotEq) (rNeD K) := by subst hK; exact op_neD hu
theorem pg_tupK {X : Cx} {K : PySem.W.Frag} {es : List Expr} {k : Nat} {t : TGs} {n : Nat} {pos : Pos} (hc : X.calm = true) (h : PGs X es t)
    (hn : (assignEach es X.env).length = n := by rfl) (hst : (assignEach es X.env).findIdx? (·.1) = none := by rfl) (hK : X.K = K := by rfl) : PG X (.Tuple es k pos) (gTup K n t) := by subst hK; exact pg_tup hc h hn hst
theorem ix_seqK {X : Cx} {K : PySem.W.Frag} (hK : X.K = K := by rfl) : IxR X (rIx K) := by subst hK; exact ix_seq
end Pv

set_option Elab.async false
set_option linter.all false
set_option maxRecDepth 100000
namespace Pv
open PySem PySem.Spec PyProof.Rows L2
/-! equations to compute with: objects, dicts -/
section
variable {ρ : Envi} {i k n : Nat} {d a b : D} {o : Own} {c : Exc}
def fldM (k : Nat) (ρ : Envi) : Option Slot → Option Slot → R Hd
  | some .self, some (.fz d) => .ok (.dat d) ρ
  | some .self, some (.ow _) => .ok (.fl k) ρ
  | _, _ => .stuck
@[simp] theorem y_fld : eFld i k ρ = fldM k ρ ρ[i]? ρ[k]? := by unfold eFld fldM; rfl
@[simp] theorem y_fldM_fz : fldM k ρ (some .self) (some (.fz d)) = .ok (.dat d) ρ := id rfl
@[simp] theorem y_fldM_ow : fldM k ρ (some .self) (some (.ow o)) = .ok (.fl k) ρ := id rfl
def selM : Option Slot → Bool
  | some .self => true
  | _ => false
@[simp] theorem y_isSelf : isSelf i ρ = selM ρ[i]? := by unfold isSelf selM; rfl
@[simp] theorem y_selM : selM (some .self) = true := id rfl
def sfM (N : Nat) (fm : List Slot → List D → Option (D × List Slot)) (i : Nat) : Option (List D × Envi) → R Hd
  | some (ds, ρ2) => if isSelf i ρ2 = true then selfM N fm ρ2 ds else .stuck
  | none => .stuck
def sfk (i N : Nat) (fm : List Slot → List D → Option (D × List Slot)) (hs : List Hd) (ρ1 : Envi) : R Hd := sfM N fm i (matAll ρ1 hs)
@[simp] theorem y_sfM {N : Nat} {fm : List Slot → List D → Option (D × List Slot)} {ds : List D} : sfM N fm i (some (ds, ρ)) = if isSelf i ρ = true then selfM N fm ρ ds else .stuck := id rfl
@[simp] theorem y_sfk {N : Nat} {fm : List Slot → List D → Option (D × List Slot)} {hs : List Hd} : sfk i N fm hs ρ = sfM N fm i (matAll ρ hs) := id rfl
@[simp] theorem y_self {N : Nat} {fm : List Slot → List D → Option (D × List Slot)} {g : Envi → R (List Hd)} : eSelf i N fm g ρ = if isSelf i ρ = true then (g ρ).bind (sfk i N fm) else .stuck := by unfold eSelf sfk sfM; rfl
def smM (N : Nat) (ρ : Envi) : Option (D × List Slot) → R Hd
  | some (d, fs') => .ok (.dat d) (ρ.take N ++ fs')
  | none => .stuck
@[simp] theorem y_selfM {N : Nat} {fm : List Slot → List D → Option (D × List Slot)} {ds : List D} : selfM N fm ρ ds = smM N ρ (fm (ρ.drop N) ds) := by unfold selfM smM; rfl
@[simp] theorem y_smM {N : Nat} {fs : List Slot} : smM N ρ (some (d, fs)) = .ok (.dat d) (ρ.take N ++ fs) := id rfl
def stfk (i k : Nat) (h : Hd) (ρ1 : Envi) : Fl := setFH i k ρ1 h
@[simp] theorem y_stfk {h : Hd} : stfk i k h ρ = setFH i k ρ h := id rfl
@[simp] theorem y_setF {f : Envi → R Hd} : sSetF i k f ρ = (f ρ).toFl (stfk i k) := id rfl
@[simp] theorem y_setFH_tm : setFH i k ρ (.tm o) = if isSelf i ρ = true then .nx (ρ.set k (.ow o)) else .stuck := id rfl
@[simp] theorem y_setFH_dat : setFH i k ρ (.dat d) = if isSelf i ρ = true then .nx (ρ.set k (.fz d)) else .stuck := id rfl
@[simp] theorem y_new : eNew o ρ = .ok (.tm o) ρ := id rfl
@[simp] theorem y_dsp2 : dsp2 (.dat (.int i)) (.dat d) ρ = .ok (.tm (.di [(.inl (i : Int), d)])) ρ := id rfl
@[simp] theorem y_dsp1 {g : Envi → R Hd} {h : Hd} : dsp1 g h ρ = (eMat g ρ).bind (dsp2 h) := id rfl
@[simp] theorem y_disp1 {f g : Envi → R Hd} : eDisp1 f g ρ = (eMat f ρ).bind (dsp1 g) := id rfl
def mkkM (nf : Nat) (fi fm : List Slot → List D → Option (D × List Slot)) (ds2 : List D) : Option (List D × Envi) → R Hd
  | some (ds, ρ2) => match mkM nf fi fm ds ds2 with
    | some d => .ok (.dat d) ρ2
    | none => .stuck
  | none => .stuck
def mkk (nf : Nat) (fi fm : List Slot → List D → Option (D × List Slot)) (ds2 : List D) (hs : List Hd) (ρ1 : Envi) : R Hd := mkkM nf fi fm ds2 (matAll ρ1 hs)
theorem mkkM_some {nf : Nat} {fi fm : List Slot → List D → Option (D × List Slot)} {ds ds2 : List D} (e : mkM nf fi fm ds ds2 = some d) : mkkM nf fi fm ds2 (some (ds, ρ)) = .ok (.dat d) ρ := by
  show (match mkM nf fi fm ds ds2 with | some d => R.ok (Hd.dat d) ρ | none => R.stuck) = _
  rw [e]
@[simp] theorem y_mkk {nf : Nat} {fi fm : List Slot → List D → Option (D × List Slot)} {ds2 : List D} {hs : List Hd} : mkk nf fi fm ds2 hs ρ = mkkM nf fi fm ds2 (matAll ρ hs) := id rfl
@[simp] theorem y_mk {nf : Nat} {fi fm : List Slot → List D → Option (D × List Slot)} {g : Envi → R (List Hd)} {ds2 : List D} : eMk nf fi fm g ds2 ρ = (g ρ).bind (mkk nf fi fm ds2) := by unfold eMk mkk mkkM; rfl
/-! d.get(k, x), d[k] = x -/
def dg5 (a b z : D) (ρ : Envi) : Option (Option D) → R Hd
  | some (some d) => .ok (.dat d) ρ
  | some none => .ok (.dat z) ρ
  | none => .stuck
@[simp] theorem y_dg5_some {z : D} : dg5 a b z ρ (some (some d)) = .ok (.dat d) ρ := id rfl
@[simp] theorem y_dg5_none {z : D} : dg5 a b z ρ (some none) = .ok (.dat z) ρ := id rfl
theorem dget2_eq {f g e : Envi → R Hd} {ρ1 ρ2 ρ3 : Envi} {k : Hd} {z : D} (h1 : eMat f ρ = .ok (.dat a) ρ1) (ha : isDictD a = true) (h2 : (g ρ1).frz = .ok k ρ2) (h3 : eMat e ρ2 = .ok (.dat z) ρ3) (h4 : deref ρ3 k = some b) : eDGet2 f g e ρ = dg5 a b z ρ3 (dLook a b) := by
  unfold eDGet2
  rw [h1]
  simp only [R.bind, ha, if_true, h2, h3, h4]
  unfold dg5
  rfl
theorem dput_eq {ok : Envi → Bool} {g e : Envi → R Hd} {ρ1 ρ2 : Envi} {o' : Own} (h1 : eMat e ρ = .ok (.dat d) ρ1) (h2 : ok ρ1 = true) (h3 : ∃ o0, ρ1[k]? = some (.ow o0)) (h4 : eMat g ρ1 = .ok (.dat b) ρ2) (h5 : ρ2[k]? = some (.ow o)) (h6 : dPut o b d = some o') : sDPutP k ok g e ρ = .nx (ρ2.set k (.ow o')) := by
  obtain ⟨o0, h3⟩ := h3
  unfold sDPutP
  rw [h1]
  simp only [R.toFl, h2, if_true, h3, h4, h5, h6]
end
end Pv

set_option Elab.async false
set_option linter.all false
set_option maxRecDepth 100000
namespace Pv
open PySem PySem.Spec PyProof.Rows L2
/-! more equations to compute with -/
section
variable {ρ : Envi} {i k n : Nat} {d a b z : D} {o : Own} {c : Exc} {f g e : Envi → R Hd}
/-! d.get(k, x) -/
def dgD (a : D) (ρ3 : Envi) : Option D → Hd → R Hd
  | some b, .dat z => dg5 a b z ρ3 (dLook a b)
  | _, _ => .stuck
def dgC (a : D) (k : Hd) (x : Hd) (ρ3 : Envi) : R Hd := dgD a ρ3 (deref ρ3 k) x
def dgB (a : D) (e : Envi → R Hd) (k : Hd) (ρ2 : Envi) : R Hd := (eMat e ρ2).bind (dgC a k)
def dgA (g e : Envi → R Hd) (h : Hd) (ρ1 : Envi) : R Hd := match h with
  | .dat a => if isDictD a = true then (g ρ1).frz.bind (dgB a e) else .stuck
  | _ => .stuck
@[simp] theorem y_dgD : dgD a ρ (some b) (.dat z) = dg5 a b z ρ (dLook a b) := id rfl
@[simp] theorem y_dgC {h k : Hd} : dgC a k h ρ = dgD a ρ (deref ρ k) h := id rfl
@[simp] theorem y_dgB {k : Hd} : dgB a e k ρ = (eMat e ρ).bind (dgC a k) := id rfl
@[simp] theorem y_dgA : dgA g e (.dat a) ρ = if isDictD a = true then (g ρ).frz.bind (dgB a e) else .stuck := id rfl
theorem bind_congr {α β : Type} {r : R α} {h h' : α → Envi → R β} (e : ∀ x ρ, h x ρ = h' x ρ) : r.bind h = r.bind h' := by
  cases r <;> first | rfl | exact e _ _
@[simp] theorem y_dget2 : eDGet2 f g e ρ = (eMat f ρ).bind (dgA g e) := by
  unfold eDGet2
  refine bind_congr fun h ρ1 => ?_
  cases h with
  | dat a =>
    show (if _ then _ else _) = (if _ then _ else _)
    split
    · refine bind_congr fun k ρ2 => ?_
      refine bind_congr fun x ρ3 => ?_
      show _ = dgD a ρ3 (deref ρ3 k) x
      cases deref ρ3 k with
      | none => rfl
      | some b => cases x <;> rfl
    · rfl
  | _ => rfl
@[simp] theorem y_isD_k {ks : List Key} {l : List D} : isDictD (.dk ks l) = true := id rfl
@[simp] theorem y_isD_t {ks : List (List Key)} {l : List D} : isDictD (.dt ks l) = true := id rfl
/-! d[k] = x -/
def dpC (k : Nat) (ρ2 : Envi) : Option Own → Fl
  | some o' => .nx (ρ2.set k (.ow o'))
  | none => .stuck
def dpM (k : Nat) (d : D) (ρ2 : Envi) : Hd → Option Slot → Fl
  | .dat b, some (.ow o) => dpC k ρ2 (dPut o b d)
  | _, _ => .stuck
def dpB (k : Nat) (d : D) (y : Hd) (ρ2 : Envi) : Fl := dpM k d ρ2 y ρ2[k]?
def owS : Option Slot → Bool
  | some (.ow _) => true
  | _ => false
def dpA (k : Nat) (ok : Envi → Bool) (g : Envi → R Hd) (x : Hd) (ρ1 : Envi) : Fl := match x with
  | .dat d => if ok ρ1 = true then (if owS ρ1[k]? = true then (eMat g ρ1).toFl (dpB k d) else .stuck) else .stuck
  | _ => .stuck
@[simp] theorem y_dpC {o' : Own} : dpC k ρ (some o') = .nx (ρ.set k (.ow o')) := id rfl
@[simp] theorem y_dpM : dpM k d ρ (.dat b) (some (.ow o)) = dpC k ρ (dPut o b d) := id rfl
@[simp] theorem y_dpB {y : Hd} : dpB k d y ρ = dpM k d ρ y ρ[k]? := id rfl
@[simp] theorem y_owS : owS (some (.ow o)) = true := id rfl
@[simp] theorem y_dpA {ok : Envi → Bool} : dpA k ok g (.dat d) ρ = if ok ρ = true then (if owS ρ[k]? = true then (eMat g ρ).toFl (dpB k d) else .stuck) else .stuck := id rfl
theorem toFl_congr {α : Type} {r : R α} {h h' : α → Envi → Fl} (e : ∀ x ρ, h x ρ = h' x ρ) : r.toFl h = r.toFl h' := by
  cases r <;> first | rfl | exact e _ _
@[simp] theorem y_dput {ok : Envi → Bool} : sDPutP k ok g e ρ = (eMat e ρ).toFl (dpA k ok g) := by
  unfold sDPutP
  refine toFl_congr fun h ρ1 => ?_
  cases h with
  | dat d =>
    show (if _ then _ else _) = (if _ then _ else _)
    split
    · cases ρ1[k]? with
      | none => rfl
      | some s =>
        cases s with
        | ow o0 =>
          show _ = (if true = true then _ else _)
          rw [if_pos rfl]
          refine toFl_congr fun y ρ2 => ?_
          show _ = dpM k d ρ2 y ρ2[k]?
          cases y with
          | dat b =>
            cases ρ2[k]? with
            | none => rfl
            | some s =>
              cases s with
              | ow o =>
                show _ = dpC k ρ2 (dPut o b d)
                cases h : dPut o b d with
                | none => simp only [h]; rfl
                | some o' => simp only [h]; rfl
              | _ => rfl
          | _ => rfl
        | _ => rfl
    · rfl
  | _ => rfl
@[simp] theorem y_dPut_i {kvs : List (Key × D)} {x : Int} : dPut (.di kvs) (.int x) d = if kvs.length < big then some (.di (putA kvs (.inl x) d)) else none := id rfl
@[simp] theorem y_dPut_p {kvs : List (List Key × D)} {x y : Int} : dPut (.ti kvs) (.tup [.int x, .int y]) d = if kvs.length < big then some (.ti (putA kvs [.inl x, .inl y] d)) else none := id rfl
@[simp] theorem y_dLook_i {ks : List Key} {l : List D} {x : Int} : dLook (.dk ks l) (.int x) = some (lookA (ks.zip l) (.inl x)) := id rfl
@[simp] theorem y_dLook_p {ks : List (List Key)} {l : List D} {x y : Int} : dLook (.dt ks l) (.tup [.int x, .int y]) = some (lookA (ks.zip l) [.inl x, .inl y]) := id rfl
/-! methods -/
@[simp] theorem y_fmOf {g : Sem} {fs : List Slot} {ds : List D} : fmOf n g fs ds = endF n (g (initM n ds ++ fs)) := id rfl
def enM1 (n : Nat) (ρ : Envi) (d : D) : Option Slot → Option (D × List Slot)
  | some .self => some (d, ρ.drop n)
  | _ => none
@[simp] theorem y_enM1 : enM1 n ρ d (some .self) = some (d, ρ.drop n) := id rfl
@[simp] theorem y_endM : endM n ρ d = enM1 n ρ d ρ[0]? := by unfold endM enM1; rfl
@[simp] theorem y_endF_nx : endF n (.nx ρ) = endM n ρ .non := id rfl
@[simp] theorem y_endF_fz : endF n (.ret (.fz d) ρ) = endM n ρ d := id rfl
@[simp] theorem y_endF_ow : endF n (.ret (.ow o) ρ) = endM n ρ o.toD := id rfl
@[simp] theorem y_endF_ite {p : Prop} [Decidable p] {x y : Fl} : endF n (if p then x else y) = if p then endF n x else endF n y := by split <;> rfl
/-! a local object -/
def sloB (i n nf : Nat) (rest : Sem) (ρ2 : Envi) : Option (D × List Slot) → Fl
  | some (.non, fs1) => letEnd n (rest (ρ2.set i .self ++ fs1))
  | _ => .stuck
def sloM (i n nf : Nat) (fi : List Slot → List D → Option (D × List Slot)) (rest : Sem) : Option (List D × Envi) → Fl
  | some (ds, ρ2) => if (decide (ρ2.length = n) && noSelf ρ2) = true then sloB i n nf rest ρ2 (fi (unsN nf) ds) else .stuck
  | none => .stuck
def slok (i n nf : Nat) (fi : List Slot → List D → Option (D × List Slot)) (rest : Sem) (hs : List Hd) (ρ1 : Envi) : Fl := sloM i n nf fi rest (matAll ρ1 hs)
@[simp] theorem y_sloB {rest : Sem} {nf : Nat} {fs1 : List Slot} : sloB i n nf rest ρ (some (.non, fs1)) = letEnd n (rest (ρ.set i .self ++ fs1)) := id rfl
@[simp] theorem y_sloM {rest : Sem} {nf : Nat} {fi : List Slot → List D → Option (D × List Slot)} {ds : List D} : sloM i n nf fi rest (some (ds, ρ)) = if (decide (ρ.length = n) && noSelf ρ) = true then sloB i n nf rest ρ (fi (unsN nf) ds) else .stuck := id rfl
@[simp] theorem y_slok {rest : Sem} {nf : Nat} {fi : List Slot → List D → Option (D × List Slot)} {hs : List Hd} : slok i n nf fi rest hs ρ = sloM i n nf fi rest (matAll ρ hs) := id rfl
@[simp] theorem y_let {rest : Sem} {nf : Nat} {fi : List Slot → List D → Option (D × List Slot)} {g : Envi → R (List Hd)} : sLet i n nf fi g rest ρ = (g ρ).toFl (slok i n nf fi rest) := by
  unfold sLet
  refine toFl_congr fun hs ρ1 => ?_
  show _ = sloM i n nf fi rest (matAll ρ1 hs)
  cases matAll ρ1 hs with
  | none => rfl
  | some p =>
    obtain ⟨ds, ρ2⟩ := p
    show (if _ then _ else _) = (if _ then _ else _)
    split
    · cases fi (unsN nf) ds with
      | none => rfl
      | some q =>
        obtain ⟨x, fs1⟩ := q
        cases x <;> rfl
    · rfl
@[simp] theorem y_letEnd {v : Rv} : letEnd n (.ret v ρ) = .ret v (unsN n) := id rfl
@[simp] theorem y_noSelf_nil : noSelf [] = true := id rfl
@[simp] theorem y_noSelf_un : noSelf (.un :: ρ) = noSelf ρ := id rfl
@[simp] theorem y_noSelf_fz : noSelf (.fz d :: ρ) = noSelf ρ := id rfl
@[simp] theorem y_noSelf_ow : noSelf (.ow o :: ρ) = noSelf ρ := id rfl
theorem mkM_some {nf : Nat} {fi fm : List Slot → List D → Option (D × List Slot)} {ds ds2 : List D} {fs1 fs2 : List Slot} (h1 : fi (unsN nf) ds = some (.non, fs1)) (h2 : fm fs1 ds2 = some (d, fs2)) : mkM nf fi fm ds ds2 = some d := by
  unfold mkM
  rw [h1]
  show (fm fs1 ds2).map (·.1) = some d
  rw [h2]; rfl
/-! a for that is left -/
theorem runFor_nx {b : Bnd} {g : Sem} {d : D} {l : List D} {ρ1 ρ2 : Envi} (h1 : b d ρ = some ρ1) (h2 : g ρ1 = .nx ρ2) : runFor b g (d :: l) ρ = runFor b g l ρ2 := by
  show (match b d ρ with | none => Fl.stuck | some ρ1 => match g ρ1 with | .nx ρ2 => runFor b g l ρ2 | .ct ρ2 => runFor b g l ρ2 | .bk ρ2 => .nx ρ2 | r => r) = _
  rw [h1]
  simp only [h2]
theorem runFor_bk {b : Bnd} {g : Sem} {d : D} {l : List D} {ρ1 ρ2 : Envi} (h1 : b d ρ = some ρ1) (h2 : g ρ1 = .bk ρ2) : runFor b g (d :: l) ρ = .nx ρ2 := by
  show (match b d ρ with | none => Fl.stuck | some ρ1 => match g ρ1 with | .nx ρ2 => runFor b g l ρ2 | .ct ρ2 => runFor b g l ρ2 | .bk ρ2 => .nx ρ2 | r => r) = _
  rw [h1]
  simp only [h2]
theorem runFor_ret {b : Bnd} {g : Sem} {d : D} {l : List D} {ρ1 ρ2 : Envi} {v : Rv} (h1 : b d ρ = some ρ1) (h2 : g ρ1 = .ret v ρ2) : runFor b g (d :: l) ρ = .ret v ρ2 := by
  show (match b d ρ with | none => Fl.stuck | some ρ1 => match g ρ1 with | .nx ρ2 => runFor b g l ρ2 | .ct ρ2 => runFor b g l ρ2 | .bk ρ2 => .nx ρ2 | r => r) = _
  rw [h1]
  simp only [h2]
theorem fAll_bls (bs : List Bool) : fAll [.lst (bs.map .bl)] = .fz (.bl (bs.all id)) := by
  unfold fAll lstBols
  simp only [lstOf, bolsOf_map]
theorem fAny_bls (bs : List Bool) : fAny [.lst (bs.map .bl)] = .fz (.bl (bs.any id)) := by
  unfold fAny lstBols
  simp only [lstOf, bolsOf_map]
end
end Pv

set_option Elab.async false
set_option linter.all false
set_option maxRecDepth 100000
namespace Pv
open PySem PySem.Spec PyProof.Rows L2
section
variable {P : Pr} {m : Bool} {W : WX} {te ta tb tc to : TE} {f g e : Envi → R Hd} {n : Nat} {fa : Envi → R (List Hd)} {tr : TA} {B F0 F H : Hp} {σ : L2.St} {ob : Ob} {ρ : Envi} {K : PySem.W.Frag}
/-! d.get(k, x), d staying ours -/
def eDGet3 (f g e : Envi → R Hd) : Envi → R Hd := fun ρ => (f ρ).frz.bind fun h ρ1 => match deref ρ1 h with
  | some a0 => if isDictD a0 = true then (g ρ1).frz.bind fun k ρ2 => (eMat e ρ2).bind fun x ρ3 => match deref ρ3 h, deref ρ3 k, x with
    | some a, some b, .dat z => match dLook a b with
      | some (some d) => .ok (.dat d) ρ3
      | some none => .ok (.dat z) ρ3
      | none => .stuck
    | _, _, _ => .stuck
    else .stuck
  | none => .stuck
theorem isB_of {v : V} {d : D} (s : Same F H) (r : BRep K F H v d) (e : isDictD d = true) : ∃ a, v = .ref a ∧ IsD H a := by
  rcases r with r | ⟨a, ho, o, rfl, ha, hr, rfl⟩
  · exact isD_of s r e
  · refine ⟨a, rfl, ?_⟩
    cases o with
    | li l => cases e
    | di l =>
      obtain ⟨kvs, rfl, _⟩ := hr
      exact .inl ⟨_, .inl ha⟩
    | ti l =>
      obtain ⟨kvs, rfl, _⟩ := hr
      exact .inr ⟨_, .inl ha⟩
theorem snd_dget3 (ha : SndE P false W ta f) (hb : SndE P false W tb g) (hc : SndE P false W tc e) : SndE P false W (tDGet2 ta tb tc) (eDGet3 f g e) := by
  intro B F0 F H σ ob ρ Q w q
  refine ha.frz B F0 F H σ ob ρ _ w (Post.of_bind q ?_)
  rintro h ρ1 B1 F1 H1 ob1 x w1 s1 i1 ⟨rfl, r1⟩ q
  cases d1 : deref ρ1 h with
  | none => rw [d1] at q; exact q.elim
  | some a0 =>
    rw [d1] at q
    dsimp only at q
    split at q
    · rename_i hd
      obtain ⟨p, rfl, hp⟩ := isB_of w1.fh (w1.deref r1 d1) hd
      refine ⟨p, rfl, hp, ?_⟩
      refine hb.frz _ F0 F1 H1 σ ob1 ρ1 _ w1 (Post.of_bind (Post.shift s1 i1 q) ?_)
      rintro k ρ2 B2 F2 H2 ob2 y w2 s2 i2 ⟨rfl, r2⟩ q
      refine snd_mat hc _ F0 F2 H2 σ ob2 ρ2 _ w2 (Post.of_bind (Post.shift s2 i2 q) ?_)
      rintro z ρ3 B3 F3 H3 ob3 u w3 s3 i3 r3 q
      have r1' := (r1.mono s2 (i2 rfl)).mono s3 (i3 rfl)
      cases e0 : deref ρ3 h with
      | none => rw [e0] at q; exact q.elim
      | some a =>
        cases e1 : deref ρ3 k with
        | none => rw [e0, e1] at q; exact q.elim
        | some b =>
          rw [e0, e1] at q
          cases z with
          | dat z =>
            obtain ⟨rfl, r3⟩ := r3
            try dsimp only at q
            have ra := w3.deref r1' e0
            have rk := w3.deref (r2.mono s3 (i3 rfl)) e1
            cases e2 : dLook a b with
            | none => rw [e2] at q; exact q.elim
            | some rr =>
              rw [e2] at q
              obtain ⟨p', o, e3, h1, h2⟩ := dLook_ok w3.fh ra rk e2
              cases e3
              refine ⟨o, h1, ?_⟩
              cases rr with
              | none =>
                cases o with
                | some _ => exact h2.elim
                | none => exact q _ F3 H3 ob3 u w3 s3 i3 ⟨rfl, r3⟩
              | some d =>
                cases o with
                | none => exact h2.elim
                | some v => exact q _ F3 H3 ob3 v w3 s3 i3 ⟨rfl, h2⟩
          | _ => exact q.elim
    · exact q.elim
/-! a comprehension over the keys of a dict of ours: locked as long as it runs, frozen behind -/
def dOfK : Key → D
  | .inl i => .int i
  | .inr x => .str x
def keysD : Own → Option (List D)
  | .di l => some (l.map fun x => dOfK x.1)
  | .ti l => some (l.map fun x => .tup (x.1.map dOfK))
  | .li _ => none
theorem rep_key (k : Key) : Rep K F (kV k) (dOfK k) := by
  cases k with
  | inl i => exact .int i
  | inr x => exact .str x
theorem reps_keys : ∀ ks : List Key, Reps K F (ks.map kV) (ks.map dOfK)
  | [] => .nil
  | k :: ks => .cons (rep_key k) (reps_keys ks)
/-- what was locked is open again -/
def Unl (F F' : Hp) : Prop := ∀ b x, F b = some x → F' b = some x ∨ ∃ od u, x = .frz od u ∧ F' b = some u ∧ (∀ vs, u ≠ .tup vs) ∧ ∀ vs, u ≠ .lst vs
theorem Unl.rd {F' : Hp} (h : Unl F F') {a : Addr} {u : HO} (hu : ∀ od v, u ≠ .frz od v) (r : Rd F a u) : Rd F' a u := by
  rcases r with r | ⟨o, r⟩
  · rcases h _ _ r with z | ⟨od, v, z, _⟩
    · exact .inl z
    · exact absurd z (hu od v)
  · rcases h _ _ r with z | ⟨od, v, z, z2, _⟩
    · exact .inr ⟨o, z⟩
    · cases z; exact .inl z2
theorem Unl.sq {F' : Hp} (h : Unl F F') {a : Addr} {xs : List V} (r : SqL K F a xs) : SqL K F' a xs := by
  rcases r with r | r
  · exact .inl (h.rd (fun _ _ z => nomatch z) r)
  · exact .inr r
theorem Unl.kt {F' : Hp} (h : Unl F F') {a : Addr} {xs : List V} (r : KTup K F a xs) : KTup K F' a xs := by
  rcases r with ⟨o, r, d⟩ | r
  · rcases h _ _ r with z | ⟨od, v, z, _, z3, _⟩
    · exact .inl ⟨o, z, d⟩
    · cases z; exact absurd rfl (z3 _)
  · exact .inr r
mutual
theorem Rep.unl {F' : Hp} (e : Unl F F') : ∀ {v : V} {d : D}, Rep K F v d → Rep K F' v d
  | _, _, .non => .non
  | _, _, .bl _ => .bl _
  | _, _, .int _ => .int _
  | _, _, .str _ => .str _
  | _, _, .tup a b c => .tup ((e _ _ a).elim id fun ⟨_, _, z, _⟩ => nomatch z) b (Reps.unl e c)
  | _, _, .ktup a b c => .ktup (e.kt a) b (Reps.unl e c)
  | _, _, .lst a b c => .lst ((e _ _ a).elim id fun ⟨_, _, z, _⟩ => nomatch z) b (Reps.unl e c)
  | _, _, .klst a b c => .klst (e.sq a) b (Reps.unl e c)
  | _, _, .dk a b c => .dk (e.rd (fun _ _ z => nomatch z) a) b (Reps.unl e c)
  | _, _, .dt a b c => .dt (e.rd (fun _ _ z => nomatch z) a) b (Reps.unl e c)
  | _, _, .adr _ => .adr _
  | _, _, .ty _ => .ty _
theorem Reps.unl {F' : Hp} (e : Unl F F') : ∀ {vs : List V} {ds : List D}, Reps K F vs ds → Reps K F' vs ds
  | _, _, .nil => .nil
  | _, _, .cons a b => .cons (Rep.unl e a) (Reps.unl e b)
end
end
end Pv

set_option Elab.async false
set_option linter.all false
set_option maxRecDepth 100000
namespace Pv
open PySem PySem.Spec PyProof.Rows L2
section
variable {P : Pr} {m : Bool} {W : WX} {te ta tb : TE} {f : Envi → R Hd} {B F0 F H : Hp} {σ : L2.St} {ob : Ob} {ρ : Envi} {K : PySem.W.Frag}
theorem comp_at {us vs : List Nat} {ti : TI} {ds : List Pv.D} {tg : TG} {b : Bnd} {tt : TT} {c : Envi → R Bool} {e : Envi → R Hd} {Q : VK} (w : Wf P B F0 F H σ ob ρ) (hsz : ds.length ≤ sizeLine) (hi : ∀ R, (∀ J, ItOk P.K J F ds → R J H) → ti σ H R) (hg : SndG P us tg b) (hc : SndT P m W0 tt c) (he : SndE P m W0 te e) (q : Post P B F0 F σ ob m W (RelE P B σ) Q (opt3 (runComp b c e vs ds (Pv.wipeE ρ vs)))) (hu : ∀ u ∈ us, u ∈ vs := by decide) :
    tLc ti tg tt te vs σ H Q := by
  refine hi _ fun J hJ => ?_
  intro D hD
  obtain ⟨B', hB'⟩ : ∃ B', B' = B := ⟨_, rfl⟩
  obtain ⟨F', hF'⟩ : ∃ F', F' = F := ⟨_, rfl⟩
  obtain ⟨ob', hob'⟩ : ∃ ob', ob' = ob := ⟨_, rfl⟩
  obtain ⟨ρ', hρ'⟩ : ∃ ρ', ρ' = ρ := ⟨_, rfl⟩
  have w' : Wf P B' F0 F' H σ ob' ρ' := by rw [hB', hF', hob', hρ']; exact w
  have s : Same F F' := by rw [hF']; exact Same.refl _
  have i' : m = false → ob' = ob := fun _ => hob'
  rw [← hF'] at hJ
  rw [← hB'] at q
  rw [← hρ'] at q
  have fD : F' D = none := w'.fh.free hD
  have bD : B' D = none := w'.bh.free hD
  have f0D : F0 D = none := w'.ff.free fD
  refine ⟨fun i mm H2 => ∃ F2 ob2 ρ2 av acc, mm = ds.length - i ∧ i ≤ ds.length ∧ Wf P (upd B' D (.lst av)) F0 F2 H2 σ ob2 (Pv.wipeE ρ2 vs) ∧ Same F' F2 ∧ F2 D = none ∧ (m = false → ob2 = ob') ∧ Reps P.K F2 av acc ∧ acc.length ≤ i ∧
      Post P B' F0 F σ ob m W (RelE P B' σ) Q (opt3 ((runComp b c e vs (ds.drop i) (Pv.wipeE ρ2 vs)).map fun x => (acc ++ x.1, x.2))),
    ⟨ds.length, F', ob', ρ', [], [], rfl, Nat.zero_le _, (w'.wipeE vs).tmp hD, Same.refl _, fD, fun _ => rfl, .nil, Nat.le_refl _, ?_⟩, ?_⟩
  · have q : Post P B' F0 F σ ob m W (RelE P B' σ) Q (opt3 (runComp b c e vs ds (Pv.wipeE ρ' vs))) := q
    rw [List.drop_zero]
    cases e1 : runComp b c e vs ds (Pv.wipeE ρ' vs) with
    | none => rw [e1] at q; exact q
    | some x => rw [e1] at q; exact q
  rintro i mm H2 ⟨F2, ob2, ρ2, av, acc, rfl, hle, w2, s2, f2D, i2, r2, hacc, q2⟩
  obtain ⟨j1, j2⟩ := hJ F2 H2 s2 w2.fh
  by_cases hlt : i < ds.length
  · refine .inr ⟨(j1 i ds[i] (List.getElem?_eq_getElem hlt)).1, fun H3 => ∃ F3 ob3 ρ3 av acc, Wf P (upd B' D (.lst av)) F0 F3 H3 σ ob3 (Pv.wipeE ρ3 vs) ∧ Same F' F3 ∧ F3 D = none ∧ (m = false → ob3 = ob') ∧ Reps P.K F3 av acc ∧ acc.length ≤ i + 1 ∧
      Post P B' F0 F σ ob m W (RelE P B' σ) Q (opt3 ((runComp b c e vs (ds.drop (i + 1)) (Pv.wipeE ρ3 vs)).map fun x => (acc ++ x.1, x.2))),
      fun H3 ⟨F3, ob3, ρ3, av, acc, w3, s3, f3, i3, r3, h3, q3⟩ => ⟨ds.length - (i + 1), by omega, F3, ob3, ρ3, av, acc, rfl, hlt, w3, s3, f3, i3, r3, h3, q3⟩, fun x H3 y => ?_⟩
    obtain ⟨F3, gr, r3⟩ := (j1 i ds[i] (List.getElem?_eq_getElem hlt)).2 x H3 y
    obtain ⟨w3, s3⟩ := w2.growN gr
    rw [List.drop_eq_getElem_cons hlt] at q2
    unfold runComp at q2
    have w3' : Wf P (upd B' D (.lst av)) F0 F3 H3 (wipe σ vs) ob2 (Pv.wipeE ρ2 vs) := w3.reslot (wipe_length σ vs) fun i s h hs => wipe_outS (wipeE_un h hs)
    cases e1 : b ds[i] (Pv.wipeE ρ2 vs) with
    | none => rw [e1] at q2; exact q2.elim
    | some ρ3 =>
      rw [e1] at q2
      dsimp only at q2
      refine hg _ F0 F3 H3 (wipe σ vs) ob2 _ x _ ρ3 _ w3' r3 e1 fun σ3 w4 hw4 => ⟨(hw4 vs hu).trans ?_, ?_⟩
      · exact wipe_idem σ vs
      -- behind a turn: back at σ
      have back : ∀ {Bx Fx Hx : Hp} {obx : Ob} {ρx : Envi}, Wf P Bx F0 Fx Hx σ3 obx ρx → Wf P Bx F0 Fx Hx σ obx (Pv.wipeE ρx vs) := fun {Bx Fx Hx obx ρx} wx => by
        refine (wx.wipeE vs).reslot ?_ fun i s h hs => ?_
        · have := w4.n
          rw [this, w.n]
        · have hn := wipeE_un h hs
          have := congrArg (fun l => l[i]?) (hw4 vs hu)
          rw [wipe_outS hn] at this
          rw [this]
          have h2 : (wipe (wipe σ vs) vs)[i]? = (wipe σ vs)[i]? := wipe_outS hn
          rw [h2, wipe_outS hn]
      refine hc _ F0 F3 H3 σ3 ob2 ρ3 _ w4 ?_
      cases e2 : c ρ3 with
      | stuck => rw [e2] at q2; exact q2.elim
      | exc x ρ4 => rw [e2] at q2; exact q2.elim
      | ok bb ρ4 =>
        rw [e2] at q2
        rintro _ F4 H4 ob4 v w5 s4 i4 ⟨rfl, rfl⟩
        have f4D : F4 D = none := by
          cases z : F4 D with
          | none => rfl
          | some o =>
            rcases w5.nw D o z with h | h | ⟨us, rfl⟩
            · rw [f0D] at h; cases h
            · rw [upd_same] at h; cases h
            · have h := w5.fh _ _ z
              rw [w5.getH] at h; cases h
        cases v with
        | false =>
          dsimp only at q2
          rw [if_neg Bool.false_ne_true]
          exact ⟨F4, ob4, ρ4, av, acc, back w5, (s2.trans s3).trans s4, f4D, fun z => (i4 z).trans (i2 z), r2.mono (s3.trans s4), by omega, q2⟩
        | true =>
          dsimp only at q2
          rw [if_pos rfl]
          refine snd_mat he _ F0 F4 H4 σ3 ob4 ρ4 _ w5 ?_
          cases e3 : eMat e ρ4 with
          | stuck => rw [e3] at q2; exact q2.elim
          | exc x ρ5 => rw [e3] at q2; exact q2.elim
          | ok hd ρ5 =>
            rw [e3] at q2
            cases hd with
            | dat d' =>
              rintro _ F5 H5 ob5 y w6 s5 i5 ⟨rfl, r5⟩
              have f5D : F5 D = none := by
                cases z : F5 D with
                | none => rfl
                | some o =>
                  rcases w6.nw D o z with h | h | ⟨us, rfl⟩
                  · rw [f0D] at h; cases h
                  · rw [upd_same] at h; cases h
                  · have h := w6.fh _ _ z
                    rw [w6.getH] at h; cases h
              have hl : av.length = acc.length := r2.length
              refine ⟨av, w6.getH, by omega, F5, ob5, ρ5, av ++ [y], acc ++ [d'], back (w6.tmpUpd f5D), ((s2.trans s3).trans s4).trans s5, f5D, fun z => ((i5 z).trans (i4 z)).trans (i2 z), (r2.mono ((s3.trans s4).trans s5)).append (.cons r5 .nil), by rw [List.length_append]; show acc.length + 1 ≤ i + 1; omega, ?_⟩
              dsimp only at q2
              cases e4 : runComp b c e vs (ds.drop (i + 1)) (Pv.wipeE ρ5 vs) with
              | none => rw [e4] at q2; exact q2
              | some x =>
                rw [e4] at q2
                have q2 : Post P B' F0 F σ ob m W (RelE P B' σ) Q (opt3 (some (acc ++ (d' :: x.1), x.2))) := q2
                rw [show acc ++ (d' :: x.1) = (acc ++ [d']) ++ x.1 by simp] at q2
                exact q2
            | _ => exact q2.elim
  · refine .inl ⟨j2 i (by omega), ?_⟩
    rw [List.drop_eq_nil_of_le (by omega)] at q2
    have q2 : Post P B' F0 F σ ob m W (RelE P B' σ) Q (.ok (.tm (.li (acc ++ []))) (Pv.wipeE ρ2 vs)) := q2
    rw [List.append_nil] at q2
    exact q2 (upd B' D (.lst av)) F2 H2 ob2 _ w2 (s.trans s2) (fun z => (i2 z).trans (i' z)) ⟨D, _, rfl, rfl, bD, f2D, av, rfl, by rw [r2.length]; omega, r2⟩

/-! lock and open -/
theorem OwnR.repF {a : Addr} {ho : HO} {o : Own} {ds : List D} (hd : keysD o = some ds) (h : Rd F a ho) (r : OwnR K F ho o) : Rep K F (.ref a) o.toD := by
  cases o with
  | li l => cases hd
  | di l =>
    obtain ⟨kvs, rfl, h2, h3⟩ := r
    show Rep K F (.ref a) (.dk (l.map (·.1)) (l.map (·.2)))
    rw [← h3.keys]
    exact .dk h h2 h3.vals
  | ti l =>
    obtain ⟨kvs, rfl, h2, h3⟩ := r
    show Rep K F (.ref a) (.dt (l.map (·.1)) (l.map (·.2)))
    rw [← h3.keys]
    exact .dt h h2 h3.vals
theorem Wf.lockSlot (w : Wf P B F0 F H σ ob ρ) {i : Nat} {o : Own} {ds : List D} (h : ρ[i]? = some (.ow o)) (hd : keysD o = some ds) : ∃ a ho, (tau σ ob)[i]? = some (some (.ref a)) ∧ H a = some ho ∧ OwnR P.K F ho o ∧ F a = none ∧ B a = none ∧
    ∀ od, Wf P B F0 (upd F a (.frz od ho)) (upd H a (.frz od ho)) σ ob (ρ.set i (.fz o.toD)) := by
  obtain ⟨fh, bh, ff, nw, n, len, ⟨al, s1, s2, s3⟩, hob⟩ := w
  obtain ⟨e1, ho, e2, e3⟩ := s1 i _ h
  obtain ⟨fa, ba⟩ := s2 i _ h rfl
  have hiρ : i < ρ.length := (List.getElem?_eq_some_iff.mp h).1
  have hiτ : i < (tau σ ob).length := by rw [← len]; exact hiρ
  have e0 : (tau σ ob)[i]? = some (some (.ref (al i))) := by
    rw [List.getElem?_eq_getElem hiτ] at e1 ⊢
    rw [show (tau σ ob)[i] = some (.ref (al i)) from e1]
  refine ⟨al i, ho, e0, e2, e3, fa, ba, fun od => ?_⟩
  have sF : Same F (upd F (al i) (.frz od ho)) := same_new fa
  have ne : ∀ (j : Nat) (s : Slot), ρ[j]? = some s → s.isOw = true → i ≠ j → al j ≠ al i := fun j s hj hs hij z => hij (s3 j i s _ hj h hs rfl z).symm
  refine ⟨fun b x e => ?_, fun b x e => ?_, ff.trans sF, fun b x e => ?_, n, by rw [List.length_set]; exact len, ⟨al, fun j t hj => ?_, fun j t hj ht => ?_, fun j k t u hj hk ht hu => ?_⟩, fun q fv e => ?_⟩
  · by_cases hb : b = al i
    · subst hb; rw [upd_same] at e ⊢; exact e
    · rw [upd_ne hb] at e ⊢; exact fh _ _ e
  · rw [upd_ne (ne_of_none e ba)]; exact bh _ _ e
  · by_cases hb : b = al i
    · subst hb; exact .inr (.inl ba)
    · rw [upd_ne hb] at e; exact nw _ _ e
  · by_cases hij : i = j
    · subst hij
      rw [List.getElem?_set_self hiρ] at hj
      cases hj
      exact ⟨_, e1, (e3.mono sF).repF hd (.inr ⟨od, upd_same⟩)⟩
    · rw [List.getElem?_set_ne hij] at hj
      exact (s1 j t hj).imp sF fun u hu e => by rw [upd_ne (ne j t hj hu hij)]; exact e
  · by_cases hij : i = j
    · subst hij
      rw [List.getElem?_set_self hiρ] at hj
      cases hj; cases ht
    · rw [List.getElem?_set_ne hij] at hj
      rw [upd_ne (ne j t hj ht hij)]
      exact s2 j t hj ht
  · have back : ∀ {j : Nat} {t : Slot}, (ρ.set i (.fz o.toD))[j]? = some t → t.isOw = true → ρ[j]? = some t := fun {j t} hj ht => by
      by_cases hij : i = j
      · subst hij
        rw [List.getElem?_set_self hiρ] at hj
        cases hj; cases ht
      · rw [List.getElem?_set_ne hij] at hj; exact hj
    exact s3 j k t u (back hj ht) (back hk hu) ht hu
  · have x := hob q fv e
    obtain ⟨dx, fs, ei⟩ := x.ins
    have hq : q ≠ al i := ne_of ei e2 fun z => e3.notIns z.symm
    exact x.keep (fun h => by rw [upd_ne hq]; exact h) (fun h => h) fun u hu => by rw [upd_ne hq]; exact hu
theorem ne_of_some_none {F : Hp} {a b : Addr} {x : HO} (h : F a = some x) (g : F b = none) : b ≠ a := fun z => by rw [z, h] at g; cases g
theorem unl_upd {a : Addr} {od : Obj} {ho : HO} (h : F a = some (.frz od ho)) (h1 : ∀ vs, ho ≠ .tup vs) (h2 : ∀ vs, ho ≠ .lst vs) : Unl F (upd F a ho) := fun b x e => by
  by_cases hb : b = a
  · subst hb
    rw [h] at e
    cases e
    exact .inr ⟨od, ho, rfl, upd_same, h1, h2⟩
  · exact .inl (by rw [upd_ne hb]; exact e)
theorem OwnR.unl {F' : Hp} (e : Unl F F') {ho : HO} : ∀ {o : Own}, OwnR K F ho o → OwnR K F' ho o
  | .li _, ⟨vs, h1, h2, h3⟩ => ⟨vs, h1, h2, h3.unl e⟩
  | .di _, ⟨vs, h1, h2, h3⟩ => ⟨vs, h1, h2, Paired.mapP h3 fun _ _ z => ⟨z.1, z.2.unl e⟩⟩
  | .ti _, ⟨vs, h1, h2, h3⟩ => ⟨vs, h1, h2, Paired.mapP h3 fun _ _ z => ⟨z.1, z.2.unl e⟩⟩
theorem Wf.unlock {a : Addr} {od : Obj} {ho : HO} (w : Wf P B F0 F H σ ob ρ) (h : F a = some (.frz od ho)) (h1 : ∀ vs, ho ≠ .tup vs) (h2 : ∀ vs, ho ≠ .lst vs) (f0 : F0 a = none) (ba : B a = none) : Wf P B F0 (upd F a ho) (upd H a ho) σ ob ρ := by
  obtain ⟨fh, bh, ff, nw, n, len, ⟨al, s1, s2, s3⟩, hob⟩ := w
  have un := unl_upd h h1 h2
  refine ⟨fun b x e => ?_, fun b x e => ?_, fun b x e => ?_, fun b x e => ?_, n, len, ⟨al, fun j t hj => ?_, fun j t hj ht => ?_, s3⟩, fun q fv e => ?_⟩
  · by_cases hb : b = a
    · subst hb; rw [upd_same] at e ⊢; exact e
    · rw [upd_ne hb] at e ⊢; exact fh _ _ e
  · rw [upd_ne (ne_of_none e ba)]; exact bh _ _ e
  · rw [upd_ne (ne_of_none e f0)]; exact ff _ _ e
  · by_cases hb : b = a
    · subst hb; exact .inr (.inl ba)
    · rw [upd_ne hb] at e; exact nw _ _ e
  · have x := s1 j t hj
    cases t with
    | un => exact True.intro
    | fz d => obtain ⟨u, e1, e2⟩ := x; exact ⟨u, e1, e2.unl un⟩
    | ow o =>
      obtain ⟨e1, u, e2, e3⟩ := x
      have hne : al j ≠ a := ne_of_some_none h (s2 j _ hj rfl).1
      exact ⟨e1, u, by rw [upd_ne hne]; exact e2, e3.unl un⟩
    | self => exact x
  · have hne : al j ≠ a := ne_of_some_none h (s2 j _ hj ht).1
    rw [upd_ne hne]
    exact s2 j t hj ht
  · have x := hob q fv e
    have hq : q ≠ a := ne_of_some_none h x.fp
    exact x.keep (fun h => by rw [upd_ne hq]; exact h) (fun h => h) fun u hu => by rw [upd_ne hq]; exact hu
theorem itOk_keys {a : Addr} {od : Obj} {kvs : List (Key × V)} (h : F a = some (.frz od (.dK kvs))) : ItOk K (Itk a od kvs) F (kvs.map fun x => dOfK x.1) := fun F2 H2 s1 s2 => by
  have h2 : H2 a = some (.frz od (.dK kvs)) := s2 _ _ (s1 _ _ h)
  refine ⟨fun i d e => ?_, fun i hi => ⟨h2, by rw [List.length_map] at hi; exact hi⟩⟩
  rw [List.getElem?_map] at e
  obtain ⟨⟨k, v⟩, e1, rfl⟩ := Option.map_eq_some_iff.mp e
  refine ⟨⟨h2, (List.getElem?_eq_some_iff.mp e1).1⟩, fun x H3 y => ?_⟩
  obtain ⟨rfl, k', v', e2, rfl⟩ := y
  rw [e1] at e2
  cases e2
  exact ⟨F2, .refl _ _, rep_key k⟩
theorem kV_len (ks : List Key) : (ks.map kV).length = ks.length := List.length_map ..
theorem itOk_keysT {a : Addr} {od : Obj} {kvs : List (List Key × V)} (h : F a = some (.frz od (.dT kvs))) (hk : ∀ x ∈ kvs, x.1.length ≤ sizeLine) : ItOk K (Itkt a od kvs) F (kvs.map fun x => .tup (x.1.map dOfK)) := fun F2 H2 s1 s2 => by
  have h2 : H2 a = some (.frz od (.dT kvs)) := s2 _ _ (s1 _ _ h)
  refine ⟨fun i d e => ?_, fun i hi => ⟨h2, by rw [List.length_map] at hi; exact hi⟩⟩
  rw [List.getElem?_map] at e
  obtain ⟨⟨k, v⟩, e1, rfl⟩ := Option.map_eq_some_iff.mp e
  refine ⟨⟨h2, (List.getElem?_eq_some_iff.mp e1).1⟩, fun x H3 y => ?_⟩
  obtain ⟨rfl, k', v', q, e2, rfl, hq⟩ := y
  rw [e1] at e2
  cases e2
  exact ⟨upd F2 q (.tup (k.map kV)), .known (.refl _ _) hq, .tup upd_same (by rw [kV_len]; exact hk _ (List.mem_of_getElem? e1)) (reps_keys k)⟩
/-! the comprehension -/
def shortK : Own → Bool
  | .ti l => l.all fun x => decide (x.1.length ≤ 100)
  | _ => true
def eKComp (i : Nat) (b : Bnd) (c : Envi → R Bool) (e : Envi → R Hd) (vs : List Nat) : Envi → R Hd := fun ρ => match ρ[i]? with
  | some (.ow o) => match keysD o with
    | some ds => if shortK o = true then opt3 (runComp b c e vs ds (wipeE (ρ.set i (.fz o.toD)) vs)) else .stuck
    | none => .stuck
  | _ => .stuck
theorem snd_kcomp {us vs : List Nat} {i : Nat} {tg : TG} {b : Bnd} {tt : TT} {c : Envi → R Bool} {e : Envi → R Hd} (hi : i < P.n) (hg : SndG P us tg b) (hc : SndT P m W0 tt c) (he : SndE P m W0 te e) (hu : ∀ u ∈ us, u ∈ vs := by decide) :
    SndE P m W (tLockE (tLc (iKeys (tVar i)) tg tt te vs)) (eKComp i b c e vs) := fun B F0 F H σ ob ρ Q w q => by
  unfold eKComp at q
  cases e1 : ρ[i]? with
  | none => rw [e1] at q; exact q.elim
  | some s =>
    rw [e1] at q
    cases s with
    | ow o =>
      dsimp only at q
      cases e2 : keysD o with
      | none => rw [e2] at q; exact q.elim
      | some ds =>
        rw [e2] at q
        dsimp only at q
        split at q
        · rename_i hsh
          obtain ⟨a, ho, t1, t2, t3, fa, ba, wl⟩ := w.lockSlot e1 e2
          have hσ : σ[i]? = some (some (.ref a)) := by rw [← tau_lt (by rw [w.n]; exact hi)]; exact t1
          have nt : ∀ us, ho ≠ .tup us := fun us => t3.notTup
          have key : Mut (some ho) ∧ (∀ us, ho ≠ .lst us) ∧ ds.length ≤ sizeLine ∧ ∀ (od : Obj) (R : It → Hp → Prop), (∀ J, ItOk P.K J (upd F a (.frz od ho)) ds → R J (upd H a (.frz od ho))) → iKeys (tVar i) σ (upd H a (.frz od ho)) R := by
            cases o with
            | li l => cases e2
            | di l =>
              obtain ⟨kvs, rfl, g2, g3⟩ := t3
              cases e2
              have hk : (l.map fun x => dOfK x.1) = kvs.map fun x => dOfK x.1 := by
                have := g3.keys
                have h2 := congrArg (List.map dOfK) this
                rw [List.map_map, List.map_map] at h2
                exact h2.symm
              refine ⟨True.intro, (fun us z => nomatch z), ?_, fun od R h => ⟨_, hσ, a, od, rfl, .inl ⟨kvs, upd_same, h _ ?_⟩⟩⟩
              · rw [hk, List.length_map]; exact g2
              · rw [hk]; exact itOk_keys upd_same
            | ti l =>
              obtain ⟨kvs, rfl, g2, g3⟩ := t3
              cases e2
              have hk : (l.map fun x => D.tup (x.1.map dOfK)) = kvs.map fun x => D.tup (x.1.map dOfK) := by
                have := g3.keys
                have h2 := congrArg (List.map fun k : List Key => D.tup (k.map dOfK)) this
                rw [List.map_map, List.map_map] at h2
                exact h2.symm
              refine ⟨True.intro, (fun us z => nomatch z), ?_, fun od R h => ⟨_, hσ, a, od, rfl, .inr ⟨kvs, upd_same, h _ ?_⟩⟩⟩
              · rw [hk, List.length_map]; exact g2
              · rw [hk]
                refine itOk_keysT upd_same fun x hx => ?_
                have hm : x.1 ∈ l.map (·.1) := by rw [← g3.keys]; exact List.mem_map.mpr ⟨x, hx, rfl⟩
                obtain ⟨y, hy, e3⟩ := List.mem_map.mp hm
                have hsh : (l.all fun x => decide (x.1.length ≤ 100)) = true := hsh
                have := of_decide_eq_true (List.all_eq_true.mp hsh y hy)
                rw [← e3]
                exact Nat.le_trans this (by decide)
          obtain ⟨mu, nl, hsz, hkeys⟩ := key
          refine ⟨a, ho, t2, mu, fun od => ?_⟩
          have f0 : F0 a = none := w.ff.free fa
          refine comp_at (m := m) (W := W) (wl od) hsz (hkeys od) hg hc he ?_ hu
          cases e3 : opt3 (runComp b c e vs ds (wipeE (ρ.set i (.fz o.toD)) vs)) with
          | stuck => rw [e3] at q; exact q.elim
          | exc x ρ2 =>
            cases e4 : runComp b c e vs ds (wipeE (ρ.set i (.fz o.toD)) vs) with
            | none => rw [e4] at e3; cases e3
            | some y => rw [e4] at e3; cases e3
          | ok hd ρ2 =>
            rw [e3] at q
            cases e4 : runComp b c e vs ds (wipeE (ρ.set i (.fz o.toD)) vs) with
            | none => rw [e4] at e3; cases e3
            | some y =>
              obtain ⟨l, ρ3⟩ := y
              rw [e4] at e3
              cases e3
              rintro B' F' H' ob' v w' s i' ⟨D, hD, rfl, rfl, bD, fD, hr⟩
              have hF : F' a = some (.frz od ho) := s _ _ upd_same
              have hH : H' a = some (.frz od ho) := w'.fh _ _ hF
              have hDa : D ≠ a := ne_of_some_none hF fD
              have ba' : (upd B D hD) a = none := by rw [upd_ne hDa.symm]; exact ba
              have un := unl_upd hF nt nl
              refine ⟨hH, ?_⟩
              refine q (upd B D hD) (upd F' a ho) (upd H' a ho) ob' _ (w'.unlock hF nt nl f0 ba') (fun b x e => ?_) i' ⟨D, hD, rfl, rfl, bD, by rw [upd_ne hDa]; exact fD, hr.unl un⟩
              have hb : b ≠ a := ne_of_none e fa
              rw [upd_ne hb]
              exact s _ _ (by rw [upd_ne hb]; exact e)
        · exact q.elim
    | _ => exact q.elim
end
end Pv

set_option Elab.async false
set_option linter.all false
set_option maxRecDepth 100000
namespace Pv
open PySem PySem.Spec PyProof.Rows L2
/-! equations to compute with -/
section
variable {ρ : Envi} {i k n : Nat} {d a b z : D} {o : Own} {c : Exc} {f g e : Envi → R Hd}
def dhD (ρ3 : Envi) : Option D → Option D → Hd → R Hd
  | some a, some b, .dat z => dg5 a b z ρ3 (dLook a b)
  | _, _, _ => .stuck
def dhC (h k x : Hd) (ρ3 : Envi) : R Hd := dhD ρ3 (deref ρ3 h) (deref ρ3 k) x
def dhB (h : Hd) (e : Envi → R Hd) (k : Hd) (ρ2 : Envi) : R Hd := (eMat e ρ2).bind (dhC h k)
def dhE (g e : Envi → R Hd) (h : Hd) (ρ1 : Envi) : Option D → R Hd
  | some a0 => if isDictD a0 = true then (g ρ1).frz.bind (dhB h e) else .stuck
  | none => .stuck
def dhA (g e : Envi → R Hd) (h : Hd) (ρ1 : Envi) : R Hd := dhE g e h ρ1 (deref ρ1 h)
@[simp] theorem y_dhD : dhD ρ (some a) (some b) (.dat z) = dg5 a b z ρ (dLook a b) := id rfl
@[simp] theorem y_dhC {h k x : Hd} : dhC h k x ρ = dhD ρ (deref ρ h) (deref ρ k) x := id rfl
@[simp] theorem y_dhB {h k : Hd} : dhB h e k ρ = (eMat e ρ).bind (dhC h k) := id rfl
@[simp] theorem y_dhE {h : Hd} : dhE g e h ρ (some a) = if isDictD a = true then (g ρ).frz.bind (dhB h e) else .stuck := id rfl
@[simp] theorem y_dhA {h : Hd} : dhA g e h ρ = dhE g e h ρ (deref ρ h) := id rfl
@[simp] theorem y_dget3 : eDGet3 f g e ρ = (f ρ).frz.bind (dhA g e) := by
  unfold eDGet3
  refine bind_congr fun h ρ1 => ?_
  show _ = dhE g e h ρ1 (deref ρ1 h)
  cases deref ρ1 h with
  | none => rfl
  | some a0 =>
    show (if _ then _ else _) = (if _ then _ else _)
    split
    · refine bind_congr fun k ρ2 => ?_
      refine bind_congr fun x ρ3 => ?_
      show _ = dhD ρ3 (deref ρ3 h) (deref ρ3 k) x
      cases deref ρ3 h with
      | none => rfl
      | some a =>
        cases deref ρ3 k with
        | none => rfl
        | some b => cases x <;> rfl
    · rfl
def kcC (i : Nat) (b : Bnd) (c : Envi → R Bool) (e : Envi → R Hd) (vs : List Nat) (ρ : Envi) (o : Own) : Option (List D) → R Hd
  | some ds => if shortK o = true then opt3 (runComp b c e vs ds (wipeE (ρ.set i (.fz o.toD)) vs)) else .stuck
  | none => .stuck
def kcA (i : Nat) (b : Bnd) (c : Envi → R Bool) (e : Envi → R Hd) (vs : List Nat) (ρ : Envi) : Option Slot → R Hd
  | some (.ow o) => kcC i b c e vs ρ o (keysD o)
  | _ => .stuck
@[simp] theorem y_kcomp {b : Bnd} {c : Envi → R Bool} {vs : List Nat} : eKComp i b c e vs ρ = kcA i b c e vs ρ ρ[i]? := by
  unfold eKComp
  cases ρ[i]? with
  | none => rfl
  | some s =>
    cases s with
    | ow o =>
      show _ = kcC i b c e vs ρ o (keysD o)
      dsimp only
      cases keysD o <;> rfl
    | _ => rfl
@[simp] theorem y_kcA {b : Bnd} {c : Envi → R Bool} {vs : List Nat} : kcA i b c e vs ρ (some (.ow o)) = kcC i b c e vs ρ o (keysD o) := id rfl
@[simp] theorem y_kcC {b : Bnd} {c : Envi → R Bool} {vs : List Nat} {ds : List D} : kcC i b c e vs ρ o (some ds) = if shortK o = true then opt3 (runComp b c e vs ds (wipeE (ρ.set i (.fz o.toD)) vs)) else .stuck := id rfl
@[simp] theorem y_keys_t {l : List (List Key × D)} : keysD (.ti l) = some (l.map fun x => .tup (x.1.map dOfK)) := id rfl
@[simp] theorem y_keys_i {l : List (Key × D)} : keysD (.di l) = some (l.map fun x => dOfK x.1) := id rfl
end
end Pv


set_option Elab.async false
set_option linter.all false
set_option maxRecDepth 100000
set_option maxHeartbeats 4000000
namespace Fw
open PySem PySem.Spec PyProof.Rows L2 Pv
-- %
def sem_is_whole : Sem :=
  (sRet (eIf (tsE (eCB fIsi (aCons (eVar 0) (aCons (eC (.ty "int")) aNil)))) (eOfT (tsNot (tsE (eCB fIsi (aCons (eVar 0) (aCons (eC (.ty "bool")) aNil)))))) (eC (.bl false))))
-- %
def fs_is_whole : List D → Rf := fsOf 1 sem_is_whole
-- %
def sem_between : Sem :=
  (sRet (eIf (tsE (eCall fs_is_whole (aCons (eVar 0) aNil))) (eChain opLe opLe (eVar 1) (eVar 0) (eVar 2)) (eC (.bl false))))
-- %
def fs_between : List D → Rf := fsOf 3 sem_between
-- %
def sem_is_arrow : Sem :=
  (sSeq (sIf (tsOr (tsNot (tsE (eCB fIsi (aCons (eVar 0) (aCons (eC (.ty "tuple")) aNil))))) (tsE (eBin opNe (eCB fLen (aCons (eVar 0) aNil)) (eC (.int 3))))) (sRet (eC (.bl false))) sNext)
    (sSeq (sIf (tsOr (tsNot (tsE (eCall fs_between (aCons (eBin opIx (eVar 0) (eC (.int 0))) (aCons (eC (.int 0)) (aCons (eBin opSub (eVar 1) (eC (.int 1))) aNil)))))) (tsNot (tsE (eCall fs_between (aCons (eBin opIx (eVar 0) (eC (.int 1))) (aCons (eC (.int 0)) (aCons (eBin opSub (eVar 1) (eC (.int 1))) aNil))))))) (sRet (eC (.bl false))) sNext)
    (sRet (eIf (tsE (eBin opNe (eBin opIx (eVar 0) (eC (.int 0))) (eBin opIx (eVar 0) (eC (.int 1))))) (eCall fs_between (aCons (eBin opIx (eVar 0) (eC (.int 2))) (aCons (eC (.int 1)) (aCons (eC (.int 99)) aNil)))) (eC (.bl false))))))
-- %
def fs_is_arrow : List D → Rf := fsOf 2 sem_is_arrow
-- %
def ce_is_web_1 : Envi → R Hd :=
  (eCall fs_is_arrow (aCons (eVar 2) (aCons (eBin opIx (eVar 0) (eC (.int 0))) aNil)))
-- %
def ce_is_web_2 : Envi → R Hd :=
  (eBin opLtA (eSl (opSl false) (eBin opIx (eVar 1) (eVar 3)) pNo (pSome (eC (.int 2)))) (eSl (opSl false) (eBin opIx (eVar 1) (eBin opAdd (eVar 3) (eC (.int 1)))) pNo (pSome (eC (.int 2)))))
-- %
def sem_is_web : Sem :=
  (sSeq (sIf (tsOr (tsNot (tsE (eCB fIsi (aCons (eVar 0) (aCons (eC (.ty "tuple")) aNil))))) (tsOr (tsE (eBin opNe (eCB fLen (aCons (eVar 0) aNil)) (eC (.int 2)))) (tsNot (tsE (eCall fs_between (aCons (eBin opIx (eVar 0) (eC (.int 0))) (aCons (eC (.int 1)) (aCons (eC (.int 7)) aNil)))))))) (sRet (eC (.bl false))) sNext)
    (sSeq (sSet 1 (eBin opIx (eVar 0) (eC (.int 1))))
    (sSeq (sIf (tsOr (tsNot (tsE (eCB fIsi (aCons (eVar 1) (aCons (eC (.ty "tuple")) aNil))))) (tsNot (tsE (eCB fAll (aCons (eComp (itBy tupOf (eVar 1)) (bN 2) tTrue ce_is_web_1 [2]) aNil))))) (sRet (eC (.bl false))) sNext)
    (sRet (eCB fAll (aCons (eComp (itRng1 (aCons (eBin opSub (eCB fLen (aCons (eVar 1) aNil)) (eC (.int 1))) aNil)) (bN 3) tTrue ce_is_web_2 [3]) aNil))))))
-- %
def fs_is_web : List D → Rf := fsOf 4 sem_is_web
-- %
def sem_checked : Sem :=
  (sSeq (sIf (tsNot (tsE (eCall fs_is_web (aCons (eVar 0) aNil)))) (sRaise .noWeb) sNext)
    (sRet (eVar 0)))
-- %
def fs_checked : List D → Rf := fsOf 1 sem_checked
-- %
def ce_need_row_1 : Envi → R Hd :=
  (eCall fs_is_whole (aCons (eVar 2) aNil))
-- %
def sem_need_row : Sem :=
  (sSeq (sDrop (eCall fs_checked (aCons (eVar 0) aNil)))
    (sSeq (sIf (tsOr (tsNot (tsE (eCB fIsi (aCons (eVar 1) (aCons (eC (.ty "tuple")) aNil))))) (tsNot (tsE (eCB fAll (aCons (eComp (itBy tupOf (eVar 1)) (bN 2) tTrue ce_need_row_1 [2]) aNil))))) (sRaise .noRow) sNext)
    (sIf (tsE (eBin opNe (eCB fSorted (aCons (eCB fList (aCons (eVar 1) aNil)) aNil)) (eLRg1 (eBin opIx (eVar 0) (eC (.int 0)))))) (sRaise .noRow) sNext)))
-- %
def fs_need_row : List D → Rf := fsOf 3 sem_need_row
-- %
def ce_turned_by_1 : Envi → R Hd :=
  (eTup (aCons (eVar 4) (aCons (eVar 3) aNil)))
-- %
def ct_turned_by_2 : Envi → R Bool :=
  (tsE (eBin opGt (eBin opDGet (eVar 2) (eBin opIx (eVar 5) (eC (.int 0)))) (eBin opDGet (eVar 2) (eBin opIx (eVar 5) (eC (.int 1))))))
-- %
def sem_turned_by : Sem :=
  (sSeq (sSet 2 (eCB fDictK (aCons (eComp (itEnumT (aCons (eMat (eVar 1)) aNil)) (bT 2 (bsCons (bN 3) (bsCons (bN 4) bsNil))) tTrue ce_turned_by_1 [3, 4]) aNil)))
    (sRet (eComp (itBy tupOf (eBin opIx (eVar 0) (eC (.int 1)))) (bN 5) ct_turned_by_2 (eVar 5) [5])))
-- %
def fs_turned_by : List D → Rf := fsOf 6 sem_turned_by
-- %
def sem_turned : Sem :=
  (sSeq (sDrop (eCall fs_need_row (aCons (eVar 0) (aCons (eVar 1) aNil))))
    (sRet (eCall fs_turned_by (aCons (eVar 0) (aCons (eVar 1) aNil)))))
-- %
def fs_turned : List D → Rf := fsOf 2 sem_turned
-- %
def ce_weight_of_1 : Envi → R Hd :=
  (eBin opIx (eVar 2) (eC (.int 2)))
-- %
def sem_weight_of : Sem :=
  (sRet (eCB fSum (aCons (eComp (itBy lstOf (eCall fs_turned_by (aCons (eVar 0) (aCons (eVar 1) aNil)))) (bN 2) tTrue ce_weight_of_1 [2]) aNil)))
-- %
def fs_weight_of : List D → Rf := fsOf 3 sem_weight_of
-- %
def sem_weight : Sem :=
  (sSeq (sDrop (eCall fs_need_row (aCons (eVar 0) (aCons (eVar 1) aNil))))
    (sRet (eCall fs_weight_of (aCons (eVar 0) (aCons (eVar 1) aNil)))))
-- %
def fs_weight : List D → Rf := fsOf 2 sem_weight
-- %
def sem_L_cell_at : Sem :=
  (sSeq (sIf (tsE (eBin opLtA (eVar 1) (eCB fLen (aCons (eVar 0) aNil)))) (sRet (eBin opIx (eVar 0) (eVar 1))) sNext)
    (sSeq (sIf (tsE (eBin opEq (eVar 0) (eLst aNil))) (sRet (eC (.int 0))) sNext)
    (sRet (eBin opAdd (eBin opMul (eBin opIx (eVar 0) (eBin opMod (eVar 1) (eCB fLen (aCons (eVar 0) aNil)))) (eC (.int 31))) (eVar 1)))))
-- %
def fs_L_cell_at : List D → Rf := fsOf 2 sem_L_cell_at
-- %
def sem_L_mixed : Sem :=
  (sSeq (sSet 3 (eBin opMod (eBin opMul (eBin opAdd (eBin opAdd (eCall fs_L_cell_at (aCons (eVar 0) (aCons (eVar 1) aNil))) (eBin opMul (eC (.int 7919)) (eVar 1))) (eC (.int 1))) (eC (.int 48271))) (eC (.int 2147483647))))
    (sRet (eBin opMod (eBin opMod (eBin opAdd (eBin opAdd (eBin opMul (eVar 3) (eVar 3)) (eBin opMul (eC (.int 7)) (eVar 3))) (eVar 1)) (eC (.int 2147483629))) (eVar 2))))
-- %
def fs_L_mixed : List D → Rf := fsOf 4 sem_L_mixed
-- %
def bd_L_web_1 : Sem :=
  (sSeq (sSet 9 (eCall fs_L_mixed (aCons (eVar 0) (aCons (eBin opAdd (eBin opAdd (eBin opAdd (eVar 1) (eC (.int 3))) (eBin opMul (eC (.int 5)) (eVar 7))) (eVar 8)) (aCons (eBin opMul (eC (.int 10)) (eVar 5)) aNil)))))
    (sIf (tsAnd (tsE (eBin opNe (eVar 7) (eVar 8))) (tsE (eBin opLtA (eBin opMod (eVar 9) (eC (.int 10))) (eVar 4)))) (sDrop (eMut 6 okT "list" muAppend (aCons (eTup (aCons (eVar 7) (aCons (eVar 8) (aCons (eBin opAdd (eC (.int 1)) (eBin opDiv (eVar 9) (eC (.int 10)))) aNil)))) aNil))) sNext))
-- %
def bd_L_web_2 : Sem :=
  (sFor (itRng1 (aCons (eVar 3) aNil)) (bN 8) bd_L_web_1)
-- %
def sem_L_web : Sem :=
  (sSeq (sSet 3 (eBin opAdd (eC (.int 1)) (eCall fs_L_mixed (aCons (eVar 0) (aCons (eVar 1) (aCons (eVar 2) aNil))))))
    (sSeq (sSet 4 (eBin opAdd (eC (.int 3)) (eCall fs_L_mixed (aCons (eVar 0) (aCons (eBin opAdd (eVar 1) (eC (.int 1))) (aCons (eC (.int 6)) aNil))))))
    (sSeq (sSet 5 (eBin opIx (eLst (aCons (eC (.int 1)) (aCons (eC (.int 3)) (aCons (eC (.int 9)) (aCons (eC (.int 99)) aNil))))) (eCall fs_L_mixed (aCons (eVar 0) (aCons (eBin opAdd (eVar 1) (eC (.int 2))) (aCons (eC (.int 4)) aNil))))))
    (sSeq (sSet 6 (eLst aNil))
    (sSeq (sFor (itRng1 (aCons (eVar 3) aNil)) (bN 7) bd_L_web_2)
    (sRet (eTup (aCons (eVar 3) (aCons (eCB fTup (aCons (eVar 6) aNil)) aNil)))))))))
-- %
def fs_L_web : List D → Rf := fsOf 10 sem_L_web
-- %
def bd_L_row_1 : Sem :=
  (sDrop (eMut 4 okT "list" muAppend (aCons (eMut 3 okT "list" muPopAt (aCons (eCall fs_L_mixed (aCons (eVar 0) (aCons (eBin opAdd (eVar 1) (eVar 5)) (aCons (eCB fLen (aCons (eVar 3) aNil)) aNil)))) aNil)) aNil)))
-- %
def sem_L_row : Sem :=
  (sSeq (sSet 3 (eLRg1 (eVar 2)))
    (sSeq (sSet 4 (eLst aNil))
    (sSeq (sFor (itRng1 (aCons (eVar 2) aNil)) (bN 5) bd_L_row_1)
    (sRet (eCB fTup (aCons (eVar 4) aNil))))))
-- %
def fs_L_row : List D → Rf := fsOf 6 sem_L_row
-- %
def bd_L_weight_1 : Sem :=
  (sIf (tsE (eBin opGt (eMeth isKT opIndexT (eVar 1) (aCons (eVar 3) aNil)) (eMeth isKT opIndexT (eVar 1) (aCons (eVar 4) aNil)))) (sSet 2 (eBin opAdd (eVar 2) (eVar 5))) sNext)
-- %
def sem_L_weight : Sem :=
  (sSeq (sSet 2 (eC (.int 0)))
    (sSeq (sFor (itBy tupOf (eBin opIx (eVar 0) (eC (.int 1)))) (bT 3 (bsCons (bN 3) (bsCons (bN 4) (bsCons (bN 5) bsNil)))) bd_L_weight_1)
    (sRet (eVar 2))))
-- %
def fs_L_weight : List D → Rf := fsOf 6 sem_L_weight
-- %
def ce_weights_of_1 : Envi → R Hd :=
  (eTup (aCons (eTup (aCons (eVar 1) (aCons (eVar 2) aNil))) (aCons (eVar 3) aNil)))
-- %
def sem_weights_of : Sem :=
  (sRet (eCB fDictT (aCons (eComp (itBy tupOf (eBin opIx (eVar 0) (eC (.int 1)))) (bT 3 (bsCons (bN 1) (bsCons (bN 2) (bsCons (bN 3) bsNil)))) tTrue ce_weights_of_1 [1, 2, 3]) aNil)))
-- %
def fs_weights_of : List D → Rf := fsOf 4 sem_weights_of
-- %
def ce_turned_about_1 : Envi → R Hd :=
  (eTup (aCons (eVar 2) (aCons (eVar 1) (aCons (eVar 3) aNil))))
-- %
def sem_turned_about : Sem :=
  (sSeq (sDrop (eCall fs_checked (aCons (eVar 0) aNil)))
    (sRet (eTup (aCons (eBin opIx (eVar 0) (eC (.int 0))) (aCons (eCB fTup (aCons (eCB fSorted (aCons (eComp (itBy tupOf (eBin opIx (eVar 0) (eC (.int 1)))) (bT 3 (bsCons (bN 1) (bsCons (bN 2) (bsCons (bN 3) bsNil)))) tTrue ce_turned_about_1 [1, 2, 3]) aNil)) aNil)) aNil)))))
-- %
def fs_turned_about : List D → Rf := fsOf 4 sem_turned_about
-- %
def ce_joined_1 : Envi → R Hd :=
  (eTup (aCons (eBin opAdd (eVar 3) (eBin opIx (eVar 0) (eC (.int 0)))) (aCons (eBin opAdd (eVar 4) (eBin opIx (eVar 0) (eC (.int 0)))) (aCons (eVar 5) aNil))))
-- %
def sem_joined : Sem :=
  (sSeq (sDrop (eCall fs_checked (aCons (eVar 0) aNil)))
    (sSeq (sDrop (eCall fs_checked (aCons (eVar 1) aNil)))
    (sSeq (sIf (tsE (eBin opGt (eBin opAdd (eBin opIx (eVar 0) (eC (.int 0))) (eBin opIx (eVar 1) (eC (.int 0)))) (eC (.int 7)))) (sRaise .tooBig) sNext)
    (sSeq (sSet 2 (eComp (itBy tupOf (eBin opIx (eVar 1) (eC (.int 1)))) (bT 3 (bsCons (bN 3) (bsCons (bN 4) (bsCons (bN 5) bsNil)))) tTrue ce_joined_1 [3, 4, 5]))
    (sRet (eTup (aCons (eBin opAdd (eBin opIx (eVar 0) (eC (.int 0))) (eBin opIx (eVar 1) (eC (.int 0)))) (aCons (eBin opAdd (eBin opIx (eVar 0) (eC (.int 1))) (eCB fTup (aCons (eVar 2) aNil))) aNil))))))))
-- %
def fs_joined : List D → Rf := fsOf 6 sem_joined
-- %
def ct_L_rows_1 (rec : List D → Rf) : Envi → R Bool :=
  (tsE (eBin opNe (eVar 4) (eVar 2)))
-- %
def ce_L_rows_2 (rec : List D → Rf) : Envi → R Hd :=
  (eBin opAdd (eTupF (aCons (eVar 2) aNil)) (eVar 3))
-- %
def bd_L_rows_3 (rec : List D → Rf) : Sem :=
  (sDrop (eMut 1 okT "list" muExtend (aCons (eComp (itBy lstOf (eCall rec (aCons (eComp (itBy lstOf (eVar 0)) (bN 4) (ct_L_rows_1 rec) (eVar 4) [4]) aNil))) (bN 3) tTrue (ce_L_rows_2 rec) [3]) aNil)))
-- %
def sem_L_rows (rec : List D → Rf) : Sem :=
  (sSeq (sIf (tsE (eBin opEq (eVar 0) (eLst aNil))) (sRet (eLst (aCons (eTupF aNil) aNil))) sNext)
    (sSeq (sSet 1 (eLst aNil))
    (sSeq (sFor (itBy lstOf (eVar 0)) (bN 2) (bd_L_rows_3 rec))
    (sRet (eVar 1)))))
-- %
def fs_L_rows : Nat → List D → Rf
  | 0 => fun _ => .stuck
  | n + 1 => fsOf 5 (sem_L_rows (fs_L_rows n))
-- %
end Fw

set_option Elab.async false
set_option linter.all false
set_option maxRecDepth 100000
set_option maxHeartbeats 2000000
namespace Pv
open PySem PySem.Spec PyProof.Rows L2
/-- more turns than a desk has -/
def deskN : Nat := 2 ^ 2000
/-! x.f[i] = y, f a list of ours -/
def slE (k : Nat) (d : D) (ρ2 : Envi) (l : List D) : Option Nat → Fl
  | some j => .nx (ρ2.set k (.ow (.li (l.set j d))))
  | none => .stuck
def slD (k : Nat) (d : D) (i : Int) (ρ2 : Envi) : Option Slot → Fl
  | some (.ow (.li l)) => slE k d ρ2 l (ixN l.length i)
  | _ => .stuck
def slC (k : Nat) (d : D) (y : Hd) (ρ2 : Envi) : Fl := match y with
  | .dat (.int i) => slD k d i ρ2 ρ2[k]?
  | _ => .stuck
def slB (k : Nat) (g : Envi → R Hd) (d : D) (ρ1 : Envi) : Option Slot → Fl
  | some (.ow _) => (eMat g ρ1).toFl (slC k d)
  | _ => .stuck
def slA (k : Nat) (ok : Envi → Bool) (g : Envi → R Hd) (x : Hd) (ρ1 : Envi) : Fl := match x with
  | .dat d => if ok ρ1 = true then slB k g d ρ1 ρ1[k]? else .stuck
  | _ => .stuck
def sSetLP (k : Nat) (ok : Envi → Bool) (g e : Envi → R Hd) : Sem := fun ρ => (eMat e ρ).toFl (slA k ok g)
section
variable {ρ : Envi} {k : Nat} {d : D} {g e : Envi → R Hd} {ok : Envi → Bool}
@[simp] theorem y_slE {l : List D} {j : Nat} : slE k d ρ l (some j) = .nx (ρ.set k (.ow (.li (l.set j d)))) := id rfl
@[simp] theorem y_slD {l : List D} {i : Int} : slD k d i ρ (some (.ow (.li l))) = slE k d ρ l (ixN l.length i) := id rfl
@[simp] theorem y_slC {i : Int} : slC k d (.dat (.int i)) ρ = slD k d i ρ ρ[k]? := id rfl
@[simp] theorem y_slB {o : Own} : slB k g d ρ (some (.ow o)) = (eMat g ρ).toFl (slC k d) := id rfl
@[simp] theorem y_slA : slA k ok g (.dat d) ρ = if ok ρ = true then slB k g d ρ ρ[k]? else .stuck := id rfl
@[simp] theorem y_setLP : sSetLP k ok g e ρ = (eMat e ρ).toFl (slA k ok g) := id rfl
end
section
variable {P : Pr} {m : Bool} {W : WX} {to te tb : TE} {g e : Envi → R Hd}
theorem snd_setLP {k : Nat} {ok : Envi → Bool} (hp : SndP P to k ok) (hg : SndE P m W tb g) (he : SndE P true W te e) (hk : m = false ∨ k < P.n) : SndS P W (tAsg te (gSub to tb rSetL)) (sSetLP k ok g e) := fun B F0 F H σ ob ρ D w q => by
  refine snd_mat he B F0 F H σ ob ρ _ w (Post.of_toFl (H := H) (ρ := ρ) q ?_)
  rintro x ρ1 B1 F1 H1 ob1 v w1 s1 i1 r1 q
  cases x with
  | dat d =>
    obtain ⟨rfl, r1⟩ := r1
    unfold slA at q
    dsimp only at q
    split at q
    · rename_i hok
      cases e0 : ρ1[k]? with
      | none => rw [e0] at q; exact q.elim
      | some sl =>
        rw [e0] at q
        cases sl with
        | ow o0 =>
          unfold slB at q
          dsimp only at q
          obtain ⟨a, ho, h1, h2, h3, h4, h5, h6, h7⟩ := w1.owned e0
          refine hp _ F0 F1 H1 σ ob1 ρ1 _ _ w1 hok h1 ?_
          refine snd_mat hg _ F0 F1 H1 σ ob1 ρ1 _ w1 (Post.of_toFl (H := H) (ρ := ρ) (q.shift s1) ?_)
          rintro y ρ2 B2 F2 H2 ob2 u w2 s2 i2 r2 q
          cases y with
          | dat b =>
            obtain ⟨rfl, r2⟩ := r2
            cases b with
            | int i =>
              cases r2
              unfold slC at q
              dsimp only at q
              cases e1 : ρ2[k]? with
              | none => rw [e1] at q; exact q.elim
              | some sl =>
                rw [e1] at q
                cases sl with
                | ow o =>
                  cases o with
                  | li l =>
                    unfold slD at q
                    dsimp only at q
                    cases e2 : ixN l.length i with
                    | none => rw [e2] at q; exact q.elim
                    | some j =>
                      rw [e2] at q
                      obtain ⟨a', ho', g1, g2, g3, g4, g5, g6, g7⟩ := w2.owned e1
                      have := tau_keep (m := m) (F2 := F1) (H2 := H1) (ρ2 := ρ1) w1 hk i2 h1
                      rw [g1] at this
                      cases this
                      obtain ⟨us, rfl, z1, z2⟩ := g3
                      have lz := z2.length
                      exact ⟨_, us, i, j, rfl, rfl, g2, by rw [lz]; exact e2, q F2 _ σ ob2 (g6 (.lst (us.set j v)) (.li (l.set j d)) ⟨_, rfl, by rw [List.length_set]; exact z1, z2.set (Rep.mono s2 r1) j⟩) s2⟩
                  | _ => exact q.elim
                | _ => exact q.elim
            | _ => exact q.elim
          | _ => exact q.elim
        | _ => exact q.elim
    · exact q.elim
  | _ => exact q.elim
end
/-! rules whose text's state is told -/
theorem pe_fldK {X : Cx} {K : PySem.W.Frag} {e : Expr} {f : Str} {pos : Pos} {ta : TE} (he : PE X e ta) (hb : attributeBase e f X.env (eval e X.env) = eval e X.env) (hK : X.K = K := by rfl) : PE X (.Attribute e f pos) (tFld K ta f) := by subst hK; exact pe_fld he hb
theorem call_lenK {X : Cx} {K : PySem.W.Frag} (hK : X.K = K := by rfl) : CallR X (.builtin "len") (rLenA K) := by subst hK; exact call_lenA
theorem op_addAllK {X : Cx} {K : PySem.W.Frag} (hK : X.K = K := by rfl) : OpR X (binaryOp .Add) (rAddAll K) := by subst hK; exact op_addAll
theorem sl_APK {X : Cx} {K : PySem.W.Frag} (hK : X.K = K := by rfl) : SlR X (rSlAP K) := by subst hK; exact sl_AP
theorem op_inAK {X : Cx} {K : PySem.W.Frag} (hu : X.A.units + 65 < cLine) (hK : X.K = K := by rfl) : OpR X (compareOp .In) (rInA K) := by subst hK; exact op_inA hu
end Pv

set_option Elab.async false
set_option linter.all false
set_option maxRecDepth 100000
/-! dicts gone through: a field's, one that is handed in; list(d) -/
namespace L2
open PySem PySem.Spec PyProof.Rows
def tOrE (t t' : TE) : TE := fun σ H Q => t σ H Q ∨ t' σ H Q
theorem pe_orE {X : Cx} {e : Expr} {t t' : TE} (h : PE X e t) (h' : PE X e t') : PE X e (tOrE t t') := ⟨fun pins s σ H Q I hw => hw.elim (h.run pins s σ H Q I) (h'.run pins s σ H Q I)⟩
theorem mt_indexDK {X : Cx} {K : PySem.W.Frag} (hu : X.A.units + 65 < cLine) (hK : X.K = K := by rfl) : MtR X "list.index" (rIndexD K) := by subst hK; exact mt_indexD hu
theorem pe_bmK {X : Cx} {K : PySem.W.Frag} {o e : Expr} {es : List Expr} {name : Str} {T id : String} {apos cpos : Pos} {r : V → List V → Hp → VK → Prop} {to : TE} {t : TA} (pa : PlainAttrs T) (slot : Slot T name id) (hty : typeOf (.builtin id) = pure (.type "method_descriptor")) (hm : MtR X id r) (ho : PE X o to) (ha : PA X (e :: es) t) (hK : X.K = K := by rfl)
    (hbase : attributeBase o name X.env (eval o X.env) = eval o X.env := by rfl)
    (hfew : ((backTo cpos (starEach (e :: es) X.env)).all (fun x => !x.1) && (backToKw cpos (keywordEach [] X.env)).all (fun x => x.1.isSome)
      && decide ((e :: es).length + ([] : List Keyword).length + (if ([] : List Keyword).isEmpty then 0 else 1) < 30)) = true := by rfl)
    (hline : (apos.endLine == cpos.line) = true := by rfl) (hs : starEach (e :: es) X.env = (false, eval e X.env) :: starEach es X.env := by rfl) (hplain : (backTo cpos (starEach es X.env)).any (·.1) = false := by rfl) :
    PE X (.Call (.Attribute o name apos) (e :: es) [] cpos) (tBM K T r to t) := by
  subst hK
  exact pe_bm pa slot hty hm ho ha hbase hfew hline hs hplain
theorem pe_lockO {X : Cx} {e : Expr} {t : TE} (h : PE X e t) : PE X e (tOrE (tLockE t) t) := pe_orE (pe_lock h) h
end L2
namespace Pv
open PySem PySem.Spec PyProof.Rows L2
def kcpC (b : Bnd) (c : Envi → R Bool) (e : Envi → R Hd) (vs : List Nat) (ds : List D) (ρ : Envi) : R Hd := opt3 (runComp b c e vs ds (wipeE ρ vs))
def eKCompP (i : Nat) (okp : Envi → Bool) (b : Bnd) (c : Envi → R Bool) (e : Envi → R Hd) (vs : List Nat) : Envi → R Hd := fun ρ => match ρ[i]? with
  | some (.ow o) => match keysD o with
    | some ds => if (shortK o && okp (ρ.set i (.fz o.toD))) = true then opt3 (runComp b c e vs ds (wipeE (ρ.set i (.fz o.toD)) vs)) else .stuck
    | none => .stuck
  | _ => .stuck
section
variable {P : Pr} {m : Bool} {W : WX} {te ta tb : TE} {f : Envi → R Hd} {B F0 F H : Hp} {σ : L2.St} {ob : Ob} {ρ : Envi} {K : PySem.W.Frag}
theorem snd_kcompP {us vs : List Nat} {i : Nat} {tp : TE} {okp : Envi → Bool} {tg : TG} {b : Bnd} {tt : TT} {c : Envi → R Bool} {e : Envi → R Hd} (hp : SndP P tp i okp) (hg : SndG P us tg b) (hc : SndT P m W0 tt c) (he : SndE P m W0 te e) (hu : ∀ u ∈ us, u ∈ vs := by decide) :
    SndE P m W (tLockE (tLc (iKeys tp) tg tt te vs)) (eKCompP i okp b c e vs) := fun B F0 F H σ ob ρ Q w q => by
  unfold eKCompP at q
  cases e1 : ρ[i]? with
  | none => rw [e1] at q; exact q.elim
  | some s =>
    rw [e1] at q
    cases s with
    | ow o =>
      dsimp only at q
      cases e2 : keysD o with
      | none => rw [e2] at q; exact q.elim
      | some ds =>
        rw [e2] at q
        dsimp only at q
        split at q
        · rename_i hsh0
          rw [Bool.and_eq_true] at hsh0
          obtain ⟨hsh, hok⟩ := hsh0
          obtain ⟨a, ho, t1, t2, t3, fa, ba, wl⟩ := w.lockSlot e1 e2
          have nt : ∀ us, ho ≠ .tup us := fun us => t3.notTup
          have key : Mut (some ho) ∧ (∀ us, ho ≠ .lst us) ∧ ds.length ≤ sizeLine ∧ ∀ (od : Obj) (R : It → Hp → Prop), (∀ J, ItOk P.K J (upd F a (.frz od ho)) ds → R J (upd H a (.frz od ho))) → iKeys tp σ (upd H a (.frz od ho)) R := by
            cases o with
            | li l => cases e2
            | di l =>
              obtain ⟨kvs, rfl, g2, g3⟩ := t3
              cases e2
              have hk : (l.map fun x => dOfK x.1) = kvs.map fun x => dOfK x.1 := by
                have := g3.keys
                have h2 := congrArg (List.map dOfK) this
                rw [List.map_map, List.map_map] at h2
                exact h2.symm
              refine ⟨True.intro, (fun us z => nomatch z), ?_, fun od R h => hp B F0 _ _ σ ob _ _ _ (wl od) hok t1 ⟨a, od, rfl, .inl ⟨kvs, upd_same, h _ ?_⟩⟩⟩
              · rw [hk, List.length_map]; exact g2
              · rw [hk]; exact itOk_keys upd_same
            | ti l =>
              obtain ⟨kvs, rfl, g2, g3⟩ := t3
              cases e2
              have hk : (l.map fun x => D.tup (x.1.map dOfK)) = kvs.map fun x => D.tup (x.1.map dOfK) := by
                have := g3.keys
                have h2 := congrArg (List.map fun k : List Key => D.tup (k.map dOfK)) this
                rw [List.map_map, List.map_map] at h2
                exact h2.symm
              refine ⟨True.intro, (fun us z => nomatch z), ?_, fun od R h => hp B F0 _ _ σ ob _ _ _ (wl od) hok t1 ⟨a, od, rfl, .inr ⟨kvs, upd_same, h _ ?_⟩⟩⟩
              · rw [hk, List.length_map]; exact g2
              · rw [hk]
                refine itOk_keysT upd_same fun x hx => ?_
                have hm : x.1 ∈ l.map (·.1) := by rw [← g3.keys]; exact List.mem_map.mpr ⟨x, hx, rfl⟩
                obtain ⟨y, hy, e3⟩ := List.mem_map.mp hm
                have hsh : (l.all fun x => decide (x.1.length ≤ 100)) = true := hsh
                have := of_decide_eq_true (List.all_eq_true.mp hsh y hy)
                rw [← e3]
                exact Nat.le_trans this (by decide)
          obtain ⟨mu, nl, hsz, hkeys⟩ := key
          refine ⟨a, ho, t2, mu, fun od => ?_⟩
          have f0 : F0 a = none := w.ff.free fa
          refine comp_at (m := m) (W := W) (wl od) hsz (hkeys od) hg hc he ?_ hu
          cases e3 : opt3 (runComp b c e vs ds (wipeE (ρ.set i (.fz o.toD)) vs)) with
          | stuck => rw [e3] at q; exact q.elim
          | exc x ρ2 =>
            cases e4 : runComp b c e vs ds (wipeE (ρ.set i (.fz o.toD)) vs) with
            | none => rw [e4] at e3; cases e3
            | some y => rw [e4] at e3; cases e3
          | ok hd ρ2 =>
            rw [e3] at q
            cases e4 : runComp b c e vs ds (wipeE (ρ.set i (.fz o.toD)) vs) with
            | none => rw [e4] at e3; cases e3
            | some y =>
              obtain ⟨l, ρ3⟩ := y
              rw [e4] at e3
              cases e3
              rintro B' F' H' ob' v w' s i' ⟨D, hD, rfl, rfl, bD, fD, hr⟩
              have hF : F' a = some (.frz od ho) := s _ _ upd_same
              have hH : H' a = some (.frz od ho) := w'.fh _ _ hF
              have hDa : D ≠ a := ne_of_some_none hF fD
              have ba' : (upd B D hD) a = none := by rw [upd_ne hDa.symm]; exact ba
              have un := unl_upd hF nt nl
              refine ⟨hH, ?_⟩
              refine q (upd B D hD) (upd F' a ho) (upd H' a ho) ob' _ (w'.unlock hF nt nl f0 ba') (fun b x e => ?_) i' ⟨D, hD, rfl, rfl, bD, by rw [upd_ne hDa]; exact fD, hr.unl un⟩
              have hb : b ≠ a := ne_of_none e fa
              rw [upd_ne hb]
              exact s _ _ (by rw [upd_ne hb]; exact e)
        · exact q.elim
    | _ => exact q.elim

/-! a dict handed in -/
def Lk (F F' : Hp) : Prop := ∀ b x, F b = some x → F' b = some x ∨ ∃ od, F' b = some (.frz od x) ∧ (∀ vs, x ≠ .tup vs) ∧ (∀ vs, x ≠ .lst vs) ∧ ∀ od u, x ≠ .frz od u
theorem Lk.rd {F' : Hp} (h : Lk F F') {a : Addr} {u : HO} (r : Rd F a u) : Rd F' a u := by
  rcases r with r | ⟨o, r⟩
  · rcases h _ _ r with z | ⟨od, z, _⟩
    · exact .inl z
    · exact .inr ⟨od, z⟩
  · rcases h _ _ r with z | ⟨od, z, _, _, z4⟩
    · exact .inr ⟨o, z⟩
    · exact absurd rfl (z4 _ _)
theorem Lk.sq {F' : Hp} (h : Lk F F') {a : Addr} {xs : List V} (r : SqL K F a xs) : SqL K F' a xs := by
  rcases r with r | r
  · exact .inl (h.rd r)
  · exact .inr r
theorem Lk.kt {F' : Hp} (h : Lk F F') {a : Addr} {xs : List V} (r : KTup K F a xs) : KTup K F' a xs := by
  rcases r with ⟨o, r, d⟩ | r
  · rcases h _ _ r with z | ⟨od, z, _, _, z4⟩
    · exact .inl ⟨o, z, d⟩
    · exact absurd rfl (z4 _ _)
  · exact .inr r
mutual
theorem Rep.lk {F' : Hp} (e : Lk F F') : ∀ {v : V} {d : D}, Rep K F v d → Rep K F' v d
  | _, _, .non => .non
  | _, _, .bl _ => .bl _
  | _, _, .int _ => .int _
  | _, _, .str _ => .str _
  | _, _, .tup a b c => .tup ((e _ _ a).elim id fun ⟨_, _, z, _⟩ => absurd rfl (z _)) b (Reps.lk e c)
  | _, _, .ktup a b c => .ktup (e.kt a) b (Reps.lk e c)
  | _, _, .lst a b c => .lst ((e _ _ a).elim id fun ⟨_, _, _, z, _⟩ => absurd rfl (z _)) b (Reps.lk e c)
  | _, _, .klst a b c => .klst (e.sq a) b (Reps.lk e c)
  | _, _, .dk a b c => .dk (e.rd a) b (Reps.lk e c)
  | _, _, .dt a b c => .dt (e.rd a) b (Reps.lk e c)
  | _, _, .adr _ => .adr _
  | _, _, .ty _ => .ty _
theorem Reps.lk {F' : Hp} (e : Lk F F') : ∀ {vs : List V} {ds : List D}, Reps K F vs ds → Reps K F' vs ds
  | _, _, .nil => .nil
  | _, _, .cons a b => .cons (Rep.lk e a) (Reps.lk e b)
end
theorem OwnR.lk {F' : Hp} (e : Lk F F') {ho : HO} : ∀ {o : Own}, OwnR K F ho o → OwnR K F' ho o
  | .li _, ⟨vs, h1, h2, h3⟩ => ⟨vs, h1, h2, h3.lk e⟩
  | .di _, ⟨vs, h1, h2, h3⟩ => ⟨vs, h1, h2, Paired.mapP h3 fun _ _ z => ⟨z.1, z.2.lk e⟩⟩
  | .ti _, ⟨vs, h1, h2, h3⟩ => ⟨vs, h1, h2, Paired.mapP h3 fun _ _ z => ⟨z.1, z.2.lk e⟩⟩
def cutH (F : Hp) (a : Addr) : Hp := fun b => if b = a then none else F b
theorem cutH_ne {a b : Addr} (h : b ≠ a) : cutH F a b = F b := if_neg h
theorem cutH_same {a : Addr} : cutH F a a = none := if_pos rfl
theorem Wf.lockF {a : Addr} {u : HO} (w : Wf P B F0 F H σ ob ρ) (h : F a = some u) (h1 : ∀ vs, u ≠ .tup vs) (h2 : ∀ vs, u ≠ .lst vs) (h3 : ∀ od v, u ≠ .frz od v) (od : Obj) :
    Wf P (cutH B a) (cutH F0 a) (upd F a (.frz od u)) (upd H a (.frz od u)) σ ob ρ := by
  obtain ⟨fh, bh, ff, nw, n, len, ⟨al, s1, s2, s3⟩, hob⟩ := w
  have un : Lk F (upd F a (.frz od u)) := fun b x e => by
    by_cases hb : b = a
    · subst hb
      rw [h] at e
      cases e
      exact .inr ⟨od, upd_same, h1, h2, h3⟩
    · exact .inl (by rw [upd_ne hb]; exact e)
  refine ⟨fun b x e => ?_, fun b x e => ?_, fun b x e => ?_, fun b x e => ?_, n, len, ⟨al, fun j t hj => ?_, fun j t hj ht => ?_, s3⟩, fun q fv e => ?_⟩
  · by_cases hb : b = a
    · subst hb; rw [upd_same] at e ⊢; exact e
    · rw [upd_ne hb] at e ⊢; exact fh _ _ e
  · by_cases hb : b = a
    · subst hb; rw [cutH_same] at e; cases e
    · rw [cutH_ne hb] at e; rw [upd_ne hb]; exact bh _ _ e
  · by_cases hb : b = a
    · subst hb; rw [cutH_same] at e; cases e
    · rw [cutH_ne hb] at e; rw [upd_ne hb]; exact ff _ _ e
  · by_cases hb : b = a
    · subst hb; exact .inr (.inl cutH_same)
    · rw [upd_ne hb] at e; rw [cutH_ne hb, cutH_ne hb]; exact nw _ _ e
  · have x := s1 j t hj
    cases t with
    | un => exact True.intro
    | fz d => obtain ⟨v, e1, e2⟩ := x; exact ⟨v, e1, e2.lk un⟩
    | ow o =>
      obtain ⟨e1, v, e2, e3⟩ := x
      have hne : al j ≠ a := ne_of_some_none h (s2 j _ hj rfl).1
      exact ⟨e1, v, by rw [upd_ne hne]; exact e2, e3.lk un⟩
    | self => exact x
  · have hne : al j ≠ a := ne_of_some_none h (s2 j _ hj ht).1
    rw [upd_ne hne, cutH_ne hne]
    exact s2 j t hj ht
  · have x := hob q fv e
    have hq : q ≠ a := ne_of_some_none h x.fp
    exact x.keep (fun h => by rw [upd_ne hq]; exact h) (fun h => by rw [cutH_ne hq]; exact h) fun u hu => by rw [upd_ne hq]; exact hu
theorem Wf.uncut {a : Addr} {u : HO} {F3 H3 B3 : Hp} {ob3 : Ob} {ρ3 : Envi} (w : Wf P B F0 F H σ ob ρ) (h : F a = some u) (ht : ∀ vs, u ≠ .tup vs) (w3 : Wf P (cutH B3 a) (cutH F0 a) F3 H3 σ ob3 ρ3) (h3 : F3 a = some u) (hB : ∀ b, b = a → B3 b = B b) : Wf P B3 F0 F3 H3 σ ob3 ρ3 := by
  obtain ⟨fh, bh, ff, nw, n, len, ⟨al, s1, s2, s3⟩, hob⟩ := w3
  refine ⟨fh, fun b x e => ?_, fun b x e => ?_, fun b x e => ?_, n, len, ⟨al, s1, fun j t hj ht => ?_, s3⟩, fun q fv e => ?_⟩
  · by_cases hb : b = a
    · rw [hB b hb] at e
      have g1 := w.bh b x e
      rw [hb] at g1
      have g2 := w.fh a u h
      rw [g2] at g1
      cases g1
      rw [hb]; exact fh _ _ h3
    · exact bh b x (by rw [cutH_ne hb]; exact e)
  · by_cases hb : b = a
    · have g1 := w.ff b x e
      rw [hb, h] at g1
      cases g1
      rw [hb]; exact h3
    · exact ff b x (by rw [cutH_ne hb]; exact e)
  · by_cases hb : b = a
    · rw [hb, h3] at e
      cases e
      rcases w.nw a u h with g | g | ⟨vs, g⟩
      · exact .inl (by rw [hb]; exact g)
      · exact .inr (.inl (by rw [hB b hb, hb]; exact g))
      · exact absurd g (ht vs)
    · have g := nw b x e
      rw [cutH_ne hb, cutH_ne hb] at g
      exact g
  · have g := s2 j t hj ht
    have hne : al j ≠ a := ne_of_some_none h3 g.1
    rw [cutH_ne hne] at g
    exact g
  · have x := hob q fv e
    have hq : q ≠ a := ne_of_some_none h3 x.fp
    exact x.keep (fun h => h) (fun h => by rw [cutH_ne hq] at h; exact h) fun u hu => hu
def shortL (ks : List (List Key)) : Bool := ks.all fun k => decide (k.length ≤ 100)
def keysF : D → Option (List D)
  | .dk ks _ => some (ks.map dOfK)
  | .dt ks _ => if shortL ks = true then some (ks.map fun k => .tup (k.map dOfK)) else none
  | _ => none
def fkC (b : Bnd) (c : Envi → R Bool) (e : Envi → R Hd) (vs : List Nat) (ρ : Envi) : Option (List D) → R Hd
  | some ds => opt3 (runComp b c e vs ds (wipeE ρ vs))
  | none => .stuck
def fkA (b : Bnd) (c : Envi → R Bool) (e : Envi → R Hd) (vs : List Nat) (ρ : Envi) : Option Slot → R Hd
  | some (.fz d) => fkC b c e vs ρ (keysF d)
  | _ => .stuck
def eFKComp (i : Nat) (b : Bnd) (c : Envi → R Bool) (e : Envi → R Hd) (vs : List Nat) : Envi → R Hd := fun ρ => fkA b c e vs ρ ρ[i]?
theorem opt3_none {x : Option (List D × Envi)} {c : Exc} {ρ' : Envi} (h : opt3 x = .exc c ρ') : False := by
  cases x with
  | none => cases h
  | some y => cases h
theorem snd_fkcomp {us vs : List Nat} {i : Nat} {tg : TG} {b : Bnd} {tt : TT} {c : Envi → R Bool} {e : Envi → R Hd} (hi : i < P.n) (hg : SndG P us tg b) (hc : SndT P m W0 tt c) (he : SndE P m W0 te e) (hu : ∀ u ∈ us, u ∈ vs := by decide) :
    SndE P m W (tOrE (tLockE (tLc (iKeys (tVar i)) tg tt te vs)) (tLc (iKeys (tVar i)) tg tt te vs)) (eFKComp i b c e vs) := fun B F0 F H σ ob ρ Q w q => by
  unfold eFKComp fkA at q
  split at q
  · rename_i d e1
    cases e2 : keysF d with
    | none => rw [e2] at q; exact q.elim
    | some ds =>
      rw [e2] at q
      have q : Post P B F0 F σ ob m W (RelE P B σ) Q (opt3 (runComp b c e vs ds (wipeE ρ vs))) := q
      have hslot : ∃ a, σ[i]? = some (some (.ref a)) ∧ Rep P.K F (.ref a) d := by
        obtain ⟨al, s1, _⟩ := w.sl
        obtain ⟨v, g1, g2⟩ := s1 i _ e1
        have hil : i < σ.length := by rw [w.n]; exact hi
        rw [tau_lt hil] at g1
        have g3 : σ[i]? = some (some v) := by
          rw [List.getElem?_eq_getElem hil] at g1 ⊢
          rw [show σ[i] = some v from g1]
        cases g2 with
        | dk a b c => exact ⟨_, g3, .dk a b c⟩
        | dt a b c => exact ⟨_, g3, .dt a b c⟩
        | _ => cases e2
      obtain ⟨a, hσ, hr⟩ := hslot
      -- the keys, where the dict is locked
      have key : ∃ u, Rd F a u ∧ (∀ vs, u ≠ .tup vs) ∧ (∀ vs, u ≠ .lst vs) ∧ (∀ od v, u ≠ .frz od v) ∧ Mut (some u) ∧ ds.length ≤ sizeLine ∧ ∀ (od : Obj) (F2 H2 : Hp) (R : It → Hp → Prop), F2 a = some (.frz od u) → H2 a = some (.frz od u) → (∀ J, ItOk P.K J F2 ds → R J H2) → iKeys (tVar i) σ H2 R := by
        cases hr with
        | @dk _ kvs vals h1 h2 h3 =>
          cases e2
          refine ⟨_, h1, (fun _ z => nomatch z), (fun _ z => nomatch z), (fun _ _ z => nomatch z), True.intro, by rw [List.length_map, List.length_map]; exact h2, fun od F2 H2 R k1 k2 hJ => ⟨_, hσ, a, od, rfl, .inl ⟨kvs, k2, hJ _ ?_⟩⟩⟩
          rw [List.map_map]
          exact itOk_keys k1
        | @dt _ kvs vals h1 h2 h3 =>
          have e2 : (if shortL (kvs.map (·.1)) = true then some ((kvs.map (·.1)).map fun k => D.tup (k.map dOfK)) else none) = some ds := e2
          split at e2
          · rename_i hsh
            cases e2
            refine ⟨_, h1, (fun _ z => nomatch z), (fun _ z => nomatch z), (fun _ _ z => nomatch z), True.intro, by rw [List.length_map, List.length_map]; exact h2, fun od F2 H2 R k1 k2 hJ => ⟨_, hσ, a, od, rfl, .inr ⟨kvs, k2, hJ _ ?_⟩⟩⟩
            rw [List.map_map]
            refine itOk_keysT k1 fun x hx => ?_
            have := of_decide_eq_true (List.all_eq_true.mp hsh x.1 (List.mem_map.mpr ⟨x, hx, rfl⟩))
            exact Nat.le_trans this (by decide)
          · cases e2
        | _ => cases e2
      obtain ⟨u, hrd, nt, nl, nf, mu, hsz, hkeys⟩ := key
      rcases hrd with hF | ⟨od, hF⟩
      · left
        have hH := w.fh _ _ hF
        refine ⟨a, u, hH, mu, fun od => ?_⟩
        have wl := w.lockF hF nt nl nf od
        refine comp_at (m := m) (W := W) wl hsz (fun R h => hkeys od _ _ R upd_same upd_same h) hg hc he ?_ hu
        cases e4 : runComp b c e vs ds (wipeE ρ vs) with
        | none => rw [e4] at q; exact q
        | some y =>
          obtain ⟨l, ρ3⟩ := y
          rw [e4] at q
          rintro B' F' H' ob' v w' s i' ⟨D, hD, rfl, rfl, bD, fD, hr'⟩
          have hF' : F' a = some (.frz od u) := s _ _ upd_same
          have hH' : H' a = some (.frz od u) := w'.fh _ _ hF'
          have hDa : D ≠ a := ne_of_some_none hF' fD
          have un := unl_upd hF' nt nl
          have ba' : (upd (cutH B a) D hD) a = none := by rw [upd_ne hDa.symm]; exact cutH_same
          have w2 := w'.unlock hF' nt nl cutH_same ba'
          have eB : upd (cutH B a) D hD = cutH (upd B D hD) a := by
            funext b
            by_cases hb : b = a
            · rw [hb, upd_ne hDa.symm, cutH_same, cutH_same]
            · rw [cutH_ne hb]
              by_cases hbD : b = D
              · rw [hbD, upd_same, upd_same]
              · rw [upd_ne hbD, upd_ne hbD, cutH_ne hb]
          rw [eB] at w2
          have w3 := w.uncut hF nt w2 upd_same (fun b hb => by rw [hb, upd_ne hDa.symm])
          rw [cutH_ne hDa] at bD
          refine ⟨hH', ?_⟩
          refine q (upd B D hD) (upd F' a u) (upd H' a u) ob' _ w3 (fun b x e => ?_) i' ⟨D, hD, rfl, rfl, bD, by rw [upd_ne hDa]; exact fD, hr'.unl un⟩
          by_cases hb : b = a
          · rw [hb, hF] at e
            cases e
            rw [hb, upd_same]
          · rw [upd_ne hb]
            exact s _ _ (by rw [upd_ne hb]; exact e)
      · right
        exact comp_at (m := m) (W := W) w hsz (fun R h => hkeys od _ _ R hF (w.fh _ _ hF) h) hg hc he q hu
  · exact q.elim
/-! list(d) -/
def dictKeys : D → Option (List D)
  | .dk ks _ => some (ks.map dOfK)
  | .dt ks _ => if shortL ks = true then some (ks.map fun k => .tup (k.map dOfK)) else none
  | _ => none
def fListK (ds : List D) : Rf := match ds with
  | [d] => match dictKeys d with
    | some es => .ow (.li es)
    | none => .stuck
  | _ => .stuck
theorem nx_fListK (ds : List D) (e : Exc) : fListK ds ≠ .exc e := by
  unfold fListK
  intro z
  (repeat' split at z) <;> cases z
theorem BRep.dictK {F H : Hp} {v : V} {ks : List Key} {l : List D} (s : Same F H) (h : BRep K F H v (.dk ks l)) : ∃ a kvs, v = .ref a ∧ Rd H a (.dK kvs) ∧ kvs.length ≤ sizeLine ∧ ks = kvs.map (·.1) := by
  rcases h with h | ⟨a, ho, o, rfl, h1, h2, e⟩
  · cases h with
    | dk a b c => exact ⟨_, _, rfl, same_rd s a, b, rfl⟩
  · cases o with
    | di kvs =>
      obtain ⟨kv, rfl, h3, h4⟩ := h2
      cases e
      exact ⟨a, kv, rfl, .inl h1, h3, h4.keys.symm⟩
    | _ => cases e
theorem BRep.dictT {F H : Hp} {v : V} {ks : List (List Key)} {l : List D} (s : Same F H) (h : BRep K F H v (.dt ks l)) : ∃ a kvs, v = .ref a ∧ Rd H a (.dT kvs) ∧ kvs.length ≤ sizeLine ∧ ks = kvs.map (·.1) := by
  rcases h with h | ⟨a, ho, o, rfl, h1, h2, e⟩
  · cases h with
    | dt a b c => exact ⟨_, _, rfl, same_rd s a, b, rfl⟩
  · cases o with
    | ti kvs =>
      obtain ⟨kv, rfl, h3, h4⟩ := h2
      cases e
      exact ⟨a, kv, rfl, .inl h1, h3, h4.keys.symm⟩
    | _ => cases e
theorem grow_keys {F H : Hp} : ∀ {kvs : List (List Key × V)} {bs : List Addr}, IsKeys H kvs bs → (∀ x ∈ kvs, x.1.length ≤ sizeLine) → ∀ {F1 : Hp}, Same F1 H → Grow F H F1 H → ∃ F', Grow F H F' H ∧ Same F1 F' ∧ Reps K F' (bs.map V.ref) (kvs.map fun x => D.tup (x.1.map dOfK))
  | [], _, h, _, F1, s, g => by cases h; exact ⟨F1, g, Same.refl _, .nil⟩
  | p :: kvs, _, h, hl, F1, s, g => by
    cases h with
    | @cons _ b _ bs h t =>
      have s1 : Same F1 (upd F1 b (.tup (p.1.map kV))) := fun c x e => by
        by_cases hc : c = b
        · rw [hc] at e ⊢
          have := s _ _ e
          rw [h] at this
          rw [upd_same]; exact this
        · rw [upd_ne hc]; exact e
      have s2 : Same (upd F1 b (.tup (p.1.map kV))) H := fun c x e => by
        by_cases hc : c = b
        · rw [hc] at e ⊢
          rw [upd_same] at e
          rw [h]; exact e
        · rw [upd_ne hc] at e; exact s _ _ e
      obtain ⟨F', g2, s3, r2⟩ := grow_keys t (fun x hx => hl x (List.mem_cons_of_mem _ hx)) s2 (.known g h)
      exact ⟨F', g2, s1.trans s3, .cons (.tup (s3 _ _ upd_same) (by rw [kV_len]; exact hl p List.mem_cons_self) (reps_keys _)) r2⟩
def rListK : List V → Hp → VK → Prop := fun xs H Q => (∃ (a : Addr) (kvs : List (Key × V)), xs = [.ref a] ∧ Rd H a (.dK kvs) ∧ ∀ p, H p = none → Q (.ref p) (upd H p (.lst (kvs.map fun kv => kV kv.1)))) ∨
  ∃ d kvs, xs = [V.ref d] ∧ Rd H d (.dT kvs) ∧ ∀ p bs, H p = none → IsKeys H kvs bs → Q (.ref p) (upd H p (.lst (bs.map V.ref)))
theorem call_listK {X : Cx} (hc : X.calm = true) : CallR X (.type "list") rListK := by
  intro pins s σ H xs us Q I r h
  rcases h with h | h
  · exact call_listD hc pins s σ H xs us Q I r h
  · exact call_list_dT hc pins s σ H xs us Q I r h
theorem cs_listK {K : PySem.W.Frag} : CallS K rListK fListK := fun F H xs ds Q s bs q => by
  unfold fListK at q
  split at q
  · rename_i d
    obtain ⟨v, rfl, b⟩ := breps_one bs
    cases e : dictKeys d with
    | none => rw [e] at q; exact q.elim
    | some es =>
      rw [e] at q
      cases d with
      | dk ks l =>
        cases e
        obtain ⟨a, kvs, rfl, h1, h2, rfl⟩ := b.dictK s
        refine .inl ⟨a, kvs, rfl, h1, fun p hp => q F H p _ (.refl _ _) hp ⟨_, rfl, by rw [List.length_map]; exact h2, ?_⟩⟩
        rw [List.map_map]
        clear h1 h2 q b bs
        induction kvs with
        | nil => exact .nil
        | cons x kvs ih => exact .cons (rep_key x.1) ih
      | dt ks l =>
        have e : (if shortL ks = true then some (ks.map fun k => D.tup (k.map dOfK)) else none) = some es := e
        split at e
        · rename_i hsh
          cases e
          obtain ⟨a, kvs, rfl, h1, h2, rfl⟩ := b.dictT s
          refine .inr ⟨a, kvs, rfl, h1, fun p bs hp hk => ?_⟩
          obtain ⟨F', g, s1, r1⟩ := grow_keys (K := K) hk (fun x hx => by
            have := of_decide_eq_true (List.all_eq_true.mp hsh x.1 (List.mem_map.mpr ⟨x, hx, rfl⟩))
            exact Nat.le_trans this (by decide)) s (.refl F H)
          refine q F' H p _ g hp ⟨_, rfl, ?_, ?_⟩
          · have : bs.length = kvs.length := (Paired.length hk).symm
            rw [List.length_map, this]; exact h2
          · rw [List.map_map]; exact r1
        · cases e
      | _ => cases e
  · exact False.elim q
end

/-! a dict of ours gone through, lent as long as it runs, ours again behind -/
def ItOkB (K : PySem.W.Frag) (J : It) (F B : Hp) (ds : List D) : Prop := ∀ F2 H2, Same F F2 → Same F2 H2 → Same B H2 →
  (∀ i d, ds[i]? = some d → J.go i H2 ∧ ∀ x H3, J.yld i H2 x H3 → ∃ F3, Grow F2 H2 F3 H3 ∧ Rep K F3 x d) ∧ ∀ i, ds.length ≤ i → J.stop i H2
section
variable {P : Pr} {m : Bool} {W : WX} {te ta tb : TE} {f : Envi → R Hd} {B F0 F H : Hp} {σ : L2.St} {ob : Ob} {ρ : Envi} {K : PySem.W.Frag}
theorem comp_atB {us vs : List Nat} {ti : TI} {ds : List Pv.D} {tg : TG} {b : Bnd} {tt : TT} {c : Envi → R Bool} {e : Envi → R Hd} {Q : VK} (w : Wf P B F0 F H σ ob ρ) (hsz : ds.length ≤ sizeLine) (hi : ∀ R, (∀ J, ItOkB P.K J F B ds → R J H) → ti σ H R) (hg : SndG P us tg b) (hc : SndT P m W0 tt c) (he : SndE P m W0 te e) (q : Post P B F0 F σ ob m W (RelE P B σ) Q (opt3 (runComp b c e vs ds (Pv.wipeE ρ vs)))) (hu : ∀ u ∈ us, u ∈ vs := by decide) :
    tLc ti tg tt te vs σ H Q := by
  refine hi _ fun J hJ => ?_
  intro D hD
  obtain ⟨B', hB'⟩ : ∃ B', B' = B := ⟨_, rfl⟩
  obtain ⟨F', hF'⟩ : ∃ F', F' = F := ⟨_, rfl⟩
  obtain ⟨ob', hob'⟩ : ∃ ob', ob' = ob := ⟨_, rfl⟩
  obtain ⟨ρ', hρ'⟩ : ∃ ρ', ρ' = ρ := ⟨_, rfl⟩
  have w' : Wf P B' F0 F' H σ ob' ρ' := by rw [hB', hF', hob', hρ']; exact w
  have s : Same F F' := by rw [hF']; exact Same.refl _
  have i' : m = false → ob' = ob := fun _ => hob'
  rw [← hF', ← hB'] at hJ
  rw [← hB'] at q
  rw [← hρ'] at q
  have fD : F' D = none := w'.fh.free hD
  have bD : B' D = none := w'.bh.free hD
  have f0D : F0 D = none := w'.ff.free fD
  refine ⟨fun i mm H2 => ∃ F2 ob2 ρ2 av acc, mm = ds.length - i ∧ i ≤ ds.length ∧ Wf P (upd B' D (.lst av)) F0 F2 H2 σ ob2 (Pv.wipeE ρ2 vs) ∧ Same F' F2 ∧ F2 D = none ∧ (m = false → ob2 = ob') ∧ Reps P.K F2 av acc ∧ acc.length ≤ i ∧
      Post P B' F0 F σ ob m W (RelE P B' σ) Q (opt3 ((runComp b c e vs (ds.drop i) (Pv.wipeE ρ2 vs)).map fun x => (acc ++ x.1, x.2))),
    ⟨ds.length, F', ob', ρ', [], [], rfl, Nat.zero_le _, (w'.wipeE vs).tmp hD, Same.refl _, fD, fun _ => rfl, .nil, Nat.le_refl _, ?_⟩, ?_⟩
  · have q : Post P B' F0 F σ ob m W (RelE P B' σ) Q (opt3 (runComp b c e vs ds (Pv.wipeE ρ' vs))) := q
    rw [List.drop_zero]
    cases e1 : runComp b c e vs ds (Pv.wipeE ρ' vs) with
    | none => rw [e1] at q; exact q
    | some x => rw [e1] at q; exact q
  rintro i mm H2 ⟨F2, ob2, ρ2, av, acc, rfl, hle, w2, s2, f2D, i2, r2, hacc, q2⟩
  obtain ⟨j1, j2⟩ := hJ F2 H2 s2 w2.fh ((same_new bD).trans w2.bh)
  by_cases hlt : i < ds.length
  · refine .inr ⟨(j1 i ds[i] (List.getElem?_eq_getElem hlt)).1, fun H3 => ∃ F3 ob3 ρ3 av acc, Wf P (upd B' D (.lst av)) F0 F3 H3 σ ob3 (Pv.wipeE ρ3 vs) ∧ Same F' F3 ∧ F3 D = none ∧ (m = false → ob3 = ob') ∧ Reps P.K F3 av acc ∧ acc.length ≤ i + 1 ∧
      Post P B' F0 F σ ob m W (RelE P B' σ) Q (opt3 ((runComp b c e vs (ds.drop (i + 1)) (Pv.wipeE ρ3 vs)).map fun x => (acc ++ x.1, x.2))),
      fun H3 ⟨F3, ob3, ρ3, av, acc, w3, s3, f3, i3, r3, h3, q3⟩ => ⟨ds.length - (i + 1), by omega, F3, ob3, ρ3, av, acc, rfl, hlt, w3, s3, f3, i3, r3, h3, q3⟩, fun x H3 y => ?_⟩
    obtain ⟨F3, gr, r3⟩ := (j1 i ds[i] (List.getElem?_eq_getElem hlt)).2 x H3 y
    obtain ⟨w3, s3⟩ := w2.growN gr
    rw [List.drop_eq_getElem_cons hlt] at q2
    unfold runComp at q2
    have w3' : Wf P (upd B' D (.lst av)) F0 F3 H3 (wipe σ vs) ob2 (Pv.wipeE ρ2 vs) := w3.reslot (wipe_length σ vs) fun i s h hs => wipe_outS (wipeE_un h hs)
    cases e1 : b ds[i] (Pv.wipeE ρ2 vs) with
    | none => rw [e1] at q2; exact q2.elim
    | some ρ3 =>
      rw [e1] at q2
      dsimp only at q2
      refine hg _ F0 F3 H3 (wipe σ vs) ob2 _ x _ ρ3 _ w3' r3 e1 fun σ3 w4 hw4 => ⟨(hw4 vs hu).trans ?_, ?_⟩
      · exact wipe_idem σ vs
      -- behind a turn: back at σ
      have back : ∀ {Bx Fx Hx : Hp} {obx : Ob} {ρx : Envi}, Wf P Bx F0 Fx Hx σ3 obx ρx → Wf P Bx F0 Fx Hx σ obx (Pv.wipeE ρx vs) := fun {Bx Fx Hx obx ρx} wx => by
        refine (wx.wipeE vs).reslot ?_ fun i s h hs => ?_
        · have := w4.n
          rw [this, w.n]
        · have hn := wipeE_un h hs
          have := congrArg (fun l => l[i]?) (hw4 vs hu)
          rw [wipe_outS hn] at this
          rw [this]
          have h2 : (wipe (wipe σ vs) vs)[i]? = (wipe σ vs)[i]? := wipe_outS hn
          rw [h2, wipe_outS hn]
      refine hc _ F0 F3 H3 σ3 ob2 ρ3 _ w4 ?_
      cases e2 : c ρ3 with
      | stuck => rw [e2] at q2; exact q2.elim
      | exc x ρ4 => rw [e2] at q2; exact q2.elim
      | ok bb ρ4 =>
        rw [e2] at q2
        rintro _ F4 H4 ob4 v w5 s4 i4 ⟨rfl, rfl⟩
        have f4D : F4 D = none := by
          cases z : F4 D with
          | none => rfl
          | some o =>
            rcases w5.nw D o z with h | h | ⟨us, rfl⟩
            · rw [f0D] at h; cases h
            · rw [upd_same] at h; cases h
            · have h := w5.fh _ _ z
              rw [w5.getH] at h; cases h
        cases v with
        | false =>
          dsimp only at q2
          rw [if_neg Bool.false_ne_true]
          exact ⟨F4, ob4, ρ4, av, acc, back w5, (s2.trans s3).trans s4, f4D, fun z => (i4 z).trans (i2 z), r2.mono (s3.trans s4), by omega, q2⟩
        | true =>
          dsimp only at q2
          rw [if_pos rfl]
          refine snd_mat he _ F0 F4 H4 σ3 ob4 ρ4 _ w5 ?_
          cases e3 : eMat e ρ4 with
          | stuck => rw [e3] at q2; exact q2.elim
          | exc x ρ5 => rw [e3] at q2; exact q2.elim
          | ok hd ρ5 =>
            rw [e3] at q2
            cases hd with
            | dat d' =>
              rintro _ F5 H5 ob5 y w6 s5 i5 ⟨rfl, r5⟩
              have f5D : F5 D = none := by
                cases z : F5 D with
                | none => rfl
                | some o =>
                  rcases w6.nw D o z with h | h | ⟨us, rfl⟩
                  · rw [f0D] at h; cases h
                  · rw [upd_same] at h; cases h
                  · have h := w6.fh _ _ z
                    rw [w6.getH] at h; cases h
              have hl : av.length = acc.length := r2.length
              refine ⟨av, w6.getH, by omega, F5, ob5, ρ5, av ++ [y], acc ++ [d'], back (w6.tmpUpd f5D), ((s2.trans s3).trans s4).trans s5, f5D, fun z => ((i5 z).trans (i4 z)).trans (i2 z), (r2.mono ((s3.trans s4).trans s5)).append (.cons r5 .nil), by rw [List.length_append]; show acc.length + 1 ≤ i + 1; omega, ?_⟩
              dsimp only at q2
              cases e4 : runComp b c e vs (ds.drop (i + 1)) (Pv.wipeE ρ5 vs) with
              | none => rw [e4] at q2; exact q2
              | some x =>
                rw [e4] at q2
                have q2 : Post P B' F0 F σ ob m W (RelE P B' σ) Q (opt3 (some (acc ++ (d' :: x.1), x.2))) := q2
                rw [show acc ++ (d' :: x.1) = (acc ++ [d']) ++ x.1 by simp] at q2
                exact q2
            | _ => exact q2.elim
  · refine .inl ⟨j2 i (by omega), ?_⟩
    rw [List.drop_eq_nil_of_le (by omega)] at q2
    have q2 : Post P B' F0 F σ ob m W (RelE P B' σ) Q (.ok (.tm (.li (acc ++ []))) (Pv.wipeE ρ2 vs)) := q2
    rw [List.append_nil] at q2
    exact q2 (upd B' D (.lst av)) F2 H2 ob2 _ w2 (s.trans s2) (fun z => (i2 z).trans (i' z)) ⟨D, _, rfl, rfl, bD, f2D, av, rfl, by rw [r2.length]; omega, r2⟩


theorem Wf.lend (w : Wf P B F0 F H σ ob ρ) {i : Nat} {o : Own} (h : ρ[i]? = some (.ow o)) : ∃ a ho, (tau σ ob)[i]? = some (some (.ref a)) ∧ H a = some ho ∧ OwnR P.K F ho o ∧ F a = none ∧ B a = none ∧
    ∀ u, Wf P (upd B a u) F0 F (upd H a u) σ ob (ρ.set i .un) := by
  obtain ⟨fh, bh, ff, nw, n, len, ⟨al, s1, s2, s3⟩, hob⟩ := w
  obtain ⟨e1, ho, e2, e3⟩ := s1 i _ h
  obtain ⟨fa, ba⟩ := s2 i _ h rfl
  have hiρ : i < ρ.length := (List.getElem?_eq_some_iff.mp h).1
  have hiτ : i < (tau σ ob).length := by rw [← len]; exact hiρ
  have e0 : (tau σ ob)[i]? = some (some (.ref (al i))) := by
    rw [List.getElem?_eq_getElem hiτ] at e1 ⊢
    rw [show (tau σ ob)[i] = some (.ref (al i)) from e1]
  refine ⟨al i, ho, e0, e2, e3, fa, ba, fun u => ?_⟩
  have ne : ∀ (j : Nat) (s : Slot), ρ[j]? = some s → s.isOw = true → i ≠ j → al j ≠ al i := fun j s hj hs hij z => hij (s3 j i s _ hj h hs rfl z).symm
  have back : ∀ {j : Nat} {t : Slot}, (ρ.set i .un)[j]? = some t → t.isOw = true → ρ[j]? = some t ∧ i ≠ j := fun {j t} hj ht => by
    by_cases hij : i = j
    · subst hij
      rw [List.getElem?_set_self hiρ] at hj
      cases hj; cases ht
    · rw [List.getElem?_set_ne hij] at hj; exact ⟨hj, hij⟩
  refine ⟨fun b x e => ?_, fun b x e => ?_, ff, fun b x e => ?_, n, by rw [List.length_set]; exact len, ⟨al, fun j t hj => ?_, fun j t hj ht => ?_, fun j k t u hj hk ht hu => ?_⟩, fun q fv e => ?_⟩
  · rw [upd_ne (ne_of_none e fa)]; exact fh _ _ e
  · by_cases hb : b = al i
    · subst hb; rw [upd_same] at e ⊢; exact e
    · rw [upd_ne hb] at e ⊢; exact bh _ _ e
  · rcases nw b x e with g | g
    · exact .inl g
    · exact .inr (g.imp_left fun g => by rw [upd_ne (ne_of_none e fa)]; exact g)
  · by_cases hij : i = j
    · subst hij
      rw [List.getElem?_set_self hiρ] at hj
      cases hj; exact True.intro
    · rw [List.getElem?_set_ne hij] at hj
      exact (s1 j t hj).imp (Same.refl _) fun u hu e => by rw [upd_ne (ne j t hj hu hij)]; exact e
  · obtain ⟨g1, g2⟩ := back hj ht
    rw [upd_ne (ne j t g1 ht g2)]
    exact s2 j t g1 ht
  · exact s3 j k t u (back hj ht).1 (back hk hu).1 ht hu
  · have x := hob q fv e
    obtain ⟨dx, fs, ei⟩ := x.ins
    have hq : q ≠ al i := ne_of ei e2 fun z => e3.notIns z.symm
    exact x.keep (fun h => h) (fun h => by rw [upd_ne hq]; exact h) fun u hu => by rw [upd_ne hq]; exact hu
theorem Wf.takeB {a : Addr} {ho : HO} {o : Own} (w : Wf P (upd B a ho) F0 F H σ ob ρ) {i : Nat} (ht : (tau σ ob)[i]? = some (some (.ref a))) (fa : F a = none) (ba : B a = none) (hr : OwnR P.K F ho o) : Wf P B F0 F H σ ob (ρ.set i (.ow o)) := by
  have eH := w.getH
  obtain ⟨fh, bh, ff, nw, n, len, ⟨al, s1, s2, s3⟩, hob⟩ := w.lessB (same_new ba)
  obtain ⟨_, _, _, _, _, _, ⟨bl, t1, t2, t3⟩, hob'⟩ := w
  have own : ∀ (i : Nat) (s : Slot), ρ[i]? = some s → s.isOw = true → bl i ≠ a := fun i s h e z => by
    have := (t2 i s h e).2
    rw [z, upd_same] at this
    cases this
  have hiτ : i < (tau σ ob).length := (List.getElem?_eq_some_iff.mp ht).1
  have hiρ : i < ρ.length := by rw [len]; exact hiτ
  refine ⟨fh, bh, ff, nw, n, by rw [List.length_set]; exact len, ⟨fun j => if j = i then a else bl j, fun j t h => ?_, fun j t h ht => ?_, fun j k t u h h' ht hu => ?_⟩, hob⟩
  · by_cases hj : i = j
    · subst hj
      rw [List.getElem?_set_self hiρ] at h
      cases h
      dsimp only
      rw [if_pos rfl, ht]
      exact ⟨rfl, ho, eH, hr⟩
    · rw [List.getElem?_set_ne hj] at h
      dsimp only
      rw [if_neg (fun z => hj z.symm)]
      exact t1 j t h
  · by_cases hj : i = j
    · subst hj
      dsimp only
      rw [if_pos rfl]
      exact ⟨fa, ba⟩
    · rw [List.getElem?_set_ne hj] at h
      dsimp only
      rw [if_neg (fun z => hj z.symm)]
      have q := t2 j t h ht
      rw [upd_ne (own j t h ht)] at q
      exact q
  · by_cases hj : i = j
    · by_cases hk : i = k
      · omega
      · subst hj
        rw [List.getElem?_set_ne hk] at h'
        dsimp only
        rw [if_pos rfl, if_neg (fun z => hk z.symm)]
        intro z
        exact absurd z.symm (own k u h' hu)
    · by_cases hk : i = k
      · subst hk
        rw [List.getElem?_set_ne hj] at h
        dsimp only
        rw [if_pos rfl, if_neg (fun z => hj z.symm)]
        intro z
        exact absurd z (own j t h ht)
      · rw [List.getElem?_set_ne hj] at h
        rw [List.getElem?_set_ne hk] at h'
        dsimp only
        rw [if_neg (fun z => hj z.symm), if_neg (fun z => hk z.symm)]
        exact t3 j k t u h h' ht hu
def lcC (i : Nat) (o : Own) : Option (List D × Envi) → R Hd
  | some (l, ρ) => .ok (.tm (.li l)) (ρ.set i (.ow o))
  | none => .stuck
def lcB (i : Nat) (okp : Envi → Bool) (b : Bnd) (c : Envi → R Bool) (e : Envi → R Hd) (vs : List Nat) (ρ : Envi) (o : Own) : Option (List D) → R Hd
  | some ds => if (shortK o && okp (ρ.set i .un)) = true then lcC i o (runComp b c e vs ds (wipeE (ρ.set i .un) vs)) else .stuck
  | none => .stuck
def lcA (i : Nat) (okp : Envi → Bool) (b : Bnd) (c : Envi → R Bool) (e : Envi → R Hd) (vs : List Nat) (ρ : Envi) : Option Slot → R Hd
  | some (.ow o) => lcB i okp b c e vs ρ o (keysD o)
  | _ => .stuck
def eLComp (i : Nat) (okp : Envi → Bool) (b : Bnd) (c : Envi → R Bool) (e : Envi → R Hd) (vs : List Nat) : Envi → R Hd := fun ρ => lcA i okp b c e vs ρ ρ[i]?
theorem snd_lcomp {us vs : List Nat} {i : Nat} {tp : TE} {okp : Envi → Bool} {tg : TG} {b : Bnd} {tt : TT} {c : Envi → R Bool} {e : Envi → R Hd} (hp : SndP P tp i okp) (hg : SndG P us tg b) (hc : SndT P false W0 tt c) (he : SndE P false W0 te e) (hu : ∀ u ∈ us, u ∈ vs := by decide) :
    SndE P m W (tLockE (tLc (iKeys tp) tg tt te vs)) (eLComp i okp b c e vs) := fun B F0 F H σ ob ρ Q w q => by
  unfold eLComp lcA at q
  split at q
  · rename_i o e1
    cases e2 : keysD o with
    | none => rw [e2] at q; exact q.elim
    | some ds =>
      rw [e2] at q
      unfold lcB at q
      dsimp only at q
      split at q
      · rename_i hsh0
        rw [Bool.and_eq_true] at hsh0
        obtain ⟨hsh, hok⟩ := hsh0
        obtain ⟨a, ho, t1, t2, t3, fa, ba, wl⟩ := w.lend e1
        have key : Mut (some ho) ∧ (∀ us, ho ≠ .tup us) ∧ ds.length ≤ sizeLine ∧ ∀ (od : Obj) (R : It → Hp → Prop), (∀ J, ItOkB P.K J F (upd B a (.frz od ho)) ds → R J (upd H a (.frz od ho))) → iKeys tp σ (upd H a (.frz od ho)) R := by
          cases o with
          | li l => cases e2
          | di l =>
            obtain ⟨kvs, rfl, g2, g3⟩ := t3
            cases e2
            have hk : (l.map fun x => dOfK x.1) = kvs.map fun x => dOfK x.1 := by
              have := g3.keys
              have h2 := congrArg (List.map dOfK) this
              rw [List.map_map, List.map_map] at h2
              exact h2.symm
            refine ⟨True.intro, (fun us z => nomatch z), ?_, fun od R h => hp _ F0 _ _ σ ob _ _ _ (wl (.frz od (.dK kvs))) hok t1 ⟨a, od, rfl, .inl ⟨kvs, upd_same, h _ ?_⟩⟩⟩
            · rw [hk, List.length_map]; exact g2
            · rw [hk]
              intro F2 H2 s1 s2 s3
              have h2 : H2 a = some (.frz od (.dK kvs)) := s3 _ _ upd_same
              refine ⟨fun i d e => ?_, fun i hi => ⟨h2, by rw [List.length_map] at hi; exact hi⟩⟩
              rw [List.getElem?_map] at e
              obtain ⟨⟨k, v⟩, e1, rfl⟩ := Option.map_eq_some_iff.mp e
              refine ⟨⟨h2, (List.getElem?_eq_some_iff.mp e1).1⟩, fun x H3 y => ?_⟩
              obtain ⟨rfl, k', v', e2, rfl⟩ := y
              rw [e1] at e2
              cases e2
              exact ⟨F2, .refl _ _, rep_key k⟩
          | ti l =>
            obtain ⟨kvs, rfl, g2, g3⟩ := t3
            cases e2
            have hk : (l.map fun x => D.tup (x.1.map dOfK)) = kvs.map fun x => D.tup (x.1.map dOfK) := by
              have := g3.keys
              have h2 := congrArg (List.map fun k : List Key => D.tup (k.map dOfK)) this
              rw [List.map_map, List.map_map] at h2
              exact h2.symm
            refine ⟨True.intro, (fun us z => nomatch z), ?_, fun od R h => hp _ F0 _ _ σ ob _ _ _ (wl (.frz od (.dT kvs))) hok t1 ⟨a, od, rfl, .inr ⟨kvs, upd_same, h _ ?_⟩⟩⟩
            · rw [hk, List.length_map]; exact g2
            · rw [hk]
              intro F2 H2 s1 s2 s3
              have h2 : H2 a = some (.frz od (.dT kvs)) := s3 _ _ upd_same
              refine ⟨fun i d e => ?_, fun i hi => ⟨h2, by rw [List.length_map] at hi; exact hi⟩⟩
              rw [List.getElem?_map] at e
              obtain ⟨⟨k, v⟩, e1, rfl⟩ := Option.map_eq_some_iff.mp e
              refine ⟨⟨h2, (List.getElem?_eq_some_iff.mp e1).1⟩, fun x H3 y => ?_⟩
              obtain ⟨rfl, k', v', q, e2, rfl, hq⟩ := y
              rw [e1] at e2
              cases e2
              have hm : k ∈ l.map (·.1) := by rw [← g3.keys]; exact List.mem_map.mpr ⟨(k, v), List.mem_of_getElem? e1, rfl⟩
              obtain ⟨y, hy, e3⟩ := List.mem_map.mp hm
              have hsh : (l.all fun x => decide (x.1.length ≤ 100)) = true := hsh
              have hl := of_decide_eq_true (List.all_eq_true.mp hsh y hy)
              rw [e3] at hl
              exact ⟨upd F2 q (.tup (k.map kV)), .known (.refl _ _) hq, .tup upd_same (by rw [kV_len]; exact Nat.le_trans hl (by decide)) (reps_keys k)⟩
        obtain ⟨mu, nt, hsz, hkeys⟩ := key
        refine ⟨a, ho, t2, mu, fun od => ?_⟩
        have f0 : F0 a = none := w.ff.free fa
        refine comp_atB (m := false) (W := W) (wl (.frz od ho)) hsz (hkeys od) hg hc he ?_ hu
        cases e4 : runComp b c e vs ds (wipeE (ρ.set i .un) vs) with
        | none => rw [e4] at q; exact q
        | some y =>
          obtain ⟨l, ρ3⟩ := y
          rw [e4] at q
          rintro B' F' H' ob' v w' s i' ⟨D, hD, rfl, rfl, bD, fD, hr⟩
          have hob : ob' = ob := i' rfl
          subst hob
          have hDa : D ≠ a := fun z => by rw [z, upd_same] at bD; cases bD
          have hBa : (upd (upd B a (.frz od ho)) D hD) a = some (.frz od ho) := by rw [upd_ne hDa.symm, upd_same]
          have hH : H' a = some (.frz od ho) := w'.bh _ _ hBa
          have fa' : F' a = none := by
            cases z : F' a with
            | none => rfl
            | some x =>
              rcases w'.nw a x z with g | g | ⟨us, rfl⟩
              · rw [f0] at g; cases g
              · rw [hBa] at g; cases g
              · have g := w'.fh _ _ z
                rw [hH] at g; cases g
          have eB : upd (upd B a (.frz od ho)) D hD = upd (upd B D hD) a (.frz od ho) := by
            funext b
            by_cases hb : b = a
            · rw [hb, upd_ne hDa.symm, upd_same, upd_same]
            · by_cases hbD : b = D
              · rw [hbD, upd_same, upd_ne hDa, upd_same]
              · rw [upd_ne hbD, upd_ne hb, upd_ne hb, upd_ne hbD]
          rw [eB] at w'
          have w2 := w'.tmpUpd (ho' := ho) fa'
          have baD : (upd B D hD) a = none := by rw [upd_ne hDa.symm]; exact ba
          have w3 := w2.takeB t1 fa' baD (t3.mono s)
          rw [upd_ne hDa] at bD
          exact ⟨hH, q (upd B D hD) F' (upd H' a ho) ob' _ w3 s (fun _ => rfl) ⟨D, hD, rfl, rfl, bD, fD, hr⟩⟩
      · exact q.elim
  · exact q.elim
end
section
variable {i : Nat} {okp : Envi → Bool} {b : Bnd} {c : Envi → R Bool} {e : Envi → R Hd} {vs : List Nat} {ρ : Envi} {o : Own}
@[simp] theorem y_lcomp : eLComp i okp b c e vs ρ = lcA i okp b c e vs ρ ρ[i]? := id rfl
@[simp] theorem y_lcA : lcA i okp b c e vs ρ (some (.ow o)) = lcB i okp b c e vs ρ o (keysD o) := id rfl
@[simp] theorem y_lcB {ds : List D} : lcB i okp b c e vs ρ o (some ds) = if (shortK o && okp (ρ.set i .un)) = true then lcC i o (runComp b c e vs ds (wipeE (ρ.set i .un) vs)) else .stuck := id rfl
@[simp] theorem y_lcC {l : List D} {ρ' : Envi} : lcC i o (some (l, ρ')) = .ok (.tm (.li l)) (ρ'.set i (.ow o)) := id rfl
@[simp] theorem y_fkcomp : eFKComp i b c e vs ρ = fkA b c e vs ρ ρ[i]? := id rfl
@[simp] theorem y_fkA {d : D} : fkA b c e vs ρ (some (.fz d)) = fkC b c e vs ρ (keysF d) := id rfl
@[simp] theorem y_fkC {ds : List D} : fkC b c e vs ρ (some ds) = opt3 (runComp b c e vs ds (wipeE ρ vs)) := id rfl
@[simp] theorem y_keysF {ks : List Key} {l : List D} : keysF (.dk ks l) = some (ks.map dOfK) := id rfl
@[simp] theorem y_listK {ks : List Key} {l : List D} : fListK [.dk ks l] = .ow (.li (ks.map dOfK)) := id rfl
theorem y_listDT {ks : List (List Key)} {l : List D} (h : shortL ks = true) : fListK [.dt ks l] = .ow (.li (ks.map fun k => .tup (k.map dOfK))) := by
  show (match (if shortL ks = true then some (ks.map fun k => D.tup (k.map dOfK)) else none) with | some es => Rf.ow (.li es) | none => .stuck) = _
  rw [if_pos h]
end
/-! what is ours handed in and ours behind: the call's result is plain -/
def scal : D → Bool
  | .non => true
  | .bl _ => true
  | .int _ => true
  | .str _ => true
  | _ => false
def flatO : Own → Bool
  | .li l => l.all scal
  | .di l => l.all fun x => scal x.2
  | .ti l => l.all fun x => scal x.2
def lendRf (ρ : Envi) : Rf → R Hd
  | .fz d => if scal d = true then .ok (.dat d) ρ else .stuck
  | .ow o => if flatO o = true then .ok (.tm o) ρ else .stuck
  | .exc c => .exc c ρ
  | .stuck => .stuck
def callLK (fs : List D → Rf) (hs : List Hd) (ρ : Envi) : R Hd := match derefAll ρ hs with
  | some ds => lendRf ρ (fs ds)
  | none => .stuck
def eCallL (fs : List D → Rf) (g : Envi → R (List Hd)) : Envi → R Hd := fun ρ => (g ρ).bind (callLK fs)
def sRetO (k : Nat) : Sem := fun ρ => match ρ[k]? with
  | some (.ow o) => .ret (.ow o) (ρ.set k .un)
  | _ => .stuck
section
variable {P : Pr} {m : Bool} {W : WX} {te ta tb : TE} {f : Envi → R Hd} {B F0 F H : Hp} {σ : L2.St} {ob : Ob} {ρ : Envi} {K : PySem.W.Frag} {n : Nat} {tr : TA} {fa : Envi → R (List Hd)}
theorem scal_rep {F' : Hp} {v : V} {d : D} (h : scal d = true) (r : Rep K F v d) : Rep K F' v d := by
  cases r with
  | non => exact .non
  | bl b => exact .bl b
  | int i => exact .int i
  | str x => exact .str x
  | _ => cases h
theorem scals_rep {F' : Hp} : ∀ {vs : List V} {ds : List D}, ds.all scal = true → Reps K F vs ds → Reps K F' vs ds
  | _, _, _, .nil => .nil
  | _, _, h, .cons a b => by
    rw [List.all_cons, Bool.and_eq_true] at h
    exact .cons (scal_rep h.1 a) (scals_rep h.2 b)
theorem scalp_rep {κ : Type} {F' : Hp} : ∀ {x : List (κ × V)} {y : List (κ × D)}, (y.all fun z => scal z.2) = true → PR K F x y → PR K F' x y
  | _, [], _, h => by cases h; exact .nil
  | _, y :: ys, h, r => by
    rw [List.all_cons, Bool.and_eq_true] at h
    cases r with
    | cons a b => exact .cons ⟨a.1, scal_rep h.1 a.2⟩ (scalp_rep h.2 b)
theorem flat_own {F' : Hp} {ho : HO} : ∀ {o : Own}, flatO o = true → OwnR K F ho o → OwnR K F' ho o
  | .li _, h, ⟨vs, h1, h2, h3⟩ => ⟨vs, h1, h2, scals_rep h h3⟩
  | .di _, h, ⟨vs, h1, h2, h3⟩ => ⟨vs, h1, h2, scalp_rep h h3⟩
  | .ti _, h, ⟨vs, h1, h2, h3⟩ => ⟨vs, h1, h2, scalp_rep h h3⟩
theorem Wf.upH {H' : Hp} (w : Wf P B F0 F H σ ob ρ) (s : Same H H') : Wf P B F0 F H' σ ob ρ := by
  obtain ⟨fh, bh, ff, nw, n, len, ⟨al, s1, s2, s3⟩, hob⟩ := w
  exact ⟨fh.trans s, bh.trans s, ff, nw, n, len, ⟨al, fun i t h => (s1 i t h).imp (Same.refl _) fun ho _ e => s _ _ e, s2, s3⟩, fun q fv e => (hob q fv e).keep (fun h => h) (fun h => h) fun u hu => s _ _ hu⟩
theorem Wf.upHB {H' : Hp} {a : Addr} {ho : HO} (w : Wf P B F0 F H σ ob ρ) (s : Same H H') (na : H a = none) (ha : H' a = some ho) : Wf P (upd B a ho) F0 F H' σ ob ρ := by
  refine (w.tmp (o := ho) na).upH fun b x e => ?_
  by_cases hb : b = a
  · rw [hb, upd_same] at e
    cases e
    rw [hb]; exact ha
  · rw [upd_ne hb] at e; exact s _ _ e
theorem breps_freeze : ∀ {vs : List V} {ds : List D} {F : Hp}, Same F H → BReps K F H vs ds → ∃ F1, Same F F1 ∧ Same F1 H ∧ Reps K F1 vs ds
  | _, [], F, s, h => by cases h; exact ⟨F, Same.refl _, s, .nil⟩
  | _, d :: ds, F, s, h => by
    cases h with
    | cons a b =>
      obtain ⟨F1, s1, h1, r1⟩ := breps_freeze s b
      rcases a with a | ⟨p, ho, o, rfl, hp, ro, rfl⟩
      · exact ⟨F1, s1, h1, .cons (a.mono s1) r1⟩
      · have s2 : Same F1 (upd F1 p ho) := fun c x e => by
          by_cases hc : c = p
          · rw [hc] at e ⊢
            have := h1 _ _ e
            rw [hp] at this
            rw [upd_same]; exact this
          · rw [upd_ne hc]; exact e
        have h2 : Same (upd F1 p ho) H := fun c x e => by
          by_cases hc : c = p
          · rw [hc] at e ⊢
            rw [upd_same] at e
            rw [hp]; exact e
          · rw [upd_ne hc] at e; exact h1 _ _ e
        exact ⟨_, s1.trans s2, h2, .cons ((ro.mono (s1.trans s2)).rep upd_same) (r1.mono s2)⟩
theorem snd_callL {fs : List D → Rf} (h : SndA P m W n tr fa) : SndE P m W (tCallS (spF P.K P.ec n fs) (WE W) tr) (eCallL fs fa) := fun B F0 F H σ ob ρ Q w q => by
  refine h B F0 F H σ ob ρ _ w (Post.of_bind (k := callLK fs) q ?_)
  rintro hs ρ2 B' F2 H2 ob2 ys w2 s2 i2 ⟨⟨rfl, r2⟩, hl⟩ q
  refine ⟨hl, ?_⟩
  unfold callLK at q
  cases e : derefAll ρ2 hs with
  | none => rw [e] at q; exact q.elim
  | some ds =>
    rw [e] at q
    obtain ⟨F3, s3, h3, r3⟩ := breps_freeze w2.fh (w2.derefAll r2 e)
    refine ⟨F3, ds, h3, r3, ?_⟩
    have q : Post P B' F0 F σ ob m W (RelE P B' σ) Q (lendRf ρ2 (fs ds)) := q
    cases e2 : fs ds with
    | stuck => rw [e2] at q; exact q
    | exc c =>
      rw [e2] at q
      intro H' s
      exact q F2 H' ob2 (w2.upH s) s2
    | fz d =>
      rw [e2] at q
      unfold lendRf at q
      dsimp only at q
      split at q
      · rename_i hd
        intro F' H' v h1 h2 h3 h4 r
        exact q B' F2 H' ob2 v (w2.upH h3) s2 i2 ⟨rfl, scal_rep hd r⟩
      · exact q.elim
    | ow o =>
      rw [e2] at q
      unfold lendRf at q
      dsimp only at q
      split at q
      · rename_i hd
        intro F' H' a ho h1 h2 h3 h4 ha fa na r
        exact q (upd B' a ho) F2 H' ob2 _ (w2.upHB h3 na ha) s2 i2 ⟨a, ho, rfl, rfl, w2.bh.free na, w2.fh.free na, flat_own hd r⟩
      · exact q.elim
theorem snd_retO {k : Nat} (hk : k < P.n) : SndS P W (tRet (tVar k)) (sRetO k) := fun B F0 F H σ ob ρ D w q => by
  unfold sRetO at q
  split at q
  · rename_i o e
    obtain ⟨a, ho, t1, t2, t3, fa, ba, wl⟩ := w.lend e
    have wl := wl ho
    have eH : upd H a ho = H := funext fun c => by
      by_cases hc : c = a
      · rw [hc, upd_same, t2]
      · rw [upd_ne hc]
    rw [eH] at wl
    have hσ : σ[k]? = some (some (.ref a)) := by rw [← tau_lt (by rw [w.n]; exact hk)]; exact t1
    exact ⟨_, hσ, q (upd B a ho) F H σ ob _ wl (Same.refl _) ⟨a, ho, rfl, rfl, ba, fa, t3⟩⟩
  · exact q.elim
end
def roK (k : Nat) (ρ : Envi) : Option Slot → Fl
  | some (.ow o) => .ret (.ow o) (ρ.set k .un)
  | _ => .stuck
section
variable {ρ : Envi} {k : Nat} {fs : List D → Rf} {hs : List Hd}
@[simp] theorem y_callL {g : Envi → R (List Hd)} : eCallL fs g ρ = (g ρ).bind (callLK fs) := id rfl
@[simp] theorem y_callLK : callLK fs hs ρ = match derefAll ρ hs with | some ds => lendRf ρ (fs ds) | none => .stuck := id rfl
@[simp] theorem y_lendfz {d : D} : lendRf ρ (.fz d) = if scal d = true then .ok (.dat d) ρ else .stuck := id rfl
@[simp] theorem y_lendow {o : Own} : lendRf ρ (.ow o) = if flatO o = true then .ok (.tm o) ρ else .stuck := id rfl
@[simp] theorem y_lendexc {c : Exc} : lendRf ρ (.exc c) = .exc c ρ := id rfl
@[simp] theorem y_retO : sRetO k ρ = roK k ρ ρ[k]? := by unfold sRetO roK; rfl
@[simp] theorem y_roK {o : Own} : roK k ρ (some (.ow o)) = .ret (.ow o) (ρ.set k .un) := id rfl
@[simp] theorem y_scal_int {i : Int} : scal (.int i) = true := id rfl
@[simp] theorem y_scal_bl {i : Bool} : scal (.bl i) = true := id rfl
theorem flat_ints (l : List Int) : flatO (.li (l.map D.int)) = true := by
  show (l.map D.int).all scal = true
  rw [List.all_map]
  exact List.all_eq_true.mpr fun _ _ => rfl
end
end Pv

set_option Elab.async false
set_option linter.all false
set_option maxRecDepth 100000
set_option maxHeartbeats 2000000
namespace Pv
open PySem PySem.Spec PyProof.Rows L2
theorem filterMap_congr2 {α β : Type} {f g : α → Option β} : ∀ {l : List α}, (∀ x ∈ l, f x = g x) → l.filterMap f = l.filterMap g
  | [], _ => rfl
  | x :: l, h => by
    rw [List.filterMap_cons, List.filterMap_cons, h x List.mem_cons_self, filterMap_congr2 fun y hy => h y (List.mem_cons_of_mem _ hy)]
/-! t[::-1], the new tuple known -/
section
variable {prog : Program} {w : World} {A : Around} {E : Value → Shared → Prop} {s : Shared}
theorem sliceApplied_rev {sl : Addr} {vl vu vs : Value} {n : Nat} {Q : Int × Int × Nat → Shared → Prop} (hs : s.heap.IsSliceOf sl vl vu vs) (pl : IsPart vl none) (pu : IsPart vu none) (ps : IsPart vs (some (-1)))
    (h : Q ((n : Int) - 1, -1, n) s) : wpAny (model prog w) A (Builtin.Slice.sliceApplied (.ref sl) (pure (n : Int))) Q E s := by
  obtain ⟨os, hos, hcs, hds⟩ := id hs
  unfold Builtin.Slice.sliceApplied Builtin.Slice.sliceFields
  refine wpAny_bind (wpAny_bind (wpAny_field hos hds (x := vl) rfl (wpAny_bind (wpAny_field hos hds (x := vu) rfl (wpAny_bind (wpAny_field hos hds (x := vs) rfl (wpAny_pure ?_)))))))
  refine wpAny_bind (HT.slicePart_ ps ?_)
  show wpAny _ _ (if ((-1 : Int) == 0) = true then _ else _) _ _ s
  rw [if_neg (by decide)]
  refine wpAny_bind (HT.slicePart_ pl (wpAny_bind (HT.slicePart_ pu (wpAny_bind (wpAny_pure ?_)))))
  show wpAny _ _ (match Builtin.Slice.sliceAdjust none none (-1) (n : Int) with | (lo, hi) => pure (lo, (-1 : Int), Builtin.Slice.slicePlaces lo hi (-1))) _ _ s
  show wpAny _ _ (pure ((n : Int) - 1, (-1 : Int), Builtin.Slice.slicePlaces ((n : Int) - 1) (-1) (-1))) _ _ s
  have e : Builtin.Slice.slicePlaces ((n : Int) - 1) (-1) (-1) = n := by
    unfold Builtin.Slice.slicePlaces
    rw [if_neg (by decide)]
    by_cases h : (n : Int) - 1 > -1
    · rw [if_pos h]
      have : ((n : Int) - 1 - -1 - 1) / (- -1) + 1 = n := by
        rw [show (- -1 : Int) = 1 by decide, Int.ediv_one]
        omega
      rw [this]; rfl
    · rw [if_neg h]
      have : n = 0 := by omega
      rw [this]; rfl
  rw [e]
  exact wpAny_pure h
theorem pick_rev (xs : Array Value) : ((List.range xs.size).filterMap fun (m : Nat) => xs[((xs.size : Int) - 1 + (m : Int) * (-1)).toNat]?).toArray = xs.toList.reverse.toArray := by
  congr 1
  have e : (List.range xs.size).filterMap (fun (m : Nat) => xs[((xs.size : Int) - 1 + (m : Int) * (-1)).toNat]?) = ((List.range xs.size).map fun k => xs.size - 1 - k).filterMap (xs[·]?) := by
    rw [List.filterMap_map]
    refine filterMap_congr2 fun k hk => ?_
    have := List.mem_range.mp hk
    have h1 : ((xs.size : Int) - 1 + (k : Int) * (-1)).toNat = xs.size - 1 - k := by omega
    rw [h1]; rfl
  rw [e, PySem.W.krv_range, List.filterMap_reverse, PySem.W.krv_all]
theorem getItem_tuple_rev {t sl : Addr} {items : Array Value} {vl vu vs : Value} {Q : Value → Shared → Prop} (ht : IsTup s.heap t items) (hs : s.heap.IsSliceOf sl vl vu vs) (pl : IsPart vl none) (pu : IsPart vu none) (ps : IsPart vs (some (-1)))
    (h : Q (.ref s.heap.objs.size) { s with heap := s.heap.push { cls := .type "tuple", data := .seq items.toList.reverse.toArray } })
    (hsz : items.size ≤ sizeLine) : wpAny (model prog w) A (getItem (.ref t) (.ref sl)) Q E s := by
  have htake : sizeOk (.seq items.toList.reverse.toArray) := by
    show items.toList.reverse.toArray.size ≤ sizeLine
    rw [List.size_toArray, List.length_reverse, Array.length_toList]
    exact hsz
  obtain ⟨os, hos, hcs, hds⟩ := id hs
  have hTs : s.TypeIs (.ref sl) "slice" := ⟨os, hos, hcs⟩
  unfold getItem
  try with_reducible refine wpAny_holding ?_
  first | refine wpAny_bind (wpAny_pure ?_) | skip
  refine wpAny_bind (wpAny_sequenceKey ht.typeIs (by decide) ?_)
  refine wpAny_bind (wpAny_callSpecial?_slot (name := Str.ofString "__getitem__") ht.typeIs PyProof.Rows.slot_tuple_getitem
    (wpAny_call_entry PyProof.Rows.slot_tuple_getitem ht.typeIs entry_tuple_getitem ?_ (args_tuple_getitem _ _)))
  show wpAny _ _ (Builtin.Tuple.tupleItemsOf (.ref t) >>= _) _ _ s
  refine wpAny_bind (tupleItemsOf_ ht ?_)
  refine wpAny_bind (wpAny_typeOf hTs ?_)
  rw [if_pos (by decide)]
  refine wpAny_bind (sliceApplied_rev hs pl pu ps ?_)
  have hno : ¬ ((((items.size : Int) - 1) == 0 && (-1 : Int) == 1 && items.size == items.size) = true) := by
    intro q
    rw [Bool.and_eq_true, Bool.and_eq_true] at q
    exact absurd q.1.2 (by decide)
  show wpAny _ _ (if (((items.size : Int) - 1) == 0 && (-1 : Int) == 1 && items.size == items.size) = true then _ else _) _ _ s
  rw [if_neg hno, pick_rev]
  first
    | exact wpAny_bind (m := Builtin.Tuple.tupleExact _) (wpAny_newObj_type (wpAny_pure ⟨_, rfl, wpAny_pure h⟩) htake)
    | exact wpAny_bind (m := Builtin.Tuple.tupleExact _) (wpAny_newObj_type (wpAny_bind (wpAny_pure (wpAny_pure ⟨_, rfl, wpAny_pure h⟩))) htake)
    | exact wpAny_bind (wpAny_bind (m := Builtin.Tuple.tupleExact _) (wpAny_newObj_type (wpAny_pure (wpAny_pure ⟨_, rfl, wpAny_pure h⟩)) htake))
    | exact wpAny_bind (wpAny_bind (m := Builtin.Tuple.tupleExact _) (wpAny_newObj_type (wpAny_pure ⟨_, rfl, wpAny_pure h⟩) htake))
end
def rRevT (K : PySem.W.Frag) : V → Hp → VK → Prop := fun x H Q => ∃ a xs, x = .ref a ∧ SqT K H a xs ∧ ∀ p o, H p = none → o.dict = none → Q (.ref p) (upd H p (.frz o (.tup xs.reverse)))
def rRevL (K : PySem.W.Frag) : V → Hp → VK → Prop := fun x H Q => ∃ a xs, x = .ref a ∧ SqL K H a xs ∧ ∀ p, H p = none → Q (.ref p) (upd H p (.lst xs.reverse))
section
variable {X : Cx}
theorem pe_revT {e : Expr} {te : TE} {k : Nat} {p1 p2 p3 pos : Pos} (he : PE X e te) : PE X (.Subscript e (.Slice none none (some (.UnaryOp .USub (.Constant (.int 1) k p1) p2)) p3) pos) (tUn (rRevT X.K) te) := by
  refine ⟨fun pins s σ H Q I h => ?_⟩
  refine Subscript_ (thn (he.run pins s σ H _ I h) fun v s1 ⟨x, H1, I1, r1, q1⟩ => ?_)
  obtain ⟨a, xs, ex, hx, q⟩ := q1
  subst ex
  cases r1
  have hst : PO X (some (.UnaryOp .USub (.Constant (.int 1) k p1) p2)) (tPart (tUn (rU fun i => .int (-i)) (tC (.int 1)))) := po_some (pe_un un_neg pe_int)
  refine wpAny_Slice (thn (po_none.run pins s1 σ H1 (fun o H2 => o = none ∧ H2 = H1) I1 ⟨rfl, rfl⟩) fun vl s2 ⟨l, H2, I2, pl, el, e2⟩ => ?_)
  subst el e2
  refine thn (po_none.run pins s2 σ H2 (fun o H3 => o = none ∧ H3 = H2) I2 ⟨rfl, rfl⟩) fun vu s3 ⟨u, H3, I3, pu, eu, e3⟩ => ?_
  subst eu e3
  refine thn (hst.run pins s3 σ H3 (fun o H4 => o = some (-1) ∧ H4 = H3) I3 ⟨1, rfl, -1, rfl, rfl, rfl⟩) fun vs s4 ⟨o, H4, I4, ps, eo, e4⟩ => ?_
  subst eo e4
  have I5 : Inv X pins σ H4 { s4 with heap := s4.heap.push { cls := .type "slice", data := .fields #[vl, vu, vs] } } := I4.kept (t' := s4.toks) fun b ob q => Heap.get?_push_of_some _ q
  obtain ⟨its, r, ht, hz⟩ := I5.tuple hx
  have hlen := r.length
  show wpAny (model X.prog X.w) X.A (subscriptTail e (.Slice none none (some (.UnaryOp .USub (.Constant (.int 1) k p1) p2)) p3) (.ref a) (.ref s4.heap.objs.size)) (EP X pins σ Q) X.xe { s4 with heap := s4.heap.push { cls := .type "slice", data := .fields #[vl, vu, vs] } }
  refine tail_any (ops := [.ref a, .ref s4.heap.objs.size]) ht.typeIs (PyProof.Rows.slot_tuple_getitem.lookup) ?_ (by with_unfolding_all rfl)
  refine getItem_tuple_rev ht (Heap.IsSliceOf.new _ vl vu vs) pl pu ps ?_ (by rw [List.size_toArray, ← hlen]; exact hz)
  refine ⟨.ref _, _, I5.laid (t' := s4.toks) (o := .frz { cls := .type "tuple", data := .seq its.toArray.toList.reverse.toArray } (.tup xs.reverse)) (fun b ob q => Heap.get?_push_of_some _ q) (Nat.le_refl _) ?_, rfl, q _ _ (I5.hok.fresh (Nat.le_refl _)) rfl⟩
  exact frz_ok (by rw [List.length_reverse]; exact hz) (by simpa using r.reverse) (Heap.get?_push_size _ rfl)
theorem pe_revLL {e : Expr} {te : TE} {k : Nat} {p1 p2 p3 pos : Pos} (he : PE X e te) : PE X (.Subscript e (.Slice none none (some (.UnaryOp .USub (.Constant (.int 1) k p1) p2)) p3) pos) (tUn (rRevL X.K) te) := pe_revL he
end
def opRevT (d : D) : Option D := match tupOf d with
  | some ds => some (.ktup ds.reverse)
  | none => none
def opRevL (d : D) : Option D := match lstOf d with
  | some ds => some (.lst ds.reverse)
  | none => none
section
variable {K : PySem.W.Frag}
theorem us_revT : UnS K (rRevT K) opRevT := fun F H x a c Q s ra e q => by
  unfold opRevT at e
  cases e2 : tupOf a with
  | none => rw [e2] at e; cases e
  | some ds =>
    rw [e2] at e
    cases e
    obtain ⟨p, vs, rfl, h1, h2, h3⟩ := ra.tuple s e2
    exact ⟨p, vs, rfl, h1, fun r o hr ho => q _ _ _ (.new (.refl _ _) hr) (.ktup (.inl ⟨o, upd_same, ho⟩) (by rw [List.length_reverse]; exact h2) ((h3.reverse).mono (same_new (s.free hr))))⟩
theorem us_revL : UnS K (rRevL K) opRevL := fun F H x a c Q s ra e q => by
  unfold opRevL at e
  cases e2 : lstOf a with
  | none => rw [e2] at e; cases e
  | some ds =>
    rw [e2] at e
    cases e
    obtain ⟨p, vs, rfl, h1, h2, h3⟩ := ra.list s e2
    exact ⟨p, vs, rfl, h1, fun r hr => q _ _ _ (.new (.refl _ _) hr) (.lst upd_same (by rw [List.length_reverse]; exact h2) ((h3.reverse).mono (same_new (s.free hr))))⟩
end
@[simp] theorem y_revT {l : List D} : opRevT (.ktup l) = some (.ktup l.reverse) := id rfl
@[simp] theorem y_revL {l : List D} : opRevL (.lst l) = some (.lst l.reverse) := id rfl
end Pv

set_option Elab.async false
set_option linter.all false
set_option maxRecDepth 100000
set_option maxHeartbeats 4000000
namespace Fw
open PySem PySem.Spec PyProof.Rows L2 Pv
-- %
abbrev fns_Keeper : List Str := ["row", "taken"]
-- %
theorem nd_Keeper : (fns_Keeper).Nodup := by decide +kernel
-- %
def sem_Keeper_init : Sem :=
  (sSeq (sSetF 0 2 (eLRg1 (eVar 1)))
    (sSetF 0 3 (eNew (.ti []))))
-- %
def fm_Keeper_init : List Slot → List D → Option (D × List Slot) := fmOf 2 sem_Keeper_init
-- %
def bd_Keeper_led_1 : Sem :=
  (sIf (tsAnd (tsE (eBin opEq (eVar 6) (eVar 5))) (tsE (eBin opNotIn (eVar 7) (eVar 3)))) (sSeq (sDPutP 3 okT (eVar 7) (eVar 5))
    (sDrop (eMut 4 okT "list" muAppend (aCons (eVar 7) aNil)))) sNext)
-- %
def wt_Keeper_led_2 : Envi → R Bool :=
  (tsE (eBin opNe (eVar 4) (eLst aNil)))
-- %
def bd_Keeper_led_3 : Sem :=
  (sSeq (sSet 5 (eMut 4 okT "list" muPopAt (aCons (eC (.int 0)) aNil)))
    (sFor (itBy lstOf (eVar 2)) (bT 2 (bsCons (bN 6) (bsCons (bN 7) bsNil))) bd_Keeper_led_1))
-- %
def sem_Keeper_led : Sem :=
  (sSeq (sSet 3 (eDisp1 (eVar 1) (eC .non)))
    (sSeq (sSet 4 (eLst (aCons (eVar 1) aNil)))
    (sSeq (sWhileN 1000000 wt_Keeper_led_2 bd_Keeper_led_3)
    (sRet (eVar 3)))))
-- %
def fm_Keeper_led : List Slot → List D → Option (D × List Slot) := fmOf 8 sem_Keeper_led
-- %
def wt_Keeper_ring_by_1 : Envi → R Bool :=
  (tsE (eBin opIsNot (eBin opDGet (eVar 2) (eBin opIx (eVar 3) (eUn opNeg (eC (.int 1))))) (eC .non)))
-- %
def bd_Keeper_ring_by_2 : Sem :=
  (sDrop (eMut 3 okT "list" muAppend (aCons (eBin opDGet (eVar 2) (eBin opIx (eVar 3) (eUn opNeg (eC (.int 1))))) aNil)))
-- %
def sem_Keeper_ring_by : Sem :=
  (sSeq (sSet 3 (eLst (aCons (eVar 1) aNil)))
    (sSeq (sWhileN 1000000 wt_Keeper_ring_by_1 bd_Keeper_ring_by_2)
    (sRet (eBin opAdd (eSl (opSl false) (eVar 3) pNo (pSome (eC (.int 1)))) (eUn opRevL (eSl (opSl false) (eVar 3) (pSome (eC (.int 1))) pNo))))))
-- %
def fm_Keeper_ring_by : List Slot → List D → Option (D × List Slot) := fmOf 4 sem_Keeper_ring_by
-- %
def ct_Keeper_change_1 : Envi → R Bool :=
  (tsE (eBin opIs (eBin opDGet (eVar 2) (eVar 4)) (eC .non)))
-- %
def ce_Keeper_change_2 : Envi → R Hd :=
  (eTup (aCons (eVar 9) (aCons (eVar 8) aNil)))
-- %
def ct_Keeper_change_3 : Envi → R Bool :=
  (tsE (eBin opIn (eVar 4) (eVar 7)))
-- %
def ct_Keeper_change_4 : Envi → R Bool :=
  (tsE (eBin opIn (eVar 4) (eVar 2)))
-- %
def ce_Keeper_change_5 : Envi → R Hd :=
  (eMeth (tyD "list") opIndexL (eFld 0 14) (aCons (eVar 4) aNil))
-- %
def bd_Keeper_change_6 : Sem :=
  (sSetLP 14 (isSelf 0) (eVar 13) (eVar 4))
-- %
def sem_Keeper_change : Sem :=
  (sSeq (sSet 3 (eBin opIx (eFKComp 2 (bN 4) ct_Keeper_change_1 (eVar 4) [4]) (eC (.int 0))))
    (sSeq (sSet 5 (eMeth (tyD "list") opIndexL (eFld 0 14) (aCons (eVar 3) aNil)))
    (sSeq (sSet 6 (eMeth (tyD "list") opIndexL (eFld 0 14) (aCons (eVar 1) aNil)))
    (sSeq (sSet 7 (eSelf 0 14 fm_Keeper_led (aCons (eMat (eVar 1)) (aCons (eMat (eLComp 15 (isSelf 0) (bT 2 (bsCons (bN 8) (bsCons (bN 9) bsNil))) tTrue ce_Keeper_change_2 [8, 9])) aNil))))
    (sSeq (sSet 10 (eComp (itBy lstOf (eSl (opSl false) (eFld 0 14) (pSome (eVar 5)) pNo)) (bN 4) ct_Keeper_change_3 (eVar 4) [4]))
    (sSeq (sSet 11 (eComp (itBy lstOf (eSl (opSl false) (eFld 0 14) pNo (pSome (eBin opAdd (eVar 6) (eC (.int 1)))))) (bN 4) ct_Keeper_change_4 (eVar 4) [4]))
    (sSeq (sSet 12 (eCB fSorted (aCons (eComp (itBy lstOf (eBin opAdd (eVar 10) (eVar 11))) (bN 4) tTrue ce_Keeper_change_5 [4]) aNil)))
    (sFor (itZipA (aCons (eMat (eVar 12)) (aCons (eMat (eBin opAdd (eVar 10) (eVar 11))) aNil))) (bT 2 (bsCons (bN 13) (bsCons (bN 4) bsNil))) bd_Keeper_change_6))))))))
-- %
def fm_Keeper_change : List Slot → List D → Option (D × List Slot) := fmOf 14 sem_Keeper_change
-- %
def sem_Keeper_come : Sem :=
  (sSeq (sIf (tsE (eBin opLtA (eMeth (tyD "list") opIndexL (eFld 0 4) (aCons (eVar 1) aNil)) (eMeth (tyD "list") opIndexL (eFld 0 4) (aCons (eVar 2) aNil)))) (sSeq (sDPutP 5 (isSelf 0) (eTup (aCons (eVar 1) (aCons (eVar 2) aNil))) (eC (.bl true)))
    (sRet (eTupF (aCons (eC (.str "fits")) aNil)))) sNext)
    (sSeq (sSet 3 (eSelf 0 4 fm_Keeper_led (aCons (eMat (eVar 2)) (aCons (eMat (eCB fListK (aCons (eFld 0 5) aNil))) aNil))))
    (sSeq (sIf (tsE (eBin opIn (eVar 1) (eVar 3))) (sRet (eTup (aCons (eMat (eC (.str "ring"))) (aCons (eMat (eSelf 0 4 fm_Keeper_ring_by (aCons (eMat (eVar 1)) (aCons (eMat (eVar 3)) aNil)))) aNil)))) sNext)
    (sSeq (sDrop (eSelf 0 4 fm_Keeper_change (aCons (eMat (eVar 1)) (aCons (eMat (eVar 3)) aNil))))
    (sSeq (sDPutP 5 (isSelf 0) (eTup (aCons (eVar 1) (aCons (eVar 2) aNil))) (eC (.bl true)))
    (sRet (eTup (aCons (eC (.str "moved")) (aCons (eCB fTup (aCons (eFld 0 4) aNil)) aNil)))))))))
-- %
def fm_Keeper_come : List Slot → List D → Option (D × List Slot) := fmOf 4 sem_Keeper_come
-- %
def ce_is_pair_1 : Envi → R Hd :=
  (eCall fs_between (aCons (eVar 2) (aCons (eC (.int 0)) (aCons (eBin opSub (eVar 1) (eC (.int 1))) aNil))))
-- %
def sem_is_pair : Sem :=
  (sSeq (sIf (tsOr (tsNot (tsE (eCB fIsi (aCons (eVar 0) (aCons (eC (.ty "tuple")) aNil))))) (tsOr (tsE (eBin opNe (eCB fLen (aCons (eVar 0) aNil)) (eC (.int 2)))) (tsNot (tsE (eCB fAll (aCons (eComp (itBy tupOf (eVar 0)) (bN 2) tTrue ce_is_pair_1 [2]) aNil)))))) (sRet (eC (.bl false))) sNext)
    (sRet (eBin opNe (eBin opIx (eVar 0) (eC (.int 0))) (eBin opIx (eVar 0) (eC (.int 1))))))
-- %
def fs_is_pair : List D → Rf := fsOf 3 sem_is_pair
-- %
def ce_all_come_1 : Envi → R Hd :=
  (eCall fs_is_pair (aCons (eVar 2) (aCons (eVar 0) aNil)))
-- %
def ce_all_come_2 : Envi → R Hd :=
  (eSelf 3 5 fm_Keeper_come (aCons (eMat (eBin opIx (eVar 2) (eC (.int 0)))) (aCons (eMat (eBin opIx (eVar 2) (eC (.int 1)))) aNil)))
-- %
def sem_all_come : Sem :=
  (sSeq (sIf (tsNot (tsE (eCall fs_between (aCons (eVar 0) (aCons (eC (.int 1)) (aCons (eC (.int 12)) aNil)))))) (sRaise .noNumber) sNext)
    (sSeq (sIf (tsOr (tsNot (tsE (eCB fIsi (aCons (eVar 1) (aCons (eC (.ty "list")) aNil))))) (tsOr (tsE (eBin opGt (eCB fLen (aCons (eVar 1) aNil)) (eC (.int 60)))) (tsNot (tsE (eCB fAll (aCons (eComp (itBy lstOf (eVar 1)) (bN 2) tTrue ce_all_come_1 [2]) aNil)))))) (sRaise .noArrows) sNext)
    (sLet 3 5 2 fm_Keeper_init (aCons (eVar 0) aNil)
    (sSeq (sSet 4 (eComp (itBy lstOf (eVar 1)) (bN 2) tTrue ce_all_come_2 [2]))
    (sRet (eTup (aCons (eVar 4) (aCons (eCB fTup (aCons (eFld 3 5) aNil)) aNil))))))))
-- %
def fs_all_come : List D → Rf := fsOf 5 sem_all_come
-- %
def sem_kept : Sem :=
  (sRet (eBin opIx (eCall fs_all_come (aCons (eVar 0) (aCons (eVar 1) aNil))) (eC (.int 0))))
-- %
def fs_kept : List D → Rf := fsOf 2 sem_kept
-- %
def sem_row_behind : Sem :=
  (sRet (eBin opIx (eCall fs_all_come (aCons (eVar 0) (aCons (eVar 1) aNil))) (eC (.int 1))))
-- %
def fs_row_behind : List D → Rf := fsOf 2 sem_row_behind
-- %
def bd_L_pairs_1 : Sem :=
  (sSeq (sSet 7 (eBin opMod (eBin opMul (eBin opAdd (eBin opAdd (eVar 4) (eBin opMul (eBin opMul (eC (.int 104729)) (eVar 6)) (eVar 6))) (eBin opMul (eC (.int 7919)) (eVar 6))) (eC (.int 48271))) (eC (.int 2147483647))))
    (sSeq (sSet 8 (eBin opMod (eBin opDiv (eVar 7) (eC (.int 7))) (eVar 2)))
    (sSeq (sSet 9 (eBin opMod (eBin opDiv (eVar 7) (eC (.int 997))) (eVar 2)))
    (sIf (tsE (eBin opNe (eVar 8) (eVar 9))) (sDrop (eMut 5 okT "list" muAppend (aCons (eTup (aCons (eVar 8) (aCons (eVar 9) aNil))) aNil))) sNext))))
-- %
def sem_L_pairs : Sem :=
  (sSeq (sSet 4 (eCall fs_L_mixed (aCons (eVar 0) (aCons (eVar 1) (aCons (eBin opPow (eC (.int 10)) (eC (.int 9))) aNil)))))
    (sSeq (sSet 5 (eLst aNil))
    (sSeq (sFor (itRng1 (aCons (eCall fs_L_mixed (aCons (eVar 0) (aCons (eBin opAdd (eVar 1) (eC (.int 1))) (aCons (eBin opAdd (eVar 3) (eC (.int 1))) aNil)))) aNil)) (bN 6) bd_L_pairs_1)
    (sRet (eVar 5)))))
-- %
def fs_L_pairs : List D → Rf := fsOf 10 sem_L_pairs
-- %
end Fw

set_option Elab.async false
set_option linter.all false
set_option maxRecDepth 100000
namespace Fw
open PySem PySem.Spec PyProof.Rows L2 Pv
open PySem.W (Datum DatumOrd Tup T3 T4)
/-! all rows of some things, in order -/
def rowsL : Nat → List Int → List (List Int)
  | 0, _ => [[]]
  | k + 1, l => l.flatMap fun x => (rowsL k (l.filter fun y => decide (y ≠ x))).map (x :: ·)
theorem cons_filter_perm {x : Int} : ∀ {l : List Int}, x ∈ l → l.Nodup → (x :: l.filter fun y => decide (y ≠ x)).Perm l
  | [], h, _ => nomatch h
  | a :: l, h, hn => by
    obtain ⟨h1, h2⟩ := List.nodup_cons.mp hn
    by_cases e : a = x
    · subst e
      rw [List.filter_cons_of_neg (by simp), List.filter_eq_self.mpr (fun y hy => by
        have : y ≠ a := fun z => h1 (z ▸ hy)
        simpa using this)]
    · rw [List.filter_cons_of_pos (by simpa using e)]
      have hx : x ∈ l := by
        rcases List.mem_cons.mp h with z | z
        · exact absurd z.symm e
        · exact z
      exact (List.Perm.swap a x _).trans ((cons_filter_perm hx h2).cons a)
theorem filter_ne_len {x : Int} {l : List Int} {k : Nat} (h : x ∈ l) (hn : l.Nodup) (hk : l.length = k + 1) : (l.filter fun y => decide (y ≠ x)).length = k := by
  have := (cons_filter_perm h hn).length_eq
  rw [List.length_cons] at this
  omega
theorem mem_rowsL : ∀ {k : Nat} {l q : List Int}, l.Nodup → l.length = k → (q ∈ rowsL k l ↔ q.Perm l)
  | 0, l, q, hn, hk => by
    have : l = [] := List.eq_nil_of_length_eq_zero hk
    subst this
    rw [List.perm_nil]
    simp [rowsL]
  | k + 1, l, q, hn, hk => by
    unfold rowsL
    rw [List.mem_flatMap]
    constructor
    · rintro ⟨x, hx, hq⟩
      obtain ⟨t, ht, rfl⟩ := List.mem_map.mp hq
      have := (mem_rowsL (hn.filter _) (filter_ne_len hx hn hk)).mp ht
      exact (this.cons x).trans (cons_filter_perm hx hn)
    · intro hp
      cases q with
      | nil => rw [List.nil_perm] at hp; subst hp; cases hk
      | cons x t =>
        have hx : x ∈ l := hp.subset List.mem_cons_self
        refine ⟨x, hx, List.mem_map.mpr ⟨t, ?_, rfl⟩⟩
        rw [mem_rowsL (hn.filter _) (filter_ne_len hx hn hk)]
        exact (List.perm_cons x).mp (hp.trans (cons_filter_perm hx hn).symm)
theorem nodup_rowsL : ∀ {k : Nat} {l : List Int}, l.Nodup → l.length = k → (rowsL k l).Nodup
  | 0, l, hn, hk => by simp [rowsL]
  | k + 1, l, hn, hk => by
    have key : ∀ is : List Int, is.Nodup → (∀ x ∈ is, x ∈ l) → (is.flatMap fun x => (rowsL k (l.filter fun y => decide (y ≠ x))).map (x :: ·)).Nodup := by
      intro is
      induction is with
      | nil => intro _ _; exact List.nodup_nil
      | cons x is ih =>
        intro h1 h2
        obtain ⟨h3, h4⟩ := List.nodup_cons.mp h1
        rw [List.flatMap_cons]
        refine List.nodup_append.mpr ⟨?_, ih h4 fun y hy => h2 y (List.mem_cons_of_mem _ hy), fun a ha b hb e => ?_⟩
        · have := nodup_rowsL (hn.filter fun y => decide (y ≠ x)) (filter_ne_len (h2 x List.mem_cons_self) hn hk)
          exact List.pairwise_map.mpr (this.imp fun e z => e (List.cons.inj z).2)
        · subst e
          obtain ⟨t, _, rfl⟩ := List.mem_map.mp ha
          obtain ⟨y, hy, hb⟩ := List.mem_flatMap.mp hb
          obtain ⟨u, _, hu⟩ := List.mem_map.mp hb
          rw [(List.cons.inj hu).1] at hy
          exact h3 hy
    exact key l hn fun x hx => hx
def rowsN (n : Nat) : List (List Int) := rowsL n (intsN n)
theorem mem_rowsN {n : Nat} {r : List Int} : r ∈ rowsN n ↔ RowOk n r := by
  unfold rowsN
  rw [mem_rowsL (ints_nodup n) (ints_len n)]
  exact ⟨fun h => ⟨h⟩, fun h => h.p⟩
theorem nodup_rowsN (n : Nat) : (rowsN n).Nodup := nodup_rowsL (ints_nodup n) (ints_len n)
theorem rowOk_ints (n : Nat) : RowOk n (intsN n) := ⟨.refl _⟩
theorem rowsN_ne (n : Nat) : rowsN n ≠ [] := fun h => by
  have := mem_rowsN.mpr (rowOk_ints n)
  rw [h] at this
  cases this
/-! the least of some numbers, and how often it is there -/
def summ (l : List Int) : Option (Int × Nat) := match l.min? with
  | none => none
  | some m => some (m, l.count m)
theorem min?_is {l : List Int} {m : Int} : l.min? = some m ↔ m ∈ l ∧ ∀ x ∈ l, m ≤ x := List.min?_eq_some_iff
theorem min?_ex {l : List Int} (h : l ≠ []) : ∃ m, l.min? = some m := by
  cases e : l.min? with
  | none => exact absurd (List.min?_eq_none_iff.mp e) h
  | some m => exact ⟨m, rfl⟩
theorem summ_none {l : List Int} : summ l = none ↔ l = [] := by
  unfold summ
  cases e : l.min? with
  | none => simp [List.min?_eq_none_iff.mp e]
  | some m =>
    have := (min?_is.mp e).1
    constructor
    · intro z; cases z
    · rintro rfl; cases this
theorem summ_some {l : List Int} {m : Int} {c : Nat} : summ l = some (m, c) ↔ (m ∈ l ∧ ∀ x ∈ l, m ≤ x) ∧ c = l.count m := by
  unfold summ
  cases e : l.min? with
  | none =>
    have := List.min?_eq_none_iff.mp e
    subst this
    constructor
    · intro z; cases z
    · rintro ⟨⟨h, _⟩, _⟩; cases h
  | some k =>
    have hk := min?_is.mp e
    constructor
    · intro z; cases z; exact ⟨hk, rfl⟩
    · rintro ⟨h, rfl⟩
      have : k = m := by have := hk.2 m h.1; have := h.2 k hk.1; omega
      subst this; rfl
def joinS (R : List (Int × Nat)) : Option (Int × Nat) := match (R.map (·.1)).min? with
  | none => none
  | some m => some (m, ((R.filter fun p => decide (p.1 = m)).map (·.2)).sum)
theorem count_join {m : Int} : ∀ {L : List (List Int)}, (∀ l ∈ L, ∀ x ∈ l, m ≤ x) → L.flatten.count m = (((L.filterMap summ).filter fun p => decide (p.1 = m)).map (·.2)).sum
  | [], _ => rfl
  | l :: L, h => by
    have ih := count_join (m := m) (L := L) fun k hk => h k (List.mem_cons_of_mem _ hk)
    rw [List.flatten_cons, List.count_append, ih]
    cases e : summ l with
    | none =>
      rw [List.filterMap_cons_none e]
      have := summ_none.mp e
      subst this
      simp
    | some p =>
      obtain ⟨k, c⟩ := p
      obtain ⟨⟨h1, h2⟩, h3⟩ := summ_some.mp e
      rw [List.filterMap_cons_some e]
      by_cases hk : k = m
      · subst hk
        rw [List.filter_cons_of_pos (by simp), List.map_cons, List.sum_cons, h3]
      · rw [List.filter_cons_of_neg (by simpa using hk)]
        have : l.count m = 0 := List.count_eq_zero.mpr fun z => by
          have := h2 m z
          have := h l List.mem_cons_self k h1
          omega
        omega
theorem summ_flatten (L : List (List Int)) : summ L.flatten = joinS (L.filterMap summ) := by
  by_cases h : L.flatten = []
  · rw [summ_none.mpr h]
    have : L.filterMap summ = [] := List.filterMap_eq_nil_iff.mpr fun l hl => summ_none.mpr (List.flatten_eq_nil_iff.mp h l hl)
    rw [this]; rfl
  · obtain ⟨m, hm⟩ := min?_ex h
    obtain ⟨h1, h2⟩ := min?_is.mp hm
    have hb : ∀ l ∈ L, ∀ x ∈ l, m ≤ x := fun l hl x hx => h2 x (List.mem_flatten.mpr ⟨l, hl, hx⟩)
    have hm2 : ((L.filterMap summ).map (·.1)).min? = some m := min?_is.mpr ⟨by
        obtain ⟨l, hl, hx⟩ := List.mem_flatten.mp h1
        refine List.mem_map.mpr ⟨(m, l.count m), List.mem_filterMap.mpr ⟨l, hl, summ_some.mpr ⟨⟨hx, hb l hl⟩, rfl⟩⟩, rfl⟩, fun x hx => by
        obtain ⟨⟨k, c⟩, hp, rfl⟩ := List.mem_map.mp hx
        obtain ⟨l, hl, e⟩ := List.mem_filterMap.mp hp
        exact hb l hl k (summ_some.mp e).1.1⟩
    unfold joinS
    rw [hm2, summ_some.mpr ⟨⟨h1, h2⟩, rfl⟩, count_join hb]
theorem summ_map (c : Int) (l : List Int) : summ (l.map (c + ·)) = (summ l).map fun p => (p.1 + c, p.2) := by
  cases e : summ l with
  | none =>
    have := summ_none.mp e
    subst this; rfl
  | some p =>
    obtain ⟨k, d⟩ := p
    obtain ⟨⟨h1, h2⟩, h3⟩ := summ_some.mp e
    rw [Option.map_some]
    refine summ_some.mpr ⟨⟨List.mem_map.mpr ⟨k, h1, by omega⟩, fun x hx => ?_⟩, ?_⟩
    · obtain ⟨y, hy, rfl⟩ := List.mem_map.mp hx
      have := h2 y hy
      dsimp only; omega
    · dsimp only
      rw [h3, Int.add_comm k c, List.count_eq_countP, List.count_eq_countP, List.countP_map]
      congr 1
      funext y
      simp only [Function.comp]
      by_cases hy : y = k
      · subst hy; rw [beq_self_eq_true, beq_self_eq_true]
      · have h : ¬ (c + y = c + k) := by omega
        rw [beq_eq_false_iff_ne.mpr h, beq_eq_false_iff_ne.mpr hy]
end Fw

set_option Elab.async false
set_option linter.all false
set_option maxRecDepth 100000
namespace Fw
open PySem PySem.Spec PyProof.Rows L2 Pv
open PySem.W (Datum DatumOrd Tup T3 T4)
/-! what an order costs -/
def wOf (as : List Ar) (x y : Int) : Int := ((as.filter fun z => decide (z.a = x ∧ z.b = y)).map (·.c)).sum
def backW (w : Int → Int → Int) (p : List Int) (x : Int) : Int := (p.map (w x)).sum
def costs (w : Int → Int → Int) : List Int → List Int → Int
  | _, [] => 0
  | p, x :: q => backW w p x + costs w (p ++ [x]) q
theorem sum_map_add {α : Type} (f g : α → Int) : ∀ l : List α, (l.map fun x => f x + g x).sum = (l.map f).sum + (l.map g).sum
  | [] => rfl
  | x :: l => by
    rw [List.map_cons, List.map_cons, List.map_cons, List.sum_cons, List.sum_cons, List.sum_cons, sum_map_add f g l]; omega
theorem sum_map_zero {α : Type} : ∀ l : List α, (l.map fun _ => (0 : Int)).sum = 0
  | [] => rfl
  | x :: l => by rw [List.map_cons, List.sum_cons, sum_map_zero l]; rfl
theorem backW_add (v w : Int → Int → Int) (p : List Int) (x : Int) : backW (fun x y => v x y + w x y) p x = backW v p x + backW w p x := sum_map_add _ _ _
theorem costs_add (v w : Int → Int → Int) : ∀ q p, costs (fun x y => v x y + w x y) p q = costs v p q + costs w p q
  | [], _ => rfl
  | x :: q, p => by
    unfold costs
    rw [backW_add, costs_add v w q]; omega
theorem costs_zero : ∀ q p, costs (fun _ _ => 0) p q = 0
  | [], _ => rfl
  | x :: q, p => by
    unfold costs
    rw [costs_zero q]
    unfold backW
    rw [sum_map_zero]; rfl
theorem sum_perm {l m : List Int} (h : l.Perm m) : l.sum = m.sum := by
  induction h with
  | nil => rfl
  | cons a _ ih => rw [List.sum_cons, List.sum_cons, ih]
  | swap a b l => rw [List.sum_cons, List.sum_cons, List.sum_cons, List.sum_cons]; omega
  | trans _ _ h1 h2 => rw [h1, h2]
theorem backW_perm {w : Int → Int → Int} {p p' : List Int} (h : p.Perm p') (x : Int) : backW w p x = backW w p' x := sum_perm (h.map _)
theorem idx_self (a : Int) (l : List Int) : (a :: l).idxOf a = 0 := by rw [List.idxOf_cons, beq_self_eq_true]; rfl
theorem idx_ne {x a : Int} (h : ¬ x = a) (l : List Int) : (x :: l).idxOf a = l.idxOf a + 1 := by rw [List.idxOf_cons, beq_eq_false_iff_ne.mpr h]; rfl
theorem costs_perm {w : Int → Int → Int} : ∀ {q p p' : List Int}, p.Perm p' → costs w p q = costs w p' q
  | [], _, _, _ => rfl
  | x :: q, p, p', h => by
    unfold costs
    rw [backW_perm h, costs_perm (q := q) (h.append_right [x])]
theorem backW_one {a b c x : Int} : ∀ {p : List Int}, p.Nodup → backW (fun x y => if a = x ∧ b = y then c else 0) p x = if a = x ∧ b ∈ p then c else 0
  | [], _ => by simp [backW]
  | y :: p, h => by
    obtain ⟨h1, h2⟩ := List.nodup_cons.mp h
    have ih := backW_one (a := a) (b := b) (c := c) (x := x) h2
    unfold backW at ih ⊢
    rw [List.map_cons, List.sum_cons, ih]
    by_cases hx : a = x
    · by_cases hy : b = y
      · subst hy
        simp [hx, h1]
      · simp [hx, hy]
    · simp [hx]
theorem costs_one {a b c : Int} (hab : a ≠ b) : ∀ {q p : List Int}, (p ++ q).Nodup → costs (fun x y => if a = x ∧ b = y then c else 0) p q = if a ∈ q ∧ (b ∈ p ∨ (b ∈ q ∧ q.idxOf b < q.idxOf a)) then c else 0
  | [], p, _ => by simp [costs]
  | x :: q, p, h => by
    have hp : p.Nodup := (List.nodup_append.mp h).1
    have hq := (List.nodup_append.mp h).2.1
    have ih := costs_one (a := a) (b := b) (c := c) hab (q := q) (p := p ++ [x]) (by rw [List.append_assoc]; exact h)
    unfold costs
    rw [backW_one hp, ih]
    have hxq := (List.nodup_cons.mp hq).1
    by_cases hx : a = x
    · subst hx
      simp [hxq, idx_self]
    · by_cases hb : b = x
      · subst hb
        have hx' : ¬ b = a := fun z => hx z.symm
        rw [idx_self, idx_ne hx']
        simp [hx]
      · have hx' : ¬ x = a := fun z => hx z.symm
        have hb' : ¬ x = b := fun z => hb z.symm
        rw [idx_ne hx', idx_ne hb']
        simp [hx, hb]
theorem weightI_cons (z : Ar) (as : List Ar) (r : List Int) : weightI (z :: as) r = (if r.idxOf z.b < r.idxOf z.a then z.c else 0) + weightI as r := by
  unfold weightI turnedL
  by_cases h : r.idxOf z.b < r.idxOf z.a
  · rw [List.filter_cons_of_pos (by simpa using h), List.map_cons, List.sum_cons, if_pos h]
  · rw [List.filter_cons_of_neg (by simpa using h), if_neg h]; omega
theorem wOf_cons (z : Ar) (as : List Ar) : wOf (z :: as) = fun x y => (if z.a = x ∧ z.b = y then z.c else 0) + wOf as x y := by
  funext x y
  unfold wOf
  by_cases h : z.a = x ∧ z.b = y
  · rw [List.filter_cons_of_pos (by simpa using h), List.map_cons, List.sum_cons, if_pos h]
  · rw [List.filter_cons_of_neg (by simpa using h), if_neg h]; omega
theorem costs_weight {r : List Int} (hr : r.Nodup) : ∀ {as : List Ar}, (∀ z ∈ as, z.a ≠ z.b ∧ z.a ∈ r ∧ z.b ∈ r) → costs (wOf as) [] r = weightI as r
  | [], _ => costs_zero r []
  | z :: as, h => by
    obtain ⟨h1, h2, h3⟩ := h z List.mem_cons_self
    rw [wOf_cons, costs_add, weightI_cons, costs_one h1 (by simpa using hr), costs_weight hr fun y hy => h y (List.mem_cons_of_mem _ hy)]
    simp [h2, h3]
theorem costs_web {n : Nat} {as : List Ar} {r : List Int} (h : WebOk n as) (hr : RowOk n r) : costs (wOf as) [] r = weightI as r :=
  costs_weight hr.nodup fun z hz => by
    obtain ⟨h1, h2, h3, h4, h5, _⟩ := h.ar z hz
    exact ⟨h5, hr.mem.mpr ⟨h1, h2⟩, hr.mem.mpr ⟨h3, h4⟩⟩
/-! sets as numbers -/
def stB (S : Nat) (x : Int) : Bool := S.testBit x.toNat
def addB (S : Nat) (x : Int) : Nat := S + 2 ^ x.toNat
theorem bits7 : ∀ S < 128, ∀ i < 7, ∀ j < 7, S.testBit i = false → (S + 2 ^ i).testBit j = (decide (j = i) || S.testBit j) ∧ S + 2 ^ i < 128 := by decide +kernel
theorem stB_add {S : Nat} {x y : Int} (hS : S < 128) (hx : 0 ≤ x ∧ x < 7) (hy : 0 ≤ y ∧ y < 7) (h : stB S x = false) : stB (addB S x) y = (decide (y = x) || stB S y) ∧ addB S x < 128 := by
  obtain ⟨h1, h2⟩ := bits7 S hS x.toNat (by omega) y.toNat (by omega) h
  refine ⟨?_, h2⟩
  unfold stB addB
  rw [h1]
  congr 1
  exact decide_eq_decide.mpr (by omega)
def standN (n S : Nat) : List Int := (intsN n).filter fun x => stB S x
def restN (n S : Nat) : List Int := (intsN n).filter fun x => !stB S x
theorem mem_restN {n S : Nat} {x : Int} : x ∈ restN n S ↔ (0 ≤ x ∧ x < n) ∧ stB S x = false := by
  unfold restN
  rw [List.mem_filter, mem_intsN]
  simp
theorem mem_standN {n S : Nat} {x : Int} : x ∈ standN n S ↔ (0 ≤ x ∧ x < n) ∧ stB S x = true := by
  unfold standN
  rw [List.mem_filter, mem_intsN]
theorem restN_add {n S : Nat} {x : Int} (hn : n ≤ 7) (hS : S < 128) (hx : x ∈ restN n S) : restN n (addB S x) = (restN n S).filter fun y => decide (y ≠ x) := by
  obtain ⟨h1, h2⟩ := mem_restN.mp hx
  unfold restN
  rw [List.filter_filter]
  refine List.filter_congr fun y hy => ?_
  rw [mem_intsN] at hy
  rw [(stB_add hS (by omega) (by omega) h2).1]
  by_cases e : y = x <;> simp [e]
theorem standN_add {n S : Nat} {x : Int} (hn : n ≤ 7) (hS : S < 128) (hx : x ∈ restN n S) : (standN n (addB S x)).Perm (standN n S ++ [x]) := by
  obtain ⟨h1, h2⟩ := mem_restN.mp hx
  have hnd : (standN n S).Nodup := (ints_nodup n).filter _
  refine (List.perm_ext_iff_of_nodup ((ints_nodup n).filter _) ?_).mpr fun y => ?_
  · refine List.nodup_append.mpr ⟨hnd, List.nodup_cons.mpr ⟨List.not_mem_nil, List.nodup_nil⟩, fun a ha b hb e => ?_⟩
    rw [List.mem_singleton] at hb
    subst e; subst hb
    rw [(mem_standN.mp ha).2] at h2
    cases h2
  · show y ∈ standN n (addB S x) ↔ _
    rw [mem_standN, List.mem_append, mem_standN, List.mem_singleton]
    constructor
    · rintro ⟨g1, g2⟩
      rw [(stB_add hS (by omega) (by omega) h2).1, Bool.or_eq_true, decide_eq_true_eq] at g2
      rcases g2 with g2 | g2
      · exact .inr g2
      · exact .inl ⟨g1, g2⟩
    · rintro (⟨g1, g2⟩ | rfl)
      · exact ⟨g1, by rw [(stB_add hS (by omega) (by omega) h2).1, g2, Bool.or_true]⟩
      · exact ⟨h1, by rw [(stB_add hS (by omega) (by omega) h2).1]; simp⟩
theorem restN_nodup (n S : Nat) : (restN n S).Nodup := (ints_nodup n).filter _
theorem restN_len {n S k : Nat} {x : Int} (hn : n ≤ 7) (hS : S < 128) (hk : (restN n S).length = k + 1) (hx : x ∈ restN n S) : (restN n (addB S x)).length = k := by
  rw [restN_add hn hS hx]
  exact filter_ne_len hx (restN_nodup n S) hk
theorem addB_lt {n S : Nat} {x : Int} (hn : n ≤ 7) (hS : S < 128) (hx : x ∈ restN n S) : addB S x < 128 := by
  obtain ⟨h1, h2⟩ := mem_restN.mp hx
  exact (stB_add hS (y := x) (by omega) (by omega) h2).2
theorem restN_zero (n : Nat) : restN n 0 = intsN n := by
  unfold restN stB
  refine List.filter_eq_self.mpr fun x _ => ?_
  simp
theorem standN_zero (n : Nat) : standN n 0 = [] := by
  unfold standN stB
  refine List.filter_eq_nil_iff.mpr fun x _ => ?_
  simp
/-! the least, with pairs that are kept -/
def mayB (K : List (Int × Int)) (S : Nat) (x : Int) : Bool := K.all fun p => !decide (p.2 = x) || stB S p.1
def allowB (K : List (Int × Int)) : Nat → List Int → Bool
  | _, [] => true
  | S, x :: q => mayB K S x && allowB K (addB S x) q
def costM (n : Nat) (w : Int → Int → Int) : Nat → List Int → Int
  | _, [] => 0
  | S, x :: q => backW w (standN n S) x + costM n w (addB S x) q
def costsL (n : Nat) (w : Int → Int → Int) (K : List (Int × Int)) : Nat → Nat → List Int
  | 0, _ => [0]
  | k + 1, S => (restN n S).flatMap fun x => if mayB K S x = true then (costsL n w K k (addB S x)).map (backW w (standN n S) x + ·) else []
def bestM (n : Nat) (w : Int → Int → Int) (K : List (Int × Int)) (k S : Nat) : Option (Int × Nat) := summ (costsL n w K k S)
theorem flatMap_congr' {α β : Type} {f g : α → List β} : ∀ {l : List α}, (∀ x ∈ l, f x = g x) → l.flatMap f = l.flatMap g
  | [], _ => rfl
  | x :: l, h => by rw [List.flatMap_cons, List.flatMap_cons, h x List.mem_cons_self, flatMap_congr' fun y hy => h y (List.mem_cons_of_mem _ hy)]
theorem costsL_eq {n : Nat} {w : Int → Int → Int} {K : List (Int × Int)} (hn : n ≤ 7) : ∀ {k S : Nat}, S < 128 → (restN n S).length = k → costsL n w K k S = ((rowsL k (restN n S)).filter (allowB K S)).map (costM n w S)
  | 0, S, _, _ => rfl
  | k + 1, S, hS, hk => by
    unfold costsL rowsL
    rw [List.filter_flatMap, List.map_flatMap]
    refine flatMap_congr' fun x hx => ?_
    have ih := costsL_eq (w := w) (K := K) hn (k := k) (addB_lt hn hS hx) (restN_len hn hS hk hx)
    rw [restN_add hn hS hx] at ih
    rw [List.filter_map]
    by_cases hm : mayB K S x = true
    · rw [if_pos hm, ih, List.map_map, List.map_map]
      congr 1
      refine List.filter_congr fun q _ => ?_
      show _ = (mayB K S x && allowB K (addB S x) q)
      rw [hm, Bool.true_and]
    · rw [if_neg hm]
      have : (rowsL k ((restN n S).filter fun y => decide (y ≠ x))).filter (allowB K S ∘ fun q => x :: q) = [] := List.filter_eq_nil_iff.mpr fun q _ => by
        show ¬ (mayB K S x && allowB K (addB S x) q) = true
        rw [Bool.and_eq_true]
        exact fun z => hm z.1
      rw [this]; rfl
theorem filterMap_flatMap_summ {n : Nat} {f : Int → List Int} : ∀ {l : List Int}, summ (l.flatMap f) = joinS (l.filterMap fun x => summ (f x)) := fun {l} => by
  rw [List.flatMap_def, summ_flatten, List.filterMap_map]; rfl
def foundR (n : Nat) (w : Int → Int → Int) (K : List (Int × Int)) (k S : Nat) (l : List Int) : List (Int × Nat) :=
  l.filterMap fun x => if (!stB S x && mayB K S x) = true then (bestM n w K k (addB S x)).map fun p => (p.1 + backW w (standN n S) x, p.2) else none
theorem bestM_succ (n : Nat) (w : Int → Int → Int) (K : List (Int × Int)) (k S : Nat) : bestM n w K (k + 1) S = joinS (foundR n w K k S (intsN n)) := by
  unfold bestM costsL
  rw [filterMap_flatMap_summ (n := n)]
  congr 1
  unfold foundR restN
  rw [List.filterMap_filter]
  congr 1
  funext x
  cases h1 : stB S x with
  | true => simp
  | false =>
    by_cases h2 : mayB K S x = true
    · simp only [h2, Bool.not_false, if_true, Bool.and_self]
      rw [summ_map]; rfl
    · simp only [h2, Bool.not_false, if_true, Bool.and_false, Bool.false_eq_true, if_false]
      rfl
theorem bestM_zero (n : Nat) (w : Int → Int → Int) (K : List (Int × Int)) (S : Nat) : bestM n w K 0 S = some (0, 1) := rfl
theorem costM_eq {n : Nat} {w : Int → Int → Int} (hn : n ≤ 7) : ∀ {q p : List Int} {S : Nat}, S < 128 → p.Perm (standN n S) → q.Perm (restN n S) → costM n w S q = costs w p q
  | [], _, _, _, _, _ => rfl
  | x :: q, p, S, hS, hp, hq => by
    have hx : x ∈ restN n S := hq.subset List.mem_cons_self
    unfold costM costs
    rw [backW_perm hp, costM_eq hn (p := p ++ [x]) (addB_lt hn hS hx) ((hp.append_right [x]).trans (standN_add hn hS hx).symm) (by
      rw [restN_add hn hS hx]
      exact (List.perm_cons x).mp (hq.trans (cons_filter_perm hx (restN_nodup n S)).symm))]
theorem costM_web {n : Nat} {as : List Ar} {r : List Int} (h : WebOk n as) (hr : RowOk n r) : costM n (wOf as) 0 r = weightI as r := by
  rw [costM_eq h.n7 (p := []) (by decide) (by rw [standN_zero]) (by rw [restN_zero]; exact hr.p), costs_web h hr]
theorem bestM_web {n : Nat} {as : List Ar} {K : List (Int × Int)} (h : WebOk n as) : bestM n (wOf as) K n 0 = summ (((rowsN n).filter (allowB K 0)).map (weightI as)) := by
  unfold bestM
  rw [costsL_eq h.n7 (by decide) (by rw [restN_zero, ints_len]), restN_zero]
  congr 1
  refine List.map_congr_left fun r hr => costM_web h (mem_rowsN.mp (List.mem_filter.mp hr).1)
/-! the first best order -/
def isBest (n : Nat) (w : Int → Int → Int) (k S : Nat) (x : Int) : Bool := decide ((bestM n w [] k (addB S x)).map (fun p => p.1 + backW w (standN n S) x) = (bestM n w [] (k + 1) S).map (·.1))
def firstM (n : Nat) (w : Int → Int → Int) : Nat → Nat → List Int
  | 0, _ => []
  | k + 1, S => match (restN n S).find? (isBest n w k S) with
    | some x => x :: firstM n w k (addB S x)
    | none => []
theorem allowB_nil : ∀ (q : List Int) (S : Nat), allowB [] S q = true
  | [], _ => rfl
  | x :: q, S => by unfold allowB; rw [allowB_nil q]; rfl
theorem costsL_nil {n : Nat} {w : Int → Int → Int} (hn : n ≤ 7) {k S : Nat} (hS : S < 128) (hk : (restN n S).length = k) : costsL n w [] k S = (rowsL k (restN n S)).map (costM n w S) := by
  rw [costsL_eq hn hS hk, List.filter_eq_self.mpr fun q _ => allowB_nil q S]
theorem findSome_if {α β : Type} {p : α → Bool} {f : α → β} : ∀ {l : List α}, l.findSome? (fun x => if p x = true then some (f x) else none) = (l.find? p).map f
  | [] => rfl
  | x :: l => by
    rw [List.findSome?_cons, List.find?_cons]
    cases h : p x
    · simp only [Bool.false_eq_true, if_false]
      exact findSome_if
    · simp
theorem findSome_congr {α β : Type} {f g : α → Option β} : ∀ {l : List α}, (∀ x ∈ l, f x = g x) → l.findSome? f = l.findSome? g
  | [], _ => rfl
  | x :: l, h => by rw [List.findSome?_cons, List.findSome?_cons, h x List.mem_cons_self, findSome_congr fun y hy => h y (List.mem_cons_of_mem _ hy)]
theorem rowsL_ne {k : Nat} {l : List Int} (hn : l.Nodup) (hk : l.length = k) : rowsL k l ≠ [] := fun z => by
  have := (mem_rowsL hn hk).mpr (List.Perm.refl l)
  rw [z] at this; cases this
theorem firstM_find {n : Nat} {w : Int → Int → Int} (hn : n ≤ 7) : ∀ {k S : Nat}, S < 128 → (restN n S).length = k →
    (rowsL k (restN n S)).find? (fun q => decide (some (costM n w S q) = (bestM n w [] k S).map (·.1))) = some (firstM n w k S)
  | 0, S, _, _ => by simp [rowsL, costM, firstM, bestM_zero]
  | k + 1, S, hS, hk => by
    have hne : costsL n w [] (k + 1) S ≠ [] := by
      rw [costsL_nil hn hS hk]
      exact fun z => rowsL_ne (restN_nodup n S) hk (List.map_eq_nil_iff.mp z)
    obtain ⟨⟨m, c⟩, hb⟩ : ∃ p, bestM n w [] (k + 1) S = some p := by
      cases e : bestM n w [] (k + 1) S with
      | none => exact absurd (summ_none.mp e) hne
      | some p => exact ⟨p, rfl⟩
    have hm := (summ_some.mp hb).1
    have hex : ∃ x ∈ restN n S, isBest n w k S x = true := by
      have h1 := hm.1
      unfold costsL at h1
      obtain ⟨x, hx, h1⟩ := List.mem_flatMap.mp h1
      have : mayB [] S x = true := rfl
      rw [if_pos this] at h1
      obtain ⟨c0, hc0, e0⟩ := List.mem_map.mp h1
      refine ⟨x, hx, ?_⟩
      have hb2 : bestM n w [] k (addB S x) = some (c0, (costsL n w [] k (addB S x)).count c0) := summ_some.mpr ⟨⟨hc0, fun y hy => by
        have := hm.2 (backW w (standN n S) x + y) (by
          unfold costsL
          refine List.mem_flatMap.mpr ⟨x, hx, ?_⟩
          rw [if_pos this]
          exact List.mem_map.mpr ⟨y, hy, rfl⟩)
        omega⟩, rfl⟩
      unfold isBest
      rw [hb2, hb]
      simp; omega
    have step : ∀ x ∈ restN n S, ((rowsL k ((restN n S).filter fun y => decide (y ≠ x))).map (x :: ·)).find? (fun q => decide (some (costM n w S q) = (bestM n w [] (k + 1) S).map (·.1))) = if isBest n w k S x = true then some (x :: firstM n w k (addB S x)) else none := by
      intro x hx
      have hS' := addB_lt hn hS hx
      have hk' := restN_len hn hS hk hx
      have ih := firstM_find (w := w) hn hS' hk'
      rw [← restN_add hn hS hx]
      rw [List.find?_map]
      by_cases hc : isBest n w k S x = true
      · rw [if_pos hc]
        unfold isBest at hc
        have hc := of_decide_eq_true hc
        have : ((fun q => decide (some (costM n w S q) = (bestM n w [] (k + 1) S).map (·.1))) ∘ fun q => x :: q) = fun q => decide (some (costM n w (addB S x) q) = (bestM n w [] k (addB S x)).map (·.1)) := by
          funext q
          rw [Function.comp, ← hc]
          refine decide_eq_decide.mpr ?_
          cases bestM n w [] k (addB S x) with
          | none => simp
          | some p =>
            simp only [Option.map_some, Option.some.injEq]
            show backW w (standN n S) x + costM n w (addB S x) q = p.1 + backW w (standN n S) x ↔ _
            omega
        rw [this, ih]; rfl
      · rw [if_neg hc, Option.map_eq_none_iff, List.find?_eq_none]
        intro q hq z
        have z := of_decide_eq_true z
        refine hc ?_
        have hq2 : costM n w (addB S x) q ∈ costsL n w [] k (addB S x) := by
          rw [costsL_nil hn hS' hk']
          exact List.mem_map.mpr ⟨q, hq, rfl⟩
        rw [hb] at z
        have z : backW w (standN n S) x + costM n w (addB S x) q = m := by
          have z : some (backW w (standN n S) x + costM n w (addB S x) q) = some m := z
          exact Option.some.inj z
        have hb2 : bestM n w [] k (addB S x) = some (costM n w (addB S x) q, (costsL n w [] k (addB S x)).count (costM n w (addB S x) q)) := summ_some.mpr ⟨⟨hq2, fun y hy => by
          have := hm.2 (backW w (standN n S) x + y) (by
            unfold costsL
            refine List.mem_flatMap.mpr ⟨x, hx, ?_⟩
            rw [if_pos (show mayB [] S x = true from rfl)]
            exact List.mem_map.mpr ⟨y, hy, rfl⟩)
          omega⟩, rfl⟩
        unfold isBest
        rw [hb2, hb]
        simp; omega
    unfold rowsL
    rw [List.find?_flatMap, findSome_congr step, findSome_if]
    show Option.map _ _ = some (match (restN n S).find? (isBest n w k S) with | some x => x :: firstM n w k (addB S x) | none => [])
    cases e : (restN n S).find? (isBest n w k S) with
    | none =>
      obtain ⟨x, hx, h1⟩ := hex
      exact absurd h1 (List.find?_eq_none.mp e x hx)
    | some x => rfl
end Fw

set_option Elab.async false
set_option linter.all false
set_option maxRecDepth 100000
set_option maxHeartbeats 2000000
namespace Fw
open PySem PySem.Spec PyProof.Rows L2 Pv
open PySem.W (Datum DatumOrd Tup T3 T4)
/-! the law's helpers: numbers drawn from the script -/
def cell (s : List Int) (k : Nat) : Int := if h : k < s.length then s[k] else if s = [] then 0 else s.getD (k % s.length) 0 * 31 + k
theorem fs_L_cell_at_eq (s : List Int) (k : Nat) : fs_L_cell_at [.klst (s.map .int), .int k] = .fz (.int (cell s k)) := by
  have h1 : opEq (.klst (s.map .int)) (.lst []) = some (.bl (decide (s = []))) := opEq_is (is_klst (iss_ints s)) (is_lst (iss_nil (α := Int))) (by decide)
  by_cases h : k < s.length
  · have e : atI (s.map D.int) (k : Int) = some (.int s[k]) := by
      rw [atI_nat (j := k) (by rw [List.getElem?_map, List.getElem?_eq_getElem h]; rfl)]
    simp [fs_L_cell_at, fsOf, sem_L_cell_at, initE, h, e, cell]
  · have h2 : ¬ ((k : Int) < (s.length : Int)) := by omega
    by_cases hs : s = []
    · subst hs
      have h3 : ¬ ((k : Int) < 0) := by omega
      have h1 : opEq (.klst []) (.lst []) = some (.bl true) := h1
      simp [fs_L_cell_at, fsOf, sem_L_cell_at, initE, h3, h1, cell]
    · have hl : 0 < s.length := List.length_pos_iff.mpr hs
      have hm : k % s.length < s.length := Nat.mod_lt _ hl
      have e : atI (s.map D.int) ((k : Int) % (s.length : Int)) = some (.int (s[k % s.length]?.getD 0)) := by
        rw [show (k : Int) % (s.length : Int) = ((k % s.length : Nat) : Int) from (Int.natCast_emod _ _).symm]
        rw [atI_nat (j := k % s.length) (by rw [List.getElem?_map, List.getElem?_eq_getElem hm]; rfl)]
        rw [List.getElem?_eq_getElem hm]; rfl
      have hc : L2.CMul (s[k % s.length]?.getD 0) 31 := .inr (by decide)
      simp [fs_L_cell_at, fsOf, sem_L_cell_at, initE, h, h2, h1, hs, e, hl, hc, cell]
def drawn (s : List Int) (k : Nat) : Int := (cell s k + 7919 * k + 1) * 48271 % 2147483647
def mixed (s : List Int) (k m : Nat) : Nat := ((drawn s k * drawn s k + 7 * drawn s k + k) % 2147483629 % m).toNat
theorem mixed_lt {s : List Int} {k m : Nat} (h : 0 < m) : mixed s k m < m := by
  unfold mixed
  have h1 := Int.emod_lt_of_pos ((drawn s k * drawn s k + 7 * drawn s k + k) % 2147483629) (show (0 : Int) < m by omega)
  have h2 := Int.emod_nonneg ((drawn s k * drawn s k + 7 * drawn s k + k) % 2147483629) (show (m : Int) ≠ 0 by omega)
  omega
theorem fs_L_mixed_eq (s : List Int) (k m : Nat) (hm : 0 < m) : fs_L_mixed [.klst (s.map .int), .int k, .int m] = .fz (.int (mixed s k m : Nat)) := by
  have hd : 0 ≤ drawn s k ∧ drawn s k < 2147483647 := ⟨Int.emod_nonneg _ (by decide), Int.emod_lt_of_pos _ (by decide)⟩
  have c1 : L2.CMul 7919 k := .inl (by decide)
  have c2 : L2.CMul (cell s k + 7919 * k + 1) 48271 := .inr (by decide)
  have c3 : L2.CMul (drawn s k) (drawn s k) := .inl ⟨by omega, by omega⟩
  have c4 : L2.CMul 7 (drawn s k) := .inl (by decide)
  have e1 : (cell s k + 7919 * k + 1) * 48271 % 2147483647 = drawn s k := rfl
  have e2 : (drawn s k * drawn s k + 7 * drawn s k + k) % 2147483629 % m = (mixed s k m : Nat) := by
    unfold mixed
    rw [Int.toNat_of_nonneg (Int.emod_nonneg _ (by omega))]
  have hm' : (0 : Int) < m := by omega
  simp [fs_L_mixed, fsOf, sem_L_mixed, initE, fs_L_cell_at_eq, c1, c2, e1, c3, c4, hm, e2]
/-! the law's web -/
def wcell (s : List Int) (at_ top i j : Nat) : Nat := mixed s (at_ + 3 + 5 * i + j) (10 * top)
def wrow (s : List Int) (at_ thick top n i : Nat) (js : List Nat) : List Ar :=
  js.filterMap fun j => if i ≠ j ∧ wcell s at_ top i j % 10 < thick then some ⟨(i : Int), (j : Int), 1 + (wcell s at_ top i j : Int) / 10⟩ else none
def wars (s : List Int) (at_ thick top n : Nat) (is : List Nat) : List Ar := is.flatMap fun i => wrow s at_ thick top n i (List.range n)
theorem wrow_len (s : List Int) (at_ thick top n i : Nat) (js : List Nat) : (wrow s at_ thick top n i js).length ≤ js.length := List.length_filterMap_le _ _
theorem wars_len (s : List Int) (at_ thick top n : Nat) : ∀ is : List Nat, (wars s at_ thick top n is).length ≤ is.length * n
  | [] => by simp [wars]
  | i :: is => by
    have h1 := wrow_len s at_ thick top n i (List.range n)
    have h2 := wars_len s at_ thick top n is
    rw [List.length_range] at h1
    show (wrow s at_ thick top n i (List.range n) ++ wars s at_ thick top n is).length ≤ (is.length + 1) * n
    rw [List.length_append, Nat.succ_mul]; omega
theorem bd_L_web_1_eq (s : List Int) (at_ most n thick top i j : Nat) (l : List Ar) (x9 : Slot) (ht : 0 < top) (hl : Small l.length) : ∃ x9', bd_L_web_1 [.fz (.klst (s.map .int)), .fz (.int at_), .fz (.int most), .fz (.int n), .fz (.int thick), .fz (.int top), .ow (.li (l.map arD)), .fz (.int i), .fz (.int j), x9] =
    .nx [.fz (.klst (s.map .int)), .fz (.int at_), .fz (.int most), .fz (.int n), .fz (.int thick), .fz (.int top), .ow (.li ((l ++ wrow s at_ thick top n i [j]).map arD)), .fz (.int i), .fz (.int j), x9'] := by
  have c1 : L2.CMul 5 (i : Int) := .inl (by decide)
  have c2 : L2.CMul 10 (top : Int) := .inl (by decide)
  have e1 : fs_L_mixed [.klst (s.map .int), .int ((at_ : Int) + 3 + 5 * i + j), .int (10 * top)] = .fz (.int (wcell s at_ top i j : Nat)) := by
    have := fs_L_mixed_eq s (at_ + 3 + 5 * i + j) (10 * top) (by omega)
    rw [← show ((at_ + 3 + 5 * i + j : Nat) : Int) = (at_ : Int) + 3 + 5 * i + j by omega, ← show ((10 * top : Nat) : Int) = 10 * (top : Int) by omega]
    exact this
  have c3 : L2.CDivW (wcell s at_ top i j : Nat) 10 := ⟨by decide, by decide⟩
  refine ⟨.fz (.int (wcell s at_ top i j : Nat)), ?_⟩
  by_cases h : i = j
  · subst h
    simp [bd_L_web_1, c1, c2, e1, wrow]
  · have hij : ¬ ((i : Int) = (j : Int)) := by omega
    by_cases h2 : wcell s at_ top i j % 10 < thick
    · have h3 : ((wcell s at_ top i j : Nat) : Int) % 10 < (thick : Int) := by omega
      simp [bd_L_web_1, c1, c2, e1, wrow, h, hij, h2, h3, c3, hl, arD]
    · have h3 : ¬ (((wcell s at_ top i j : Nat) : Int) % 10 < (thick : Int)) := by omega
      simp [bd_L_web_1, c1, c2, e1, wrow, h, hij, h2, h3]


def wenv (s : List Int) (at_ most n thick top : Nat) (l : List Ar) (xs : List Slot) : Envi := [.fz (.klst (s.map .int)), .fz (.int at_), .fz (.int most), .fz (.int n), .fz (.int thick), .fz (.int top), .ow (.li (l.map arD))] ++ xs
theorem web_inner (s : List Int) (at_ most n thick top i : Nat) (ht : 0 < top) (l : List Ar) (x8 x9 : Slot) (hl : l.length + n ≤ 1000) :
    ∃ y8 y9, runFor (bN 8) bd_L_web_1 (nats n) (wenv s at_ most n thick top l [.fz (.int i), x8, x9]) = .nx (wenv s at_ most n thick top (l ++ wrow s at_ thick top n i (List.range n)) [.fz (.int i), y8, y9]) := by
  obtain ⟨ρ', h1, l', z8, z9, h2, h3, _⟩ := runFor_rel (b := bN 8) (g := bd_L_web_1) (enc := fun j : Nat => D.int (j : Int))
      (fun r ρ => ∃ l' z8 z9, ρ = wenv s at_ most n thick top l' [.fz (.int i), z8, z9] ∧ l' ++ wrow s at_ thick top n i r = l ++ wrow s at_ thick top n i (List.range n) ∧ l'.length + r.length ≤ 1000) (by
        rintro j r ρ ⟨l', z8, z9, rfl, h2, h3⟩
        rw [List.length_cons] at h3
        obtain ⟨y9, h4⟩ := bd_L_web_1_eq s at_ most n thick top i j l' z9 ht (small_of (by omega))
        refine ⟨_, _, rfl, .inl h4, l' ++ wrow s at_ thick top n i [j], .fz (.int j), y9, rfl, ?_, ?_⟩
        · rw [← h2, List.append_assoc]
          congr 1
          unfold wrow
          rw [← List.filterMap_append, List.singleton_append]
        · have := wrow_len s at_ thick top n i [j]
          rw [List.length_append]
          simp at this
          omega) (List.range n) _ ⟨l, x8, x9, rfl, rfl, by rw [List.length_range]; exact hl⟩
  refine ⟨z8, z9, ?_⟩
  unfold nats
  rw [h1, h2]
  have : wrow s at_ thick top n i [] = [] := rfl
  rw [this, List.append_nil] at h3
  rw [h3]
theorem bd_L_web_2_eq (s : List Int) (at_ most n thick top i : Nat) (ht : 0 < top) (l : List Ar) (x8 x9 : Slot) (hl : l.length + n ≤ 1000) :
    ∃ y8 y9, bd_L_web_2 (wenv s at_ most n thick top l [.fz (.int i), x8, x9]) = .nx (wenv s at_ most n thick top (l ++ wrow s at_ thick top n i (List.range n)) [.fz (.int i), y8, y9]) := by
  obtain ⟨y8, y9, h⟩ := web_inner s at_ most n thick top i ht l x8 x9 hl
  refine ⟨y8, y9, ?_⟩
  have c1 : SmallI n := smallI_nat (small_of (by omega))
  unfold wenv at h ⊢
  simp only [List.cons_append, List.nil_append] at h ⊢
  simp [bd_L_web_2, c1, h]
theorem web_outer (s : List Int) (at_ most n thick top : Nat) (ht : 0 < top) (hn : n * n + n ≤ 1000) (x7 x8 x9 : Slot) :
    ∃ xs, runFor (bN 7) bd_L_web_2 (nats n) (wenv s at_ most n thick top [] [x7, x8, x9]) = .nx (wenv s at_ most n thick top (wars s at_ thick top n (List.range n)) xs) := by
  have hlen := wars_len s at_ thick top n (List.range n)
  rw [List.length_range] at hlen
  obtain ⟨ρ', h1, l', z7, z8, z9, h2, h3⟩ := runFor_rel (b := bN 7) (g := bd_L_web_2) (enc := fun j : Nat => D.int (j : Int))
      (fun r ρ => ∃ l' z7 z8 z9, ρ = wenv s at_ most n thick top l' [z7, z8, z9] ∧ l' ++ wars s at_ thick top n r = wars s at_ thick top n (List.range n)) (by
        rintro i r ρ ⟨l', z7, z8, z9, rfl, h2⟩
        have hl' : l'.length + n ≤ 1000 := by
          have := congrArg List.length h2
          rw [List.length_append] at this
          omega
        obtain ⟨y8, y9, h4⟩ := bd_L_web_2_eq s at_ most n thick top i ht l' z8 z9 hl'
        refine ⟨_, _, rfl, .inl h4, l' ++ wrow s at_ thick top n i (List.range n), .fz (.int i), y8, y9, rfl, ?_⟩
        rw [← h2, List.append_assoc]
        rfl) (List.range n) _ ⟨[], _, _, _, rfl, rfl⟩
  refine ⟨[z7, z8, z9], ?_⟩
  have h3 : l' = wars s at_ thick top n (List.range n) := by rw [← h3]; exact (List.append_nil _).symm
  unfold nats
  rw [h1, h2, h3]
theorem wars_ok (s : List Int) (at_ thick top n : Nat) (ht : 0 < top) (h99 : top ≤ 99) (h1 : 1 ≤ n) (h7 : n ≤ 7) : WebOk n (wars s at_ thick top n (List.range n)) := by
  have hlen := wars_len s at_ thick top n (List.range n)
  rw [List.length_range] at hlen
  have hnn : n * n ≤ 7 * 7 := Nat.mul_le_mul h7 h7
  refine ⟨h1, h7, ?_, ?_, by omega⟩
  · intro x hx
    obtain ⟨i, hi, hx⟩ := List.mem_flatMap.mp hx
    obtain ⟨j, hj, hx⟩ := List.mem_filterMap.mp hx
    rw [List.mem_range] at hi hj
    split at hx
    · rename_i hc
      cases hx
      have : wcell s at_ top i j < 10 * top := mixed_lt (by omega)
      refine ⟨by show (0 : Int) ≤ i; omega, by show (i : Int) < n; omega, by show (0 : Int) ≤ j; omega, by show (j : Int) < n; omega, by show (i : Int) ≠ j; omega, ?_, ?_⟩
      · show (1 : Int) ≤ 1 + (wcell s at_ top i j : Int) / 10
        omega
      · show 1 + (wcell s at_ top i j : Int) / 10 ≤ 99
        omega
    · cases hx
  · have key : ∀ is : List Nat, is.Pairwise (· < ·) → (wars s at_ thick top n is).Pairwise arLt ∧ ∀ x ∈ wars s at_ thick top n is, ∃ i ∈ is, x.a = (i : Int) := by
      intro is
      induction is with
      | nil => intro _; exact ⟨.nil, fun x hx => nomatch hx⟩
      | cons i is ih =>
        intro hp
        obtain ⟨p1, p2⟩ := List.pairwise_cons.mp hp
        obtain ⟨i1, i2⟩ := ih p2
        have hrow : ∀ js : List Nat, js.Pairwise (· < ·) → (wrow s at_ thick top n i js).Pairwise arLt ∧ ∀ x ∈ wrow s at_ thick top n i js, x.a = (i : Int) ∧ ∃ j ∈ js, x.b = (j : Int) := by
          intro js hjs
          refine ⟨?_, fun x hx => ?_⟩
          · unfold wrow
            rw [List.pairwise_filterMap]
            refine hjs.imp ?_
            intro a b hab x hx y hy
            split at hx
            · split at hy
              · cases hx; cases hy
                exact .inr ⟨rfl, by show (a : Int) < b; omega⟩
              · cases hy
            · cases hx
          · obtain ⟨j, hj, hx⟩ := List.mem_filterMap.mp hx
            split at hx
            · cases hx; exact ⟨rfl, j, hj, rfl⟩
            · cases hx
        obtain ⟨r1, r2⟩ := hrow (List.range n) List.pairwise_lt_range
        have hW : wars s at_ thick top n (i :: is) = wrow s at_ thick top n i (List.range n) ++ wars s at_ thick top n is := rfl
        rw [hW]
        refine ⟨List.pairwise_append.mpr ⟨r1, i1, fun x hx y hy => ?_⟩, fun x hx => ?_⟩
        · obtain ⟨k, hk, e⟩ := i2 y hy
          have := (r2 x hx).1
          have := p1 k hk
          exact .inl (by omega)
        · rcases List.mem_append.mp hx with hx | hx
          · exact ⟨i, List.mem_cons_self, (r2 x hx).1⟩
          · obtain ⟨k, hk, e⟩ := i2 x hx
            exact ⟨k, List.mem_cons_of_mem _ hk, e⟩
    exact (key _ List.pairwise_lt_range).1
theorem top_eq : ∀ tp : Nat, tp < 4 → ∃ top : Nat, atI [D.int 1, D.int 3, D.int 9, D.int 99] (tp : Int) = some (D.int top) ∧ 0 < top ∧ top ≤ 99
  | 0, _ => ⟨1, rfl, by decide, by decide⟩
  | 1, _ => ⟨3, rfl, by decide, by decide⟩
  | 2, _ => ⟨9, rfl, by decide, by decide⟩
  | 3, _ => ⟨99, rfl, by decide, by decide⟩
theorem fs_L_web_eq (s : List Int) (at_ most : Nat) (hm : 0 < most) (h7 : most ≤ 7) : ∃ n as, fs_L_web [.klst (s.map .int), .int at_, .int most] = .fz (webD n as) ∧ WebOk n as ∧ n ≤ most := by
  have e0 := fs_L_mixed_eq s at_ most hm
  have e1 : fs_L_mixed [.klst (s.map .int), .int ((at_ : Int) + 1), .int 6] = _ := fs_L_mixed_eq s (at_ + 1) 6 (by decide)
  have e2 : fs_L_mixed [.klst (s.map .int), .int ((at_ : Int) + 2), .int 4] = _ := fs_L_mixed_eq s (at_ + 2) 4 (by decide)
  have l0 := mixed_lt (s := s) (k := at_) hm
  obtain ⟨top, htop, ht, h99⟩ := top_eq _ (mixed_lt (s := s) (k := at_ + 2) (m := 4) (by decide))
  generalize mixed s at_ most = n0 at e0 l0
  generalize mixed s (at_ + 1) 6 = th at e1
  generalize mixed s (at_ + 2) 4 = tp at e2 htop
  have hn : 1 + (n0 : Int) = ((1 + n0 : Nat) : Int) := by omega
  have hth : 3 + (th : Int) = ((3 + th : Nat) : Int) := by omega
  generalize hN : 1 + n0 = n at hn
  generalize 3 + th = thick at hth
  have hnn : n * n ≤ 7 * 7 := Nat.mul_le_mul (by omega) (by omega)
  obtain ⟨xs, h1⟩ := web_outer s at_ most n thick top ht (by omega) .un .un .un
  refine ⟨n, wars s at_ thick top n (List.range n), ?_, wars_ok s at_ thick top n ht h99 (by omega) (by omega), by omega⟩
  have c1 : SmallI n := smallI_nat (small_of (by omega))
  unfold wenv at h1
  simp only [List.cons_append, List.nil_append, List.map_nil] at h1
  simp [fs_L_web, fsOf, sem_L_web, initE, e0, e1, e2, htop, hn, hth, c1, h1, webD]
/-! webs -/
theorem fs_is_whole_int (i : Int) : fs_is_whole [.int i] = .fz (.bl true) := rfl
theorem fs_between_int (i lo hi : Int) : fs_between [.int i, .int lo, .int hi] = .fz (.bl (decide (lo ≤ i ∧ i ≤ hi))) := by
  by_cases h : lo ≤ i <;> simp [fs_between, fsOf, sem_between, initE, fs_is_whole_int, h]
theorem isi_tup (l : List D) : fIsi [.tup l, .ty "tuple"] = .fz (.bl true) := rfl
theorem isi_ktup (l : List D) : fIsi [.ktup l, .ty "tuple"] = .fz (.bl true) := rfl
theorem fs_is_arrow_ok {n : Nat} {x : Ar} (h : 0 ≤ x.a ∧ x.a < n ∧ 0 ≤ x.b ∧ x.b < n ∧ x.a ≠ x.b ∧ 1 ≤ x.c ∧ x.c ≤ 99) : fs_is_arrow [arD x, .int n] = .fz (.bl true) := by
  obtain ⟨h1, h2, h3, h4, h5, h6, h7⟩ := h
  have a1 : x.a ≤ (n : Int) - 1 := by omega
  have a2 : x.b ≤ (n : Int) - 1 := by omega
  simp [fs_is_arrow, fsOf, sem_is_arrow, initE, fs_between_int, isi_tup, arD, h1, h3, h5, h6, h7, a1, a2]
theorem fAll_true {ds : List D} (h : ∀ d ∈ ds, d = .bl true) : fAll [.lst ds] = .fz (.bl true) := by
  have e : ds = (List.replicate ds.length true).map D.bl := by
    rw [List.map_replicate]
    exact List.eq_replicate_iff.mpr ⟨rfl, h⟩
  have e2 : bolsOf ds = some (List.replicate ds.length true) := by
    rw [e, bolsOf_map]; simp
  simp [fAll, lstBols, e2]
theorem opSl_ar (x : Ar) : opSl false (arD x) none (some 2) = some (.tup [.int x.a, .int x.b]) := rfl
theorem lt_ar (x y : Ar) (h : arLt x y) : opLtA (.tup [.int x.a, .int x.b]) (.tup [.int y.a, .int y.b]) = some (.bl true) := by
  show some (D.bl (HT.lexLt [x.a, x.b] [y.a, y.b])) = _
  rcases h with h | ⟨h, h'⟩
  · have : x.a ≠ y.a := by omega
    simp [HT.lexLt, h, this]
  · have : x.b ≠ y.b := by omega
    simp [HT.lexLt, h, h', this]
theorem fs_is_web_ok {n : Nat} {as : List Ar} (h : WebOk n as) : fs_is_web [webD n as] = .fz (.bl true) := by
  obtain ⟨h1, h7, har, hso, hlen⟩ := h
  have c1 : ∀ xs : List Slot, runComp (bN 2) tTrue ce_is_web_1 [2] (as.map arD) [.fz (webD n as), .fz (.ktup (as.map arD)), .un, .un] = some (as.map fun _ => D.bl true, [.fz (webD n as), .fz (.ktup (as.map arD)), .un, .un]) := by
    intro _
    rw [runComp_map (enc := arD) (F := fun _ => some (D.bl true))]
    · rw [List.filterMap_eq_map']
    · intro x hx
      have := fs_is_arrow_ok (har x hx)
      refine ⟨_, rfl, .inr ⟨rfl, .bl true, [.fz (webD n as), .fz (.ktup (as.map arD)), .fz (arD x), .un], ?_, rfl, rfl⟩⟩
      simp [ce_is_web_1, webD, this]
  have c2 : runComp (bN 3) tTrue ce_is_web_2 [3] (nats (as.length - 1)) [.fz (webD n as), .fz (.ktup (as.map arD)), .un, .un] = some ((List.range (as.length - 1)).map fun _ => D.bl true, [.fz (webD n as), .fz (.ktup (as.map arD)), .un, .un]) := by
    unfold nats
    rw [runComp_map (enc := fun i : Nat => D.int (i : Int)) (F := fun _ => some (D.bl true))]
    · rw [List.filterMap_eq_map']
    · intro k hk
      rw [List.mem_range] at hk
      have k0 : k < as.length := by omega
      have k1 : k + 1 < as.length := by omega
      have e0 : atI (as.map arD) (k : Int) = some (arD as[k]) := by
        rw [atI_nat (j := k) (by rw [List.getElem?_map, List.getElem?_eq_getElem k0]; rfl)]
      have e1 : atI (as.map arD) ((k : Int) + 1) = some (arD as[k + 1]) := by
        have := atI_nat (xs := as.map arD) (j := k + 1) (v := arD as[k + 1]) (by rw [List.getElem?_map, List.getElem?_eq_getElem k1]; rfl)
        rw [← this]; rfl
      have hlt : arLt as[k] as[k + 1] := List.pairwise_iff_getElem.mp hso k (k + 1) k0 k1 (by omega)
      have e2 := lt_ar _ _ hlt
      refine ⟨_, rfl, .inr ⟨rfl, .bl true, [.fz (webD n as), .fz (.ktup (as.map arD)), .un, .fz (.int k)], ?_, rfl, rfl⟩⟩
      simp [ce_is_web_2, e0, e1, e2, opSl_ar]
  have c3 := c1 []
  have a1 : fAll [.lst (as.map fun _ => D.bl true)] = .fz (.bl true) := fAll_true (by simp)
  have a2 : fAll [.lst ((List.range (as.length - 1)).map fun _ => D.bl true)] = .fz (.bl true) := fAll_true (by simp)
  have b1 : (1 : Int) ≤ n := by omega
  have b2 : (n : Int) ≤ 7 := by omega
  have b3 : SmallI ((as.length : Int) - 1) := smallI_of (by omega) (by omega)
  have b4 : ((as.length : Int) - 1).toNat = as.length - 1 := by omega
  unfold webD at *
  simp [fs_is_web, fsOf, sem_is_web, initE, isi_tup, isi_ktup, fs_between_int, b1, b2, c3, a1, b3, b4, c2, a2]
theorem fs_checked_ok {n : Nat} {as : List Ar} (h : WebOk n as) : fs_checked [webD n as] = .fz (webD n as) := by
  simp [fs_checked, fsOf, sem_checked, initE, fs_is_web_ok h]
/-! the law's row -/
theorem bd_L_row_1_eq (s : List Int) (at_ n k : Nat) (left made : List Int) (x5 : Slot) (hl : 0 < left.length) (h2 : left.length ≤ 1000) (h3 : made.length ≤ 1000) :
    ∃ j, j < left.length ∧ bd_L_row_1 [.fz (.klst (s.map .int)), .fz (.int at_), .fz (.int n), .ow (.li (left.map .int)), .ow (.li (made.map .int)), .fz (.int k)] =
      .nx [.fz (.klst (s.map .int)), .fz (.int at_), .fz (.int n), .ow (.li ((left.eraseIdx j).map .int)), .ow (.li ((made ++ [left.getD j 0]).map .int)), .fz (.int k)] := by
  have hm := fs_L_mixed_eq s (at_ + k) left.length hl
  have hj : mixed s (at_ + k) left.length < left.length := mixed_lt hl
  generalize mixed s (at_ + k) left.length = j at hm hj
  refine ⟨j, hj, ?_⟩
  have hm : fs_L_mixed [.klst (s.map .int), .int ((at_ : Int) + k), .int left.length] = .fz (.int j) := hm
  have e1 : (left.map D.int)[j]? = some (.int (left.getD j 0)) := by
    rw [List.getElem?_map, List.getElem?_eq_getElem hj, List.getD_eq_getElem?_getD, List.getElem?_eq_getElem hj]; rfl
  have e2 : (left.map D.int).eraseIdx j = (left.eraseIdx j).map .int := eraseIdx_mapL _ _ _
  have c1 : Small made.length := small_of h3
  have c2 : left.length ≤ big := by show left.length ≤ 16777216; omega
  have e3 : left[j]?.getD 0 = left.getD j 0 := (List.getD_eq_getElem?_getD ..).symm
  simp [bd_L_row_1, hm, hj, e1, e2, c1, c2, e3]
theorem erase_perm : ∀ (l : List Int) (j : Nat), j < l.length → (l.getD j 0 :: l.eraseIdx j).Perm l
  | [], j, h => absurd h (Nat.not_lt_zero _)
  | a :: l, 0, h => by simp
  | a :: l, j + 1, h => by
    have := erase_perm l j (by simpa using h)
    rw [List.eraseIdx_cons_succ, List.getD_cons_succ]
    exact (List.Perm.swap _ _ _).trans (this.cons a)
theorem fs_L_row_eq (s : List Int) (at_ n : Nat) (hn : n ≤ 1000) : ∃ r, fs_L_row [.klst (s.map .int), .int at_, .int n] = .fz (rowD r) ∧ RowOk n r := by
  obtain ⟨ρ', h1, left, made, x5, rfl, h2, h3⟩ := runFor_rel (b := bN 5) (g := bd_L_row_1) (enc := fun j : Nat => D.int (j : Int))
    (fun r ρ => ∃ left made x5, ρ = [.fz (.klst (s.map .int)), .fz (.int at_), .fz (.int n), .ow (.li (left.map .int)), .ow (.li (made.map .int)), x5] ∧ (made ++ left).Perm (intsN n) ∧ left.length = r.length) (by
      rintro k r ρ ⟨left, made, x5, rfl, h2, h3⟩
      rw [List.length_cons] at h3
      have hl := h2.length_eq
      rw [List.length_append, ints_len] at hl
      obtain ⟨j, hj, h4⟩ := bd_L_row_1_eq s at_ n k left made x5 (by omega) (by omega) (by omega)
      refine ⟨_, _, rfl, .inl h4, left.eraseIdx j, made ++ [left.getD j 0], .fz (.int k), rfl, ?_, ?_⟩
      · rw [List.append_assoc]
        exact ((erase_perm left j hj).append_left made).trans h2
      · rw [List.length_eraseIdx_of_lt hj]; omega) (List.range n) [.fz (.klst (s.map .int)), .fz (.int at_), .fz (.int n), .ow (.li ((intsN n).map .int)), .ow (.li ([].map .int)), .un] ⟨intsN n, [], .un, rfl, .refl _, by rw [ints_len, List.length_range]⟩
  have h3 : left = [] := List.eq_nil_of_length_eq_zero (by simpa using h3)
  subst h3
  rw [List.append_nil] at h2
  refine ⟨made, ?_, ⟨h2⟩⟩
  have c1 : SmallI n := smallI_nat (small_of hn)
  rw [← nats_intsN] at h1
  have h1 : runFor (bN 5) bd_L_row_1 (nats n) [.fz (.klst (s.map .int)), .fz (.int at_), .fz (.int n), .ow (.li (nats n)), .ow (.li []), .un] = .nx [.fz (.klst (s.map .int)), .fz (.int at_), .fz (.int n), .ow (.li []), .ow (.li (made.map .int)), x5] := h1
  simp [fs_L_row, fsOf, sem_L_row, initE, c1, h1, rowD]
/-! what a row is asked -/
theorem fs_need_row_ok {n : Nat} {as : List Ar} {r : List Int} (h : WebOk n as) (hr : RowOk n r) : fs_need_row [webD n as, rowD r] = .fz .non := by
  have c1 : runComp (bN 2) tTrue ce_need_row_1 [2] (r.map .int) [.fz (webD n as), .fz (rowD r), .un] = some (r.map fun _ => D.bl true, [.fz (webD n as), .fz (rowD r), .un]) := by
    rw [runComp_map (enc := fun x : Int => D.int x) (F := fun _ => some (D.bl true))]
    · rw [List.filterMap_eq_map']
    · intro x hx
      refine ⟨_, rfl, .inr ⟨rfl, .bl true, [.fz (webD n as), .fz (rowD r), .fz (.int x)], ?_, rfl, rfl⟩⟩
      simp [ce_need_row_1, fs_is_whole_int]
  have a1 : fAll [.lst (r.map fun _ => D.bl true)] = .fz (.bl true) := fAll_true (by simp)
  have a2 := fs_checked_ok h
  have c2 : SmallI n := smallI_nat (small_of (by have := h.n7; omega))
  have e1 : opNe (.lst ((intsN n).map .int)) (.lst ((intsN n).map .int)) = some (.bl false) := by
    rw [opNe_is (is_lst (iss_ints _)) (is_lst (iss_ints _)) (by decide)]
    simp
  have e2 := fSorted_ints r
  rw [sort_perm hr.p] at e2
  unfold webD rowD at *
  simp [fs_need_row, fsOf, sem_need_row, initE, a2, isi_ktup, c1, a1, e2, c2, nats_intsN, e1]
theorem fs_turned_by_ok {n : Nat} {as : List Ar} {r : List Int} (h : WebOk n as) (hr : RowOk n r) : fs_turned_by [webD n as, rowD r] = .ow (.li ((turnedL as r).map arD)) := by
  have c1 : runComp (bT 2 (bsCons (bN 3) (bsCons (bN 4) bsNil))) tTrue ce_turned_by_1 [3, 4] (enumD 0 (r.map .int)) [.fz (webD n as), .fz (rowD r), .un, .un, .un, .un] =
      some ((r.zipIdx).map fun p => .tup [.int p.1, .int (p.2 : Nat)], [.fz (webD n as), .fz (rowD r), .un, .un, .un, .un]) := by
    rw [enumD_zip, runComp_map (enc := fun p : Int × Nat => .tup [.int (p.2 : Nat), .int p.1]) (F := fun p => some (.tup [.int p.1, .int (p.2 : Nat)]))]
    · rw [List.filterMap_eq_map']
    · intro p hp
      refine ⟨_, rfl, .inr ⟨rfl, _, [.fz (webD n as), .fz (rowD r), .un, .fz (.int (p.2 : Nat)), .fz (.int p.1), .un], ?_, rfl, rfl⟩⟩
      simp [ce_turned_by_1]
  have e1 := fDictK_place hr.nodup
  have c2 : runComp (bN 5) ct_turned_by_2 (eVar 5) [5] (as.map arD) [.fz (webD n as), .fz (rowD r), .ow (.di (placeK r)), .un, .un, .un] =
      some ((turnedL as r).map arD, [.fz (webD n as), .fz (rowD r), .ow (.di (placeK r)), .un, .un, .un]) := by
    rw [runComp_map (enc := arD) (F := fun x => if r.idxOf x.b < r.idxOf x.a then some (arD x) else none)]
    · rw [filterMap_ite]; rfl
    · intro x hx
      obtain ⟨h1, h2, h3, h4, _⟩ := h.ar x hx
      have ga := opDGet_place (r := r) (x := x.a) (hr.mem.mpr ⟨h1, h2⟩)
      have gb := opDGet_place (r := r) (x := x.b) (hr.mem.mpr ⟨h3, h4⟩)
      refine ⟨_, rfl, ?_⟩
      by_cases hx : r.idxOf x.b < r.idxOf x.a
      · refine .inr ⟨?_, arD x, [.fz (webD n as), .fz (rowD r), .ow (.di (placeK r)), .un, .un, .fz (arD x)], ?_, by rw [if_pos hx], rfl⟩
        · simp [ct_turned_by_2, arD]
          unfold arD at *
          simp [ga, gb, hx]
        · simp
      · refine .inl ⟨?_, by rw [if_neg hx], rfl⟩
        simp [ct_turned_by_2, arD]
        unfold arD at *
        simp [ga, gb, hx]
  unfold webD rowD at *
  simp [fs_turned_by, fsOf, sem_turned_by, initE, c1, e1, c2]
theorem fSum_ints (l : List Int) : fSum [.lst (l.map .int)] = .fz (.int l.sum) := by
  simp [fSum, lstInts, intsOf_map]
theorem fs_weight_of_ok {n : Nat} {as : List Ar} {r : List Int} (h : WebOk n as) (hr : RowOk n r) : fs_weight_of [webD n as, rowD r] = .fz (.int (weightI as r)) := by
  have c1 : runComp (bN 2) tTrue ce_weight_of_1 [2] ((turnedL as r).map arD) [.fz (webD n as), .fz (rowD r), .un] = some (((turnedL as r).map (·.c)).map .int, [.fz (webD n as), .fz (rowD r), .un]) := by
    rw [runComp_map (enc := arD) (F := fun x => some (D.int x.c))]
    · rw [List.filterMap_eq_map', List.map_map]; rfl
    · intro x hx
      refine ⟨_, rfl, .inr ⟨rfl, .int x.c, [.fz (webD n as), .fz (rowD r), .fz (arD x)], ?_, rfl, rfl⟩⟩
      simp [ce_weight_of_1, arD]
  have a1 := fs_turned_by_ok h hr
  have a2 := fSum_ints ((turnedL as r).map (·.c))
  rw [List.map_map] at a2 c1
  unfold weightI
  simp [fs_weight_of, fsOf, sem_weight_of, initE, a1, c1, a2]
/-! the law's own sum -/
theorem fs_L_weight_ok {n : Nat} {as : List Ar} {r : List Int} (h : WebOk n as) (hr : RowOk n r) : fs_L_weight [webD n as, rowD r] = .fz (.int (weightI as r)) := by
  obtain ⟨ρ', h1, m, x3, x4, x5, rfl, h2⟩ := runFor_rel (b := bT 3 (bsCons (bN 3) (bsCons (bN 4) (bsCons (bN 5) bsNil)))) (g := bd_L_weight_1) (enc := arD)
    (fun l ρ => ∃ m x3 x4 x5, ρ = [.fz (webD n as), .fz (rowD r), .fz (.int m), x3, x4, x5] ∧ (∀ x ∈ l, x ∈ as) ∧ m + weightI l r = weightI as r) (by
      rintro x l ρ ⟨m, x3, x4, x5, rfl, hm, h2⟩
      obtain ⟨g1, g2, g3, g4, _⟩ := h.ar x (hm x List.mem_cons_self)
      have ia := opIndexT_row (r := r) (x := x.a) (hr.mem.mpr ⟨g1, g2⟩)
      have ib := opIndexT_row (r := r) (x := x.b) (hr.mem.mpr ⟨g3, g4⟩)
      by_cases hx : r.idxOf x.b < r.idxOf x.a
      · refine ⟨_, [.fz (webD n as), .fz (rowD r), .fz (.int (m + x.c)), .fz (.int x.a), .fz (.int x.b), .fz (.int x.c)], rfl, .inl ?_, m + x.c, _, _, _, rfl, fun y hy => hm y (List.mem_cons_of_mem _ hy), ?_⟩
        · unfold rowD at *
          simp [bd_L_weight_1, ia, ib, hx]
        · rw [← h2]
          unfold weightI turnedL
          rw [List.filter_cons_of_pos (by simpa using hx), List.map_cons, List.sum_cons]; omega
      · refine ⟨_, [.fz (webD n as), .fz (rowD r), .fz (.int m), .fz (.int x.a), .fz (.int x.b), .fz (.int x.c)], rfl, .inl ?_, m, _, _, _, rfl, fun y hy => hm y (List.mem_cons_of_mem _ hy), ?_⟩
        · unfold rowD at *
          simp [bd_L_weight_1, ia, ib, hx]
        · rw [← h2]
          unfold weightI turnedL
          rw [List.filter_cons_of_neg (by simpa using hx)]) as [.fz (webD n as), .fz (rowD r), .fz (.int 0), .un, .un, .un] ⟨0, _, _, _, rfl, fun _ h => h, by omega⟩
  have h2 : m = weightI as r := by rw [← h2.2]; unfold weightI turnedL; simp
  subst h2
  have h1 : runFor (bT 3 (bsCons (bN 3) (bsCons (bN 4) (bsCons (bN 5) bsNil)))) bd_L_weight_1 (as.map arD) [.fz (webD n as), .fz (rowD r), .fz (.int 0), .un, .un, .un] = _ := h1
  unfold webD rowD at *
  simp [fs_L_weight, fsOf, sem_L_weight, initE, h1]
/-! the weights as a dict -/
def wK (as : List Ar) : List (List Key × D) := as.map fun z => ([.inl z.a, .inl z.b], .int z.c)
theorem pairsTd_w : ∀ as : List Ar, pairsTd (as.map fun z => .tup [.tup [.int z.a, .int z.b], .int z.c]) = some (wK as)
  | [] => rfl
  | z :: as => by
    rw [List.map_cons]
    unfold pairsTd
    rw [pairsTd_w as]; rfl
theorem wK_keys (as : List Ar) : (wK as).map (·.1) = as.map fun z => ([.inl z.a, .inl z.b] : List Key) := by unfold wK; rw [List.map_map]; rfl
theorem wK_nodup {as : List Ar} (h : as.Pairwise arLt) : ((wK as).map (·.1)).Nodup := by
  rw [wK_keys]
  refine List.pairwise_map.mpr (h.imp fun {x y} hxy e => ?_)
  have h1 : (Sum.inl x.a : Key) = .inl y.a := (List.cons.inj e).1
  have h2 : (Sum.inl x.b : Key) = .inl y.b := (List.cons.inj (List.cons.inj e).2).1
  have h1 := Sum.inl.inj h1
  have h2 := Sum.inl.inj h2
  rcases hxy with z | ⟨_, z⟩ <;> omega
theorem fs_weights_of_ok {n : Nat} {as : List Ar} (h : as.Pairwise arLt) : fs_weights_of [webD n as] = .ow (.ti (wK as)) := by
  have c1 : runComp (bT 3 (bsCons (bN 1) (bsCons (bN 2) (bsCons (bN 3) bsNil)))) tTrue ce_weights_of_1 [1, 2, 3] (as.map arD) [.fz (webD n as), .un, .un, .un] = some (as.map fun z => .tup [.tup [.int z.a, .int z.b], .int z.c], [.fz (webD n as), .un, .un, .un]) := by
    rw [runComp_map (enc := arD) (F := fun z => some (.tup [.tup [.int z.a, .int z.b], .int z.c]))]
    · rw [List.filterMap_eq_map']
    · intro x hx
      refine ⟨_, rfl, .inr ⟨rfl, _, [.fz (webD n as), .fz (.int x.a), .fz (.int x.b), .fz (.int x.c)], ?_, rfl, rfl⟩⟩
      simp [ce_weights_of_1]
  have e1 : fDictT [.lst (as.map fun z => .tup [.tup [.int z.a, .int z.b], .int z.c])] = .ow (.ti (wK as)) := by
    unfold fDictT
    simp only [lstOf, pairsTd_w]
    rw [mergeA_new _ _ (by simpa using wK_nodup h)]; rfl
  unfold webD at *
  simp [fs_weights_of, fsOf, sem_weights_of, initE, c1, e1]
theorem lookA_wK (x y : Int) : ∀ as : List Ar, lookA (wK as) [.inl x, .inl y] = (as.find? fun z => decide (z.a = x ∧ z.b = y)).map fun z => D.int z.c
  | [] => rfl
  | z :: as => by
    have ih := lookA_wK x y as
    unfold lookA wK at ih ⊢
    rw [List.map_cons, List.find?_cons, List.find?_cons]
    have e : decide (([Sum.inl z.a, Sum.inl z.b] : List Key) = [.inl x, .inl y]) = decide (z.a = x ∧ z.b = y) := decide_eq_decide.mpr (by simp)
    dsimp only
    rw [e]
    cases decide (z.a = x ∧ z.b = y)
    · exact ih
    · rfl
theorem wOf_none {x y : Int} {as : List Ar} (h : ∀ z ∈ as, ¬ (z.a = x ∧ z.b = y)) : wOf as x y = 0 := by
  unfold wOf
  rw [List.filter_eq_nil_iff.mpr fun z hz => by simpa using h z hz]; rfl
theorem wOf_find (x y : Int) : ∀ {as : List Ar}, as.Pairwise arLt → wOf as x y = match as.find? fun z => decide (z.a = x ∧ z.b = y) with | some z => z.c | none => 0
  | [], _ => rfl
  | z :: as, h => by
    obtain ⟨h1, h2⟩ := List.pairwise_cons.mp h
    rw [wOf_cons, List.find?_cons]
    dsimp only
    by_cases e : z.a = x ∧ z.b = y
    · rw [if_pos e, wOf_none fun u hu e' => by rcases h1 u hu with q | ⟨_, q⟩ <;> omega, decide_eq_true e]
      dsimp only; omega
    · rw [if_neg e, wOf_find x y h2, decide_eq_false e]
      dsimp only; omega
theorem ar_uniq {as : List Ar} (h : as.Pairwise arLt) {u z : Ar} (hu : u ∈ as) (hz : z ∈ as) (e : u.a = z.a ∧ u.b = z.b) : u = z := by
  induction as with
  | nil => cases hu
  | cons x as ih =>
    obtain ⟨h1, h2⟩ := List.pairwise_cons.mp h
    rcases List.mem_cons.mp hu with eu | gu
    · rcases List.mem_cons.mp hz with ez | gz
      · rw [eu, ez]
      · subst eu
        rcases h1 z gz with q | ⟨_, q⟩ <;> omega
    · rcases List.mem_cons.mp hz with ez | gz
      · subst ez
        rcases h1 u gu with q | ⟨_, q⟩ <;> omega
      · exact ih h2 gu gz
theorem wOf_mem {as : List Ar} (h : as.Pairwise arLt) {z : Ar} (hz : z ∈ as) : wOf as z.a z.b = z.c := by
  rw [wOf_find _ _ h]
  cases e : as.find? fun u => decide (u.a = z.a ∧ u.b = z.b) with
  | none => exact absurd (List.find?_eq_none.mp e z hz) (by simp)
  | some u =>
    have hu := List.mem_of_find?_eq_some e
    have he : u.a = z.a ∧ u.b = z.b := by simpa using List.find?_some e
    rw [ar_uniq h hu hz he]
theorem lookW {as : List Ar} (h : as.Pairwise arLt) (x y : Int) (a b : D) (ρ : Envi) : dg5 a b (.int 0) ρ (some (lookA (((wK as).map (·.1)).zip ((wK as).map (·.2))) [.inl x, .inl y])) = .ok (.dat (.int (wOf as x y))) ρ := by
  rw [zip_unzip, lookA_wK, wOf_find x y h]
  cases as.find? fun z => decide (z.a = x ∧ z.b = y) <;> rfl
end Fw

set_option Elab.async false
set_option linter.all false
set_option maxRecDepth 100000
set_option maxHeartbeats 2000000
namespace Fw
open PySem PySem.Spec PyProof.Rows L2 Pv
open PySem.W (Datum DatumOrd Tup T3 T4)
/-! what pairs lead to -/
inductive Rp (T : List (Int × Int)) (x : Int) : Int → Prop
  | refl : Rp T x x
  | tail {y z : Int} : Rp T x y → (y, z) ∈ T → Rp T x z
theorem Rp.trans {T : List (Int × Int)} {x y z : Int} (h : Rp T x y) (g : Rp T y z) : Rp T x z := by
  induction g with
  | refl => exact h
  | tail _ e ih => exact .tail ih e
theorem Rp.closed {T : List (Int × Int)} {x y : Int} {ks : List Int} (h : Rp T x y) (hx : x ∈ ks) (hc : ∀ u ∈ ks, ∀ v, (u, v) ∈ T → v ∈ ks) : y ∈ ks := by
  induction h with
  | refl => exact hx
  | tail _ e ih => exact hc _ ih _ e
theorem Rp.sub {T T' : List (Int × Int)} (hs : ∀ p ∈ T, p ∈ T') {x y : Int} (h : Rp T x y) : Rp T' x y := by
  induction h with
  | refl => exact .refl
  | tail _ e ih => exact .tail ih (hs _ e)
def InM (m : Nat) (x : Int) : Prop := 0 ≤ x ∧ x < (m : Int)
structure PrsOk (m : Nat) (T : List (Int × Int)) : Prop where
  rg : ∀ p ∈ T, InM m p.1 ∧ InM m p.2
theorem Rp.range {m : Nat} {T : List (Int × Int)} (ht : PrsOk m T) {x y : Int} (h : Rp T x y) (hx : InM m x) : InM m y := by
  induction h with
  | refl => exact hx
  | tail _ e ih => exact (ht.rg _ e).2
abbrev pqE (p : Int × Int) : D := .tup [.int p.1, .int p.2]
def oD : Option Int → D
  | none => .non
  | some i => .int i
abbrev Fnd := List (Int × Option Int)
def fK (found : Fnd) : List (Key × D) := found.map fun p => (.inl p.1, oD p.2)
def fkD (found : Fnd) : D := .dk ((fK found).map (·.1)) ((fK found).map (·.2))
def keysI (found : Fnd) : List Int := found.map (·.1)
theorem lookA_fK (x : Int) : ∀ found : Fnd, lookA (fK found) (.inl x) = (found.find? fun p => decide (p.1 = x)).map fun p => oD p.2
  | [] => rfl
  | p :: found => by
    have ih := lookA_fK x found
    unfold lookA at ih ⊢
    have e : fK (p :: found) = (.inl p.1, oD p.2) :: fK found := rfl
    rw [e, List.find?_cons, List.find?_cons]
    by_cases h : p.1 = x
    · have h2 : decide (((Sum.inl p.1 : Key), oD p.2).1 = .inl x) = true := decide_eq_true (by rw [h])
      rw [h2, decide_eq_true h]; rfl
    · have h2 : decide (((Sum.inl p.1 : Key), oD p.2).1 = .inl x) = false := decide_eq_false (fun q => h (Sum.inl.inj q))
      rw [h2, decide_eq_false h]; exact ih
theorem look_none {x : Int} {found : Fnd} (h : x ∉ keysI found) : (found.find? fun p => decide (p.1 = x)) = none :=
  List.find?_eq_none.mpr fun p hp q => h (List.mem_map.mpr ⟨p, hp, of_decide_eq_true q⟩)
theorem look_some {x : Int} {q : Option Int} : ∀ {found : Fnd}, (keysI found).Nodup → (x, q) ∈ found → (found.find? fun p => decide (p.1 = x)) = some (x, q)
  | p :: found, hn, hm => by
    have hn2 := List.nodup_cons.mp hn
    rw [List.find?_cons]
    rcases List.mem_cons.mp hm with rfl | hm
    · rw [decide_eq_true rfl]
    · rw [decide_eq_false (fun e => hn2.1 (List.mem_map.mpr ⟨_, hm, e.symm⟩))]
      exact look_some hn2.2 hm
theorem dLook_fK (x : Int) (found : Fnd) : dLook (fkD found) (.int x) = some ((found.find? fun p => decide (p.1 = x)).map fun p => oD p.2) := by
  unfold fkD
  rw [y_dLook_i, zip_unzip, lookA_fK]
theorem find_mem {x : Int} {found : Fnd} : (found.find? fun p => decide (p.1 = x)).isSome = decide (x ∈ keysI found) := by
  by_cases h : x ∈ keysI found
  · obtain ⟨p, hp, e⟩ := List.mem_map.mp h
    rw [decide_eq_true h, List.find?_isSome]
    exact ⟨p, hp, decide_eq_true e⟩
  · rw [look_none h, decide_eq_false h]; rfl
theorem in_fK (x : Int) (found : Fnd) : opIn (.int x) (fkD found) = some (.bl (decide (x ∈ keysI found))) := by
  unfold opIn inD
  rw [dLook_fK]
  have := find_mem (x := x) (found := found)
  cases h : (found.find? fun p => decide (p.1 = x)) with
  | none => rw [h] at this; simp [← this]
  | some p => rw [h] at this; simp [← this]
theorem notIn_fK (x : Int) (found : Fnd) : opNotIn (.int x) (fkD found) = some (.bl (!decide (x ∈ keysI found))) := by
  unfold opNotIn inD
  rw [dLook_fK]
  have := find_mem (x := x) (found := found)
  cases h : (found.find? fun p => decide (p.1 = x)) with
  | none => rw [h] at this; simp [← this]
  | some p => rw [h] at this; simp [← this]
theorem put_fK {x h : Int} {found : Fnd} (hx : x ∉ keysI found) : putA (fK found) (.inl x) (.int h) = fK (found ++ [(x, some h)]) := by
  rw [putA_new (fun hm => hx (by
    unfold fK at hm
    rw [List.map_map] at hm
    obtain ⟨k, hk, e⟩ := List.mem_map.mp hm
    have : k.1 = x := Sum.inl.inj e
    exact List.mem_map.mpr ⟨k, hk, this⟩))]
  unfold fK
  rw [List.map_append]; rfl
theorem eq_ints (x y : Int) : opEq (.int x) (.int y) = some (.bl (decide (x = y))) := opEq_is (is_int x) (is_int y) (by decide)
/-! the program's -/
abbrev Lv (PL : List D) (f : Int) (found : Fnd) (w : List Int) (h : Int) (x6 x7 r t : Slot) : Envi := [.self, .fz (.int f), .fz (.lst PL), .ow (.di (fK found)), .ow (.li (w.map .int)), .fz (.int h), x6, x7, r, t]
theorem led_body (PL : List D) (f : Int) (found : Fnd) (w : List Int) (h : Int) (hk : found.length ≤ 100) (hw : w.length ≤ 100) (p : Int × Int) (r t : Slot) :
    bd_Keeper_led_1 (Lv PL f found w h (.fz (.int p.1)) (.fz (.int p.2)) r t) = .nx (if p.1 = h ∧ p.2 ∉ keysI found then Lv PL f (found ++ [(p.2, some h)]) (w ++ [p.2]) h (.fz (.int p.1)) (.fz (.int p.2)) r t else Lv PL f found w h (.fz (.int p.1)) (.fz (.int p.2)) r t) := by
  have h1 := notIn_fK p.2 found
  have h1 : opNotIn (.int p.2) (.dk ((fK found).map (·.1)) ((fK found).map (·.2))) = _ := h1
  have h0 := eq_ints p.1 h
  by_cases hp : p.1 = h
  · rw [decide_eq_true hp] at h0
    by_cases hm : p.2 ∈ keysI found
    · rw [if_neg (fun q => q.2 hm)]
      rw [decide_eq_true hm] at h1
      simp [bd_Keeper_led_1, h0, h1, -List.map_map]
    · rw [if_pos ⟨hp, hm⟩]
      rw [decide_eq_false hm] at h1
      have h2 := put_fK (h := h) hm
      have c1 : (fK found).length < big := by unfold fK; rw [List.length_map]; show found.length < 16777216; omega
      have c2 : Small w.length := small_of (by omega)
      simp [bd_Keeper_led_1, h0, h1, h2, c1, c2, -List.map_map]
  · rw [if_neg (fun q => hp q.1)]
    rw [decide_eq_false hp] at h0
    simp [bd_Keeper_led_1, h0, -List.map_map]
structure LedI (T : List (Int × Int)) (f : Int) (found : Fnd) (w : List Int) : Prop where
  nd : (keysI found).Nodup
  hd : ∃ rest, found = (f, none) :: rest ∧ ∀ p ∈ rest, ∃ q, p.2 = some q
  re : ∀ x ∈ keysI found, Rp T f x
  sub : ∀ x ∈ w, x ∈ keysI found
  par : ∀ (i : Nat) (x p : Int), found[i]? = some (x, some p) → (p, x) ∈ T ∧ ∃ (j : Nat) (q : Option Int), j < i ∧ found[j]? = some (p, q)
theorem LedI.len {m : Nat} {T : List (Int × Int)} {f : Int} {found : Fnd} {w : List Int} (ht : PrsOk m T) (hf : InM m f) (h : LedI T f found w) : found.length ≤ m := by
  have := nodup_sub (m := intsN m) h.nd fun x hx => mem_intsN.mpr ((h.re x hx).range ht hf)
  rw [ints_len] at this
  unfold keysI at this
  rwa [List.length_map] at this
theorem keysI_snoc (found : Fnd) (p : Int × Option Int) : keysI (found ++ [p]) = keysI found ++ [p.1] := by
  unfold keysI; rw [List.map_append]; rfl
theorem LedI.add {T : List (Int × Int)} {f x y : Int} {found : Fnd} {w : List Int} (h : LedI T f found w) (hx : x ∈ keysI found) (hy : y ∉ keysI found) (he : (x, y) ∈ T) : LedI T f (found ++ [(y, some x)]) (w ++ [y]) := by
  obtain ⟨rest, hr, hs⟩ := h.hd
  refine ⟨?_, ⟨rest ++ [(y, some x)], by rw [hr]; rfl, fun p hp => ?_⟩, fun z hz => ?_, fun z hz => ?_, fun i z p hi => ?_⟩
  · rw [keysI_snoc]
    refine List.nodup_append.mpr ⟨h.nd, List.nodup_cons.mpr ⟨List.not_mem_nil, List.nodup_nil⟩, fun a ha b hb e => ?_⟩
    rw [List.mem_singleton] at hb
    subst e; subst hb
    exact hy ha
  · rcases List.mem_append.mp hp with hp | hp
    · exact hs p hp
    · rw [List.mem_singleton] at hp; subst hp; exact ⟨x, rfl⟩
  · rw [keysI_snoc] at hz
    rcases List.mem_append.mp hz with hz | hz
    · exact h.re z hz
    · rw [List.mem_singleton] at hz; subst hz; exact .tail (h.re x hx) he
  · rw [keysI_snoc]
    rcases List.mem_append.mp hz with hz | hz
    · exact List.mem_append_left _ (h.sub z hz)
    · exact List.mem_append_right _ hz
  · rw [List.getElem?_append] at hi
    have look : ∀ {j : Nat} {v : Int × Option Int}, found[j]? = some v → (found ++ [(y, some x)])[j]? = some v := fun {j v} e => by
      rw [List.getElem?_append_left (List.getElem?_eq_some_iff.mp e).1]; exact e
    split at hi
    · obtain ⟨g1, j, q, g2, g3⟩ := h.par i z p hi
      exact ⟨g1, j, q, g2, look g3⟩
    · rename_i hlt
      have hz : i - found.length = 0 := by
        have := (List.getElem?_eq_some_iff.mp hi).1
        simp at this; omega
      rw [hz] at hi
      have hi : (y, some x) = (z, some p) := by simpa using hi
      cases hi
      obtain ⟨v, hv, e⟩ := List.mem_map.mp hx
      obtain ⟨j, hj⟩ := List.mem_iff_getElem?.mp hv
      have hjl := (List.getElem?_eq_some_iff.mp hj).1
      obtain ⟨v1, v2⟩ := v
      have e : v1 = x := e
      subst e
      exact ⟨he, j, v2, by omega, look hj⟩
theorem led_inner {m : Nat} {T : List (Int × Int)} (ht : PrsOk m T) (hm : m ≤ 12) (PL : List D) {f x : Int} (hf : InM m f) (r t : Slot) : ∀ (l : List (Int × Int)) (found : Fnd) (w : List Int) (x6 x7 : Slot), (∀ p ∈ l, p ∈ T) → LedI T f found w → x ∈ keysI found → w.length ≤ found.length →
    ∃ found' w' y6 y7, runFor (bT 2 (bsCons (bN 6) (bsCons (bN 7) bsNil))) bd_Keeper_led_1 (l.map pqE) (Lv PL f found w x x6 x7 r t) = .nx (Lv PL f found' w' x y6 y7 r t) ∧ LedI T f found' w' ∧ w'.length + found.length = found'.length + w.length ∧ w'.length ≤ found'.length ∧ (∀ k ∈ keysI found, k ∈ keysI found') ∧ (∀ k ∈ w, k ∈ w') ∧ (∀ y, (x, y) ∈ l → y ∈ keysI found') ∧ (∀ k ∈ keysI found', k ∈ keysI found ∨ k ∈ w')
  | [], found, w, x6, x7, _, hI, hx, hl => ⟨found, w, x6, x7, rfl, hI, by omega, hl, fun _ h => h, fun _ h => h, (fun _ h => nomatch h), fun _ h => .inl h⟩
  | p :: l, found, w, x6, x7, he, hI, hx, hl => by
    have hkl := hI.len ht hf
    have hb := led_body PL f found w x (by omega) (by omega) p r t
    have hbn : (bT 2 (bsCons (bN 6) (bsCons (bN 7) bsNil))) (pqE p) (Lv PL f found w x x6 x7 r t) = some (Lv PL f found w x (.fz (.int p.1)) (.fz (.int p.2)) r t) := rfl
    by_cases h : p.1 = x ∧ p.2 ∉ keysI found
    · rw [if_pos h] at hb
      have hadd := hI.add hx h.2 (by
        have := he p List.mem_cons_self
        rw [← h.1]; exact this)
      obtain ⟨found', w', y6, y7, e, g1, g2, g2', g3, g4, g5, g6⟩ := led_inner ht hm PL hf r t l (found ++ [(p.2, some x)]) (w ++ [p.2]) (.fz (.int p.1)) (.fz (.int p.2)) (fun z hz => he z (List.mem_cons_of_mem _ hz)) hadd (by rw [keysI_snoc]; exact List.mem_append_left _ hx) (by rw [List.length_append, List.length_append]; simpa using hl)
      rw [List.length_append, List.length_append] at g2
      refine ⟨found', w', y6, y7, by rw [List.map_cons, runFor_nx hbn hb, e], g1, by simp at g2; omega, g2', fun k hk => g3 k (by rw [keysI_snoc]; exact List.mem_append_left _ hk), fun k hk => g4 k (List.mem_append_left _ hk), fun z hz => ?_, fun k hk => ?_⟩
      · rcases List.mem_cons.mp hz with hz | hz
        · refine g3 _ ?_
          rw [keysI_snoc, ← hz]
          exact List.mem_append_right _ List.mem_cons_self
        · exact g5 z hz
      · rcases g6 k hk with q | q
        · rw [keysI_snoc] at q
          rcases List.mem_append.mp q with q | q
          · exact .inl q
          · rw [List.mem_singleton] at q
            subst q
            exact .inr (g4 _ (List.mem_append_right _ List.mem_cons_self))
        · exact .inr q
    · rw [if_neg h] at hb
      obtain ⟨found', w', y6, y7, e, g1, g2, g2', g3, g4, g5, g6⟩ := led_inner ht hm PL hf r t l found w (.fz (.int p.1)) (.fz (.int p.2)) (fun z hz => he z (List.mem_cons_of_mem _ hz)) hI hx hl
      refine ⟨found', w', y6, y7, by rw [List.map_cons, runFor_nx hbn hb, e], g1, g2, g2', g3, g4, fun z hz => ?_, g6⟩
      rcases List.mem_cons.mp hz with hz | hz
      · refine g3 _ (Classical.byContradiction fun hn => h ?_)
        rw [← hz]
        exact ⟨rfl, hn⟩
      · exact g5 z hz
theorem led_loop {m : Nat} {T : List (Int × Int)} (ht : PrsOk m T) (hm : m ≤ 12) {f : Int} (hf : InM m f) (r t : Slot) : ∀ (N : Nat) (found : Fnd) (w : List Int) (x5 x6 x7 : Slot), m + w.length < N + found.length → LedI T f found w → w.length ≤ found.length → (∀ k ∈ keysI found, k ∈ w ∨ ∀ y, (k, y) ∈ T → y ∈ keysI found) →
    ∃ found' y5 y6 y7, runW wt_Keeper_led_2 bd_Keeper_led_3 N [.self, .fz (.int f), .fz (.lst (T.map pqE)), .ow (.di (fK found)), .ow (.li (w.map .int)), x5, x6, x7, r, t] = .nx [.self, .fz (.int f), .fz (.lst (T.map pqE)), .ow (.di (fK found')), .ow (.li []), y5, y6, y7, r, t] ∧ LedI T f found' [] ∧ ∀ y, y ∈ keysI found' ↔ Rp T f y
  | 0, found, w, x5, x6, x7, hN, hI, hl, hc => by have := hI.len ht hf; omega
  | N + 1, found, w, x5, x6, x7, hN, hI, hl, hc => by
    have hkl := hI.len ht hf
    cases w with
    | nil =>
      refine ⟨found, x5, x6, x7, ?_, hI, fun y => ⟨hI.re y, fun h => h.closed ?_ fun u hu v he => ?_⟩⟩
      · have q0 : opNe (.lst []) (.lst []) = some (.bl false) := opNe_is (is_lst (iss_nil (α := Int))) (is_lst (iss_nil (α := Int))) (by decide)
        rw [runW_stop (ρ1 := [.self, .fz (.int f), .fz (.lst (T.map pqE)), .ow (.di (fK found)), .ow (.li []), x5, x6, x7, r, t])]
        simp [wt_Keeper_led_2, q0]
      · obtain ⟨rest, hr, _⟩ := hI.hd
        rw [hr]; exact List.mem_cons_self
      · rcases hc u hu with h | h
        · cases h
        · exact h v he
    | cons x w' =>
      have hxk := hI.sub x List.mem_cons_self
      have hI' : LedI T f found w' := ⟨hI.nd, hI.hd, hI.re, fun y hy => hI.sub y (List.mem_cons_of_mem _ hy), hI.par⟩
      rw [List.length_cons] at hN hl
      obtain ⟨f2, w2, y6, y7, e1, g1, g2, g2', g3, g4, g5, g6⟩ := led_inner ht hm (T.map pqE) hf (x := x) r t T found w' x6 x7 (fun p hp => hp) hI' hxk (by omega)
      have hk2 := g1.len ht hf
      obtain ⟨f3, z5, z6, z7, e2, g7, g8⟩ := led_loop ht hm hf r t N f2 w2 (.fz (.int x)) y6 y7 (by omega) g1 g2' (fun k hk => by
        rcases g6 k hk with h | h
        · rcases hc k h with h | h
          · rcases List.mem_cons.mp h with h | h
            · subst h
              exact .inr fun y hy => g5 y hy
            · exact .inl (g4 k h)
          · exact .inr fun y hy => g3 y (h y hy)
        · exact .inl h)
      refine ⟨f3, z5, z6, z7, ?_, g7, g8⟩
      have q0 : opNe (.lst ((x :: w').map .int)) (.lst []) = some (.bl true) := by
        rw [opNe_is (is_lst (iss_ints _)) (is_lst (iss_nil (α := Int))) (by decide), decide_eq_false (by simp)]; rfl
      have t1 : wt_Keeper_led_2 [.self, .fz (.int f), .fz (.lst (T.map pqE)), .ow (.di (fK found)), .ow (.li ((x :: w').map .int)), x5, x6, x7, r, t] = .ok true [.self, .fz (.int f), .fz (.lst (T.map pqE)), .ow (.di (fK found)), .ow (.li ((x :: w').map .int)), x5, x6, x7, r, t] := by
        generalize (x :: w').map D.int = W at q0
        simp [wt_Keeper_led_2, q0]
      have t2 : bd_Keeper_led_3 [.self, .fz (.int f), .fz (.lst (T.map pqE)), .ow (.di (fK found)), .ow (.li ((x :: w').map .int)), x5, x6, x7, r, t] = .nx [.self, .fz (.int f), .fz (.lst (T.map pqE)), .ow (.di (fK f2)), .ow (.li (w2.map .int)), .fz (.int x), y6, y7, r, t] := by
        have p1 : muPopAt (.li ((x :: w').map .int)) [.int 0] = some (.int x, .li (w'.map .int)) := by
          rw [List.map_cons]
          have c2 : w'.length + 1 ≤ big := by show w'.length + 1 ≤ 16777216; omega
          simp [c2]
        have c2 : w'.length + 1 ≤ big := by show w'.length + 1 ≤ 16777216; omega
        dsimp only [Lv] at e1
        generalize (x :: w').map D.int = W at *
        generalize T.map pqE = TL at *
        simp [bd_Keeper_led_3, p1, e1]
      rw [runW_go t1 t2, e2]
theorem fm_led_ok {m : Nat} {T : List (Int × Int)} (ht : PrsOk m T) (hm : m ≤ 12) {f : Int} (hf : InM m f) (r t : Slot) :
    ∃ found, fm_Keeper_led [r, t] [.int f, .lst (T.map pqE)] = some (fkD found, [r, t]) ∧ LedI T f found [] ∧ ∀ y, y ∈ keysI found ↔ Rp T f y := by
  obtain ⟨N, hN⟩ : ∃ N : Nat, N = 1000000 := ⟨_, rfl⟩
  obtain ⟨found, y5, y6, y7, e, h1, h2⟩ := led_loop ht hm hf r t N [(f, none)] [f] .un .un .un (by simp; omega) ⟨List.nodup_cons.mpr ⟨List.not_mem_nil, List.nodup_nil⟩, ⟨[], rfl, fun p hp => nomatch hp⟩, fun x hx => by
      have hx : x ∈ [f] := hx
      rw [List.mem_singleton] at hx; subst hx; exact .refl, fun x hx => hx, fun i x p hi => by
      cases i with
      | zero => simp at hi
      | succ i => simp at hi⟩ (Nat.le_refl _) fun k hk => .inl hk
  refine ⟨found, ?_, h1, h2⟩
  rw [hN] at e
  have e : runW wt_Keeper_led_2 bd_Keeper_led_3 1000000 [.self, .fz (.int f), .fz (.lst (T.map pqE)), .ow (.di [(.inl f, .non)]), .ow (.li [.int f]), .un, .un, .un, r, t] = _ := e
  have d2 : ∀ ρ, dsp2 (.dat (.int f)) (.dat .non) ρ = .ok (.tm (.di [(.inl f, .non)])) ρ := fun _ => rfl
  generalize T.map pqE = TL at *
  unfold fm_Keeper_led fkD
  rw [y_fmOf]
  simp [sem_Keeper_led, initM, d2, e, -List.map_map]
end Fw

set_option Elab.async false
set_option linter.all false
set_option maxRecDepth 100000
namespace Fw
open PySem PySem.Spec PyProof.Rows L2 Pv
open PySem.W (Datum DatumOrd Tup T3 T4)
/-! the least weight of all rows -/
def lowW (n : Nat) (as : List Ar) : Int := ((rowsN n).map (weightI as)).min?.getD 0
def cntW (n : Nat) (as : List Ar) : Nat := ((rowsN n).map (weightI as)).count (lowW n as)
def firstW (n : Nat) (as : List Ar) : List Int := ((rowsN n).find? fun r => decide (weightI as r = lowW n as)).getD []
theorem lowW_min (n : Nat) (as : List Ar) : ((rowsN n).map (weightI as)).min? = some (lowW n as) := by
  obtain ⟨m, hm⟩ := min?_ex (l := (rowsN n).map (weightI as)) (by simpa using rowsN_ne n)
  unfold lowW
  rw [hm]; rfl
theorem lowW_le {n : Nat} {as : List Ar} {r : List Int} (hr : RowOk n r) : lowW n as ≤ weightI as r :=
  (min?_is.mp (lowW_min n as)).2 _ (List.mem_map.mpr ⟨r, mem_rowsN.mpr hr, rfl⟩)
theorem lowW_ex (n : Nat) (as : List Ar) : ∃ r, RowOk n r ∧ weightI as r = lowW n as := by
  obtain ⟨r, hr, e⟩ := List.mem_map.mp (min?_is.mp (lowW_min n as)).1
  exact ⟨r, mem_rowsN.mp hr, e⟩
theorem lowW_is {n : Nat} {as : List Ar} {m : Int} (h1 : ∀ r, RowOk n r → m ≤ weightI as r) (h2 : ∃ r, RowOk n r ∧ weightI as r = m) : lowW n as = m := by
  obtain ⟨r, hr, e⟩ := h2
  obtain ⟨q, hq, e2⟩ := lowW_ex n as
  have := lowW_le (as := as) hr
  have := h1 q hq
  omega
theorem firstW_find (n : Nat) (as : List Ar) : (rowsN n).find? (fun r => decide (weightI as r = lowW n as)) = some (firstW n as) := by
  obtain ⟨r, hr, e⟩ := lowW_ex n as
  cases h : (rowsN n).find? fun r => decide (weightI as r = lowW n as) with
  | none => exact absurd (decide_eq_true e) (List.find?_eq_none.mp h r (mem_rowsN.mpr hr))
  | some q => unfold firstW; rw [h]; rfl
theorem idx_find {α : Type} {f : α → Int} {m : Int} : ∀ {l : List α} {x : α}, l.find? (fun r => decide (f r = m)) = some x → l[(l.map f).idxOf m]? = some x
  | [], x, h => nomatch h
  | y :: l, x, h => by
    rw [List.find?_cons] at h
    rw [List.map_cons, List.idxOf_cons]
    by_cases e : f y = m
    · rw [decide_eq_true e] at h
      cases h
      rw [beq_iff_eq.mpr e]; rfl
    · rw [decide_eq_false e] at h
      rw [beq_eq_false_iff_ne.mpr e]
      show (y :: l)[(l.map f).idxOf m + 1]? = _
      rw [List.getElem?_cons_succ]
      exact idx_find h
theorem firstW_ok (n : Nat) (as : List Ar) : RowOk n (firstW n as) ∧ weightI as (firstW n as) = lowW n as :=
  ⟨mem_rowsN.mp (List.mem_of_find?_eq_some (firstW_find n as)), by simpa using List.find?_some (firstW_find n as)⟩
theorem cntW_eq (n : Nat) (as : List Ar) : cntW n as = (rowsN n).countP fun r => decide (weightI as r = lowW n as) := by
  unfold cntW
  rw [List.count_eq_countP, List.countP_map]
  congr 1
theorem filter_allow_nil (l : List (List Int)) (S : Nat) : l.filter (allowB [] S) = l := List.filter_eq_self.mpr fun q _ => allowB_nil q S
theorem bestM_low {n : Nat} {as : List Ar} (h : WebOk n as) : bestM n (wOf as) [] n 0 = some (lowW n as, cntW n as) := by
  rw [bestM_web h, filter_allow_nil]
  exact summ_some.mpr ⟨min?_is.mp (lowW_min n as), rfl⟩
theorem find?_congr' {α : Type} {p q : α → Bool} : ∀ {l : List α}, (∀ x ∈ l, p x = q x) → l.find? p = l.find? q
  | [], _ => rfl
  | x :: l, h => by rw [List.find?_cons, List.find?_cons, h x List.mem_cons_self, find?_congr' fun y hy => h y (List.mem_cons_of_mem _ hy)]
theorem firstM_first {n : Nat} {as : List Ar} (h : WebOk n as) : firstM n (wOf as) n 0 = firstW n as := by
  have h1 := firstM_find (w := wOf as) h.n7 (S := 0) (k := n) (by decide) (by rw [restN_zero, ints_len])
  rw [restN_zero, bestM_low h] at h1
  have h2 := firstW_find n as
  have : (rowsN n).find? (fun q => decide (some (costM n (wOf as) 0 q) = (some (lowW n as, cntW n as)).map (·.1))) = (rowsN n).find? fun r => decide (weightI as r = lowW n as) :=
    find?_congr' fun q hq => by
      rw [costM_web h (mem_rowsN.mp hq)]
      exact decide_eq_decide.mpr ⟨fun z => Option.some.inj z, fun z => congrArg some z⟩
  have h1 : (rowsN n).find? (fun q => decide (some (costM n (wOf as) 0 q) = (some (lowW n as, cntW n as)).map (·.1))) = some (firstM n (wOf as) n 0) := h1
  rw [this, h2] at h1
  exact (Option.some.inj h1).symm
/-! one thing ahead of another -/
theorem allow_one {a b : Int} {n : Nat} (hn : n ≤ 7) (ha : 0 ≤ a ∧ a < n) (hab : a ≠ b) : ∀ {q : List Int} {S : Nat}, S < 128 → q.Perm (restN n S) → allowB [(a, b)] S q = decide (b ∉ q ∨ stB S a = true ∨ q.idxOf a < q.idxOf b)
  | [], S, _, _ => by simp [allowB]
  | x :: q, S, hS, hq => by
    have hx : x ∈ restN n S := hq.subset List.mem_cons_self
    obtain ⟨hx1, hx2⟩ := mem_restN.mp hx
    have ih := allow_one hn ha hab (q := q) (S := addB S x) (addB_lt hn hS hx) (by
      rw [restN_add hn hS hx]
      exact (List.perm_cons x).mp (hq.trans (cons_filter_perm hx (restN_nodup n S)).symm))
    have hnd : (x :: q).Nodup := hq.nodup_iff.mpr (restN_nodup n S)
    have hxq := (List.nodup_cons.mp hnd).1
    unfold allowB
    rw [ih, (stB_add hS (by omega) (by omega) hx2).1]
    have hm : mayB [(a, b)] S x = (!decide (b = x) || stB S a) := by
      unfold mayB
      rw [List.all_cons, List.all_nil, Bool.and_true]
    rw [hm]
    by_cases e : b = x
    · subst e
      have hab' : ¬ a = b := hab
      rw [idx_self]
      cases h : stB S a <;> simp [h, hxq]
    · have e' : ¬ x = b := fun z => e z.symm
      by_cases e2 : a = x
      · subst e2
        rw [idx_self, idx_ne e']
        simp [e]
      · have e2' : ¬ x = a := fun z => e2 z.symm
        rw [idx_ne e', idx_ne e2']
        simp [e, e2]
/-- the least weight of the rows with a ahead of b -/
def lowA (n : Nat) (as : List Ar) (a b : Int) : Int := (((rowsN n).filter fun r => decide (r.idxOf a < r.idxOf b)).map (weightI as)).min?.getD 0
theorem bestM_ahead {n : Nat} {as : List Ar} (h : WebOk n as) {a b : Int} (ha : 0 ≤ a ∧ a < n) (hb : 0 ≤ b ∧ b < n) (hab : a ≠ b) :
    bestM n (wOf as) [(a, b)] n 0 = summ (((rowsN n).filter fun r => decide (r.idxOf a < r.idxOf b)).map (weightI as)) := by
  rw [bestM_web h]
  congr 2
  refine List.filter_congr fun r hr => ?_
  have hr := mem_rowsN.mp hr
  rw [allow_one h.n7 ha hab (by decide) (by rw [restN_zero]; exact hr.p)]
  have h1 : stB 0 a = false := by unfold stB; simp
  have h2 := hr.mem.mpr hb
  refine decide_eq_decide.mpr ?_
  rw [h1]
  simp [h2]
theorem row_ahead {n : Nat} {a b : Int} (ha : 0 ≤ a ∧ a < n) (hb : 0 ≤ b ∧ b < n) (hab : a ≠ b) : ∃ r, RowOk n r ∧ r.idxOf a < r.idxOf b := by
  refine ⟨a :: (intsN n).filter fun y => decide (y ≠ a), ⟨cons_filter_perm (mem_intsN.mpr ha) (ints_nodup n)⟩, ?_⟩
  rw [idx_self, idx_ne hab]
  omega
theorem bestM_low2 {n : Nat} {as : List Ar} (h : WebOk n as) {a b : Int} (ha : 0 ≤ a ∧ a < n) (hb : 0 ≤ b ∧ b < n) (hab : a ≠ b) : ∃ c, bestM n (wOf as) [(a, b)] n 0 = some (lowA n as a b, c) := by
  rw [bestM_ahead h ha hb hab]
  obtain ⟨r, hr, h2⟩ := row_ahead ha hb hab
  have hne : ((rowsN n).filter fun r => decide (r.idxOf a < r.idxOf b)).map (weightI as) ≠ [] := fun z => by
    have : r ∈ (rowsN n).filter fun r => decide (r.idxOf a < r.idxOf b) := List.mem_filter.mpr ⟨mem_rowsN.mpr hr, decide_eq_true h2⟩
    rw [List.map_eq_nil_iff.mp z] at this
    cases this
  obtain ⟨m, hm⟩ := min?_ex hne
  refine ⟨_, summ_some.mpr ⟨min?_is.mp (by unfold lowA; rw [hm]; rfl), rfl⟩⟩
theorem lowA_gt {n : Nat} {as : List Ar} {a b : Int} (ha : 0 ≤ a ∧ a < n) (hb : 0 ≤ b ∧ b < n) (hab : a ≠ b) : lowW n as < lowA n as a b ↔ ∀ r, RowOk n r → weightI as r = lowW n as → r.idxOf b < r.idxOf a := by
  obtain ⟨r, hr, h2⟩ := row_ahead ha hb hab
  have hne : ((rowsN n).filter fun r => decide (r.idxOf a < r.idxOf b)).map (weightI as) ≠ [] := fun z => by
    have : r ∈ (rowsN n).filter fun r => decide (r.idxOf a < r.idxOf b) := List.mem_filter.mpr ⟨mem_rowsN.mpr hr, decide_eq_true h2⟩
    rw [List.map_eq_nil_iff.mp z] at this
    cases this
  obtain ⟨m, hm⟩ := min?_ex hne
  have hA : lowA n as a b = m := by unfold lowA; rw [hm]; rfl
  obtain ⟨m1, m2⟩ := min?_is.mp hm
  rw [hA]
  constructor
  · intro hl q hq e
    by_cases hc : q.idxOf a < q.idxOf b
    · have := m2 (weightI as q) (List.mem_map.mpr ⟨q, List.mem_filter.mpr ⟨mem_rowsN.mpr hq, decide_eq_true hc⟩, rfl⟩)
      omega
    · have : q.idxOf a ≠ q.idxOf b := fun z => hab (by
        have h1 := List.getElem_idxOf (List.idxOf_lt_length_of_mem (hq.mem.mpr ha))
        have h2 := List.getElem_idxOf (List.idxOf_lt_length_of_mem (hq.mem.mpr hb))
        rw [← h1, ← h2]
        simp only [z])
      omega
  · intro hall
    obtain ⟨q, hq, e⟩ := List.mem_map.mp m1
    obtain ⟨hq1, hq2⟩ := List.mem_filter.mp hq
    have hq2 := of_decide_eq_true hq2
    have hq1 := mem_rowsN.mp hq1
    have := lowW_le (as := as) hq1
    by_cases e2 : weightI as q = lowW n as
    · have := hall q hq1 e2
      omega
    · omega
end Fw

set_option Elab.async false
set_option linter.all false
set_option maxRecDepth 100000
set_option maxHeartbeats 2000000
namespace Fw
open PySem PySem.Spec PyProof.Rows L2 Pv
open PySem.W (Datum DatumOrd Tup T3 T4)
/-! all rows, as the laws make them -/
theorem add_row {p q : List Int} (h : p.length + q.length ≤ 1000) : opAdd (rowD p) (rowD q) = some (rowD (p ++ q)) := by
  unfold rowD
  rw [opAdd_k (by rw [List.length_map, List.length_map]; show p.length + q.length ≤ 16777216; omega), List.map_append]
def facN : Nat → Nat
  | 0 => 1
  | k + 1 => (k + 1) * facN k
theorem rowsL_len : ∀ (k : Nat) (l : List Int), l.Nodup → l.length = k → (rowsL k l).length = facN k
  | 0, l, _, _ => rfl
  | k + 1, l, hn, hk => by
    have key : ∀ is : List Int, (∀ x ∈ is, x ∈ l) → (is.flatMap fun x => (rowsL k (l.filter fun y => decide (y ≠ x))).map (x :: ·)).length = is.length * facN k := by
      intro is
      induction is with
      | nil => intro _; simp
      | cons x is ih =>
        intro h
        rw [List.flatMap_cons, List.length_append, List.length_map, ih fun y hy => h y (List.mem_cons_of_mem _ hy), rowsL_len k _ (hn.filter _) (filter_ne_len (h x List.mem_cons_self) hn hk), List.length_cons, Nat.succ_mul]
        omega
    have := key l fun x hx => hx
    rw [hk] at this
    exact this
theorem facN_le : ∀ k, k ≤ 7 → facN k ≤ 5040 := by decide
theorem rowsL_mem_len {k : Nat} {l q : List Int} (hn : l.Nodup) (hk : l.length = k) (h : q ∈ rowsL k l) : q.length = k := by
  rw [((mem_rowsL hn hk).mp h).length_eq, hk]
def lstR (k : Nat) (X : List D) : Rf := if k = 0 then .ow (.li X) else .fz (.lst X)
theorem L_rows_body {rec : List D → Rf} {k : Nat} {l : List Int} (hn : l.Nodup) (hk : l.length = k + 1) (h7 : k + 1 ≤ 7) {x : Int} (hx : x ∈ l) (ih : rec [.lst ((l.filter fun y => decide (y ≠ x)).map .int)] = lstR k ((rowsL k (l.filter fun y => decide (y ≠ x))).map rowD)) (L : List (List Int)) (hL : L.length ≤ 100000) :
    bd_L_rows_3 rec [.fz (.lst (l.map .int)), .ow (.li (L.map rowD)), .fz (.int x), .un, .un] = .nx [.fz (.lst (l.map .int)), .ow (.li ((L ++ (rowsL k (l.filter fun y => decide (y ≠ x))).map (x :: ·)).map rowD)), .fz (.int x), .un, .un] := by
  have c1 : runComp (bN 4) (ct_L_rows_1 rec) (eVar 4) [4] (l.map .int) [.fz (.lst (l.map .int)), .ow (.li (L.map rowD)), .fz (.int x), .un, .un] = some ((l.filter fun y => decide (y ≠ x)).map .int, [.fz (.lst (l.map .int)), .ow (.li (L.map rowD)), .fz (.int x), .un, .un]) := by
    rw [runComp_map (enc := fun y : Int => D.int y) (F := fun y => if y ≠ x then some (D.int y) else none)]
    · rw [filterMap_ite]
    · intro y hy
      refine ⟨_, rfl, ?_⟩
      by_cases e : y = x
      · refine .inl ⟨?_, by rw [if_neg (by simpa using e)], rfl⟩
        simp [ct_L_rows_1, e]
      · refine .inr ⟨?_, .int y, [.fz (.lst (l.map .int)), .ow (.li (L.map rowD)), .fz (.int x), .un, .fz (.int y)], ?_, by rw [if_pos e], rfl⟩
        · simp [ct_L_rows_1, e]
        · simp
  have hk' := filter_ne_len hx hn hk
  have hn' : (l.filter fun y => decide (y ≠ x)).Nodup := hn.filter _
  have hlen := rowsL_len k _ hn' hk'
  have hfac := facN_le k (by omega)
  have c2 : runComp (bN 3) tTrue (ce_L_rows_2 rec) [3] ((rowsL k (l.filter fun y => decide (y ≠ x))).map rowD) [.fz (.lst (l.map .int)), .ow (.li (L.map rowD)), .fz (.int x), .un, .un] = some (((rowsL k (l.filter fun y => decide (y ≠ x))).map (x :: ·)).map rowD, [.fz (.lst (l.map .int)), .ow (.li (L.map rowD)), .fz (.int x), .un, .un]) := by
    rw [runComp_map (enc := rowD) (F := fun q => some (rowD (x :: q)))]
    · rw [List.filterMap_eq_map', List.map_map]; rfl
    · intro q hq
      have hql := rowsL_mem_len hn' hk' hq
      have a1 : opAdd (.ktup [.int x]) (rowD q) = some (rowD (x :: q)) := add_row (p := [x]) (by simp; omega)
      refine ⟨_, rfl, .inr ⟨rfl, rowD (x :: q), [.fz (.lst (l.map .int)), .ow (.li (L.map rowD)), .fz (.int x), .fz (rowD q), .un], ?_, rfl, rfl⟩⟩
      simp [ce_L_rows_2, a1]
  generalize (l.filter fun y => decide (y ≠ x)) = l' at c1 c2 hlen ih
  generalize rowsL k l' = RR at c2 hlen ih
  have hb : (L.map rowD).length + ((RR.map (x :: ·)).map rowD).length ≤ big := by
    rw [List.length_map, List.length_map, List.length_map, hlen]
    show L.length + facN k ≤ 16777216
    omega
  rw [List.map_append]
  generalize (RR.map (x :: ·)).map rowD = M at c2 hb
  generalize RR.map rowD = RD at c2 ih
  generalize L.map rowD = LD at *
  cases k <;> simp [bd_L_rows_3, c1, ih, lstR, c2, hb]
theorem fs_L_rows_ok : ∀ (fuel k : Nat) (l : List Int), k < fuel → k ≤ 7 → l.Nodup → l.length = k → fs_L_rows fuel [.lst (l.map .int)] = lstR k ((rowsL k l).map rowD)
  | 0, k, l, h, _, _, _ => absurd h (Nat.not_lt_zero _)
  | fuel + 1, 0, l, _, _, _, hk => by
    have : l = [] := List.eq_nil_of_length_eq_zero hk
    subst this
    have e0 : opEq (.lst []) (.lst []) = some (.bl true) := opEq_is (is_lst (iss_nil (α := Int))) (is_lst (iss_nil (α := Int))) (by decide)
    simp [fs_L_rows, fsOf, sem_L_rows, initE, e0, rowsL, rowD, lstR]
  | fuel + 1, k + 1, l, h, h7, hn, hk => by
    have e0 : opEq (.lst (l.map .int)) (.lst []) = some (.bl false) := by
      have := opEq_is (is_lst (iss_ints l)) (is_lst (iss_nil (α := Int))) (by decide)
      rw [decide_eq_false (fun z => by rw [z] at hk; cases hk)] at this
      exact this
    have hlen := rowsL_len (k + 1) l hn hk
    have hfac := facN_le (k + 1) h7
    obtain ⟨ρ', h1, L, x2, rfl, _, h2⟩ := runFor_rel (b := bN 2) (g := bd_L_rows_3 (fs_L_rows fuel)) (enc := fun x : Int => D.int x)
      (fun is ρ => ∃ L x2, ρ = [.fz (.lst (l.map .int)), .ow (.li (L.map rowD)), x2, .un, .un] ∧ (∀ x ∈ is, x ∈ l) ∧ L ++ (is.flatMap fun x => (rowsL k (l.filter fun y => decide (y ≠ x))).map (x :: ·)) = rowsL (k + 1) l) (by
        rintro x is ρ ⟨L, x2, rfl, hl, h2⟩
        have hx := hl x List.mem_cons_self
        have hL := congrArg List.length h2
        rw [List.length_append, hlen] at hL
        have ih := fs_L_rows_ok fuel k (l.filter fun y => decide (y ≠ x)) (by omega) (by omega) (hn.filter _) (filter_ne_len hx hn hk)
        refine ⟨_, _, rfl, .inl (L_rows_body hn hk h7 hx ih L (by omega)), _, _, rfl, fun y hy => hl y (List.mem_cons_of_mem _ hy), ?_⟩
        rw [← h2, List.flatMap_cons, List.append_assoc]) l [.fz (.lst (l.map .int)), .ow (.li ([].map rowD)), .un, .un, .un] ⟨[], _, rfl, fun x hx => hx, rfl⟩
    have h2 : L = rowsL (k + 1) l := by rw [← h2]; exact (List.append_nil _).symm
    subst h2
    have h1 : runFor (bN 2) (bd_L_rows_3 (fs_L_rows fuel)) (l.map .int) [.fz (.lst (l.map .int)), .ow (.li []), .un, .un, .un] = _ := h1
    generalize (rowsL (k + 1) l).map rowD = RD at h1
    simp [fs_L_rows, fsOf, sem_L_rows, initE, e0, h1, lstR]
theorem fs_L_rowsN {n : Nat} (h1 : 1 ≤ n) (h7 : n ≤ 7) : fs_L_rows 9 [.lst (nats n)] = .fz (.lst ((rowsN n).map rowD)) := by
  rw [nats_intsN, fs_L_rows_ok 9 n (intsN n) (by omega) h7 (ints_nodup n) (ints_len n)]
  exact if_neg (by omega)
/-- the weights of all rows -/
theorem weights_comp {n : Nat} {as : List Ar} (h : WebOk n as) {ce : Envi → R Hd} {i : Nat} {vs : List Nat} (ρ : Envi)
    (hc : ∀ r, RowOk n r → ∃ ρ2, eMat ce (ρ.set i (.fz (rowD r))) = .ok (.dat (.int (weightI as r))) ρ2 ∧ wipeE ρ2 vs = ρ) :
    runComp (bN i) tTrue ce vs ((rowsN n).map rowD) ρ = some (((rowsN n).map (weightI as)).map .int, ρ) := by
  rw [runComp_map (enc := rowD) (F := fun r => some (D.int (weightI as r)))]
  · rw [List.filterMap_eq_map', List.map_map]; rfl
  · intro r hr
    obtain ⟨ρ2, e1, e2⟩ := hc r (mem_rowsN.mp hr)
    exact ⟨_, rfl, .inr ⟨rfl, _, _, e1, rfl, e2⟩⟩
theorem enumD_map {α : Type} (enc : α → D) : ∀ (i : Nat) (l : List α), enumD i (l.map enc) = (l.zipIdx i).map fun p => .tup [.int (p.2 : Nat), enc p.1]
  | _, [] => rfl
  | i, x :: l => by
    rw [List.map_cons, List.zipIdx_cons, List.map_cons, ← enumD_map enc (i + 1) l]
    rfl
theorem zipIdx_filter {α β : Type} (q : α → Bool) (f : α → β) : ∀ (i : Nat) (l : List α), ((l.zipIdx i).filter fun p => q p.1).map (fun p => f p.1) = (l.filter q).map f
  | _, [] => rfl
  | i, x :: l => by
    rw [List.zipIdx_cons, List.filter_cons, List.filter_cons]
    dsimp only
    split
    · rw [List.map_cons, List.map_cons, zipIdx_filter q f (i + 1) l]
    · exact zipIdx_filter q f (i + 1) l
/-! a list that is owned, or already data -/
def bS (b : Bool) (X : List D) : Slot := if b = true then .ow (.li X) else .fz (.lst X)
/-! built-ins on data with a type -/
theorem leastI_min {l : List Int} {m : Int} (h : l.min? = some m) : leastI l = m := by
  obtain ⟨h1, h2⟩ := min?_is.mp h
  obtain ⟨g1, g2⟩ := leastI_spec (ns := l) fun z => by rw [z] at h1; cases h1
  have := h2 _ g1
  have := g2 _ h1
  omega
theorem fMin_ints {l : List Int} {m : Int} (h : l.min? = some m) : fMin [.lst (l.map .int)] = .fz (.int m) := by
  have hne : l ≠ [] := fun z => by rw [z] at h; cases h
  unfold fMin lstInts
  simp only [lstOf, intsOf_map, if_neg hne, leastI_min h]
section
variable {α : Type} [DecidableEq α] [Datum α]
theorem opIndexL_is [Lay α] {a d : D} {ds : List D} {x : α} {xs : List α} (hl : lstOf a = some ds) (g : Iss ds xs) (h : Is d x) (hx : x ∈ xs) (hd : Datum.depth α ≤ 60) : opIndexL a [d] = some (.int (xs.idxOf x : Nat)) := by
  unfold opIndexL
  rw [hl]
  exact ixD_is h g hx hd (.inl rfl)
theorem opCountL_is [Lay α] {a d : D} {ds : List D} {x : α} {xs : List α} (hl : lstOf a = some ds) (g : Iss ds xs) (h : Is d x) (hd : Datum.depth α ≤ 60) : opCountL a [d] = some (.int (xs.count x : Nat)) := by
  have s1 : SeqAt.shaped (Datum.toD x) = true := shaped_is (by omega) x
  have s2 : SeqAt.shaped (.list (xs.map Datum.toD)) = true := shaped_is (α := List α) (by show Datum.depth α + 1 ≤ 64; omega) xs
  have g' : toPys ds = some (xs.map Datum.toD) := g
  have h' : toPy d = some (Datum.toD x) := h
  unfold opCountL
  rw [hl]
  simp only [h', g', s1, s2, Bool.and_self, if_true, Option.some.injEq, D.int.injEq]
  congr 1
  rw [List.countP_map, List.count_eq_countP]
  congr 1
  funext y
  simp only [Function.comp, Datum.eqv]
  rfl
end
end Fw

set_option Elab.async false
set_option linter.all false
set_option maxRecDepth 100000
set_option maxHeartbeats 2000000
namespace Fw
open PySem PySem.Spec PyProof.Rows L2 Pv
open PySem.W (Datum DatumOrd Tup T3 T4)
/-! the ring that is closed -/
def chainT (T : List (Int × Int)) : List Int → Prop
  | [] => True
  | [_] => True
  | x :: y :: l => (x, y) ∈ T ∧ chainT T (y :: l)
theorem ixL {x : Int} {l : List Int} (h : x ∈ l) : opIndexL (.lst (l.map .int)) [.int x] = some (.int (l.idxOf x : Nat)) := opIndexL_is (α := Int) rfl (iss_ints l) (is_int x) h (by decide)
theorem get_fK {x : Int} {q : Option Int} {found : Fnd} (hn : (keysI found).Nodup) (h : (x, q) ∈ found) : opDGet (fkD found) (.int x) = some (oD q) := by
  unfold opDGet
  rw [dLook_fK, look_some hn h]; rfl
structure UpI (T : List (Int × Int)) (a : Int) (found : Fnd) (L : List Int) (i : Nat) : Prop where
  at_ : ∃ x q l, L = x :: l ∧ found[i]? = some (x, q)
  hi : ∀ y ∈ L, ∃ (j : Nat) (q : Option Int), i ≤ j ∧ found[j]? = some (y, q)
  nd : L.Nodup
  ch : chainT T L
  la : L.getLast? = some a
theorem at_uniq {found : Fnd} (hn : (keysI found).Nodup) {i j : Nat} {x : Int} {q q' : Option Int} (h : found[i]? = some (x, q)) (h' : found[j]? = some (x, q')) : i = j := by
  have e1 : (keysI found)[i]? = some x := by unfold keysI; rw [List.getElem?_map, h]; rfl
  have e2 : (keysI found)[j]? = some x := by unfold keysI; rw [List.getElem?_map, h']; rfl
  exact (List.getElem?_inj (List.getElem?_eq_some_iff.mp e1).1 hn).mp (e1.trans e2.symm)
theorem ring_loop {T : List (Int × Int)} {f a : Int} {found : Fnd} (hI : LedI T f found []) (h12 : found.length ≤ 12) (r t : Slot) : ∀ (N : Nat) (L : List Int) (i : Nat), i < N → L.length ≤ 13 - i → UpI T a found L i →
    ∃ L', runW wt_Keeper_ring_by_1 bd_Keeper_ring_by_2 N [.self, .fz (.int a), .fz (fkD found), .ow (.li (L.reverse.map .int)), r, t] = .nx [.self, .fz (.int a), .fz (fkD found), .ow (.li (L'.reverse.map .int)), r, t] ∧ UpI T a found L' 0 ∧ L'.length ≤ 13 ∧ ∃ l, L' = f :: l
  | 0, L, i, hi, hl, u => absurd hi (by omega)
  | N + 1, L, i, hi, hl, u => by
    obtain ⟨x, q, l, rfl, hx⟩ := u.at_
    have g1 := get_fK hI.nd (List.mem_of_getElem? hx)
    have g2 : atI ((x :: l).reverse.map D.int) (-1) = some (.int x) := by
      rw [List.reverse_cons, List.map_append]; exact atI_last _ _
    cases q with
    | none =>
      have hi0 : i = 0 := by
        obtain ⟨rest, hr, hs⟩ := hI.hd
        cases i with
        | zero => rfl
        | succ i =>
          rw [hr] at hx
          have hx : rest[i]? = some (x, none) := by simpa using hx
          obtain ⟨y, hy⟩ := hs _ (List.mem_of_getElem? hx)
          cases hy
      subst hi0
      have hf : x = f := by
        obtain ⟨rest, hr, hs⟩ := hI.hd
        rw [hr] at hx
        have : (f, (none : Option Int)) = (x, none) := by simpa using hx
        exact (congrArg Prod.fst this).symm
      refine ⟨x :: l, ?_, u, by omega, l, by rw [hf]⟩
      rw [runW_stop (ρ1 := [.self, .fz (.int a), .fz (fkD found), .ow (.li ((x :: l).reverse.map .int)), r, t])]
      generalize (x :: l).reverse.map D.int = W at *
      generalize fkD found = FD at *
      have g1 : opDGet FD (.int x) = some .non := g1
      simp [wt_Keeper_ring_by_1, g1, g2]
    | some p =>
      obtain ⟨g3, j, q', hj, g4⟩ := hI.par i x p hx
      have hil := (List.getElem?_eq_some_iff.mp hx).1
      have hu : UpI T a found (p :: x :: l) j := by
        refine ⟨⟨p, q', x :: l, rfl, g4⟩, fun y hy => ?_, List.nodup_cons.mpr ⟨fun hm => ?_, u.nd⟩, ⟨g3, u.ch⟩, ?_⟩
        · rcases List.mem_cons.mp hy with e | hy
          · exact ⟨j, q', Nat.le_refl _, by rw [e]; exact g4⟩
          · obtain ⟨k, q2, h1, h2⟩ := u.hi y hy
            exact ⟨k, q2, by omega, h2⟩
        · obtain ⟨k, q2, h1, h2⟩ := u.hi p hm
          have := at_uniq hI.nd g4 h2
          omega
        · have := u.la
          rw [List.getLast?_cons_cons]; exact this
      obtain ⟨L', e, h1, h2, h3⟩ := ring_loop hI h12 r t N (p :: x :: l) j (by omega) (by
        rw [List.length_cons] at hl ⊢
        rw [List.length_cons]
        omega) hu
      refine ⟨L', ?_, h1, h2, h3⟩
      have t1 : wt_Keeper_ring_by_1 [.self, .fz (.int a), .fz (fkD found), .ow (.li ((x :: l).reverse.map .int)), r, t] = .ok true [.self, .fz (.int a), .fz (fkD found), .ow (.li ((x :: l).reverse.map .int)), r, t] := by
        generalize (x :: l).reverse.map D.int = W at *
        generalize fkD found = FD at *
        have g1 : opDGet FD (.int x) = some (.int p) := g1
        have g5 : opIsNot (.int p) .non = some (.bl true) := rfl
        simp [wt_Keeper_ring_by_1, g1, g2, g5]
      have t2 : bd_Keeper_ring_by_2 [.self, .fz (.int a), .fz (fkD found), .ow (.li ((x :: l).reverse.map .int)), r, t] = .nx [.self, .fz (.int a), .fz (fkD found), .ow (.li ((p :: x :: l).reverse.map .int)), r, t] := by
        have hlen : Small (((x :: l).reverse.map D.int).length) := by
          rw [List.length_map, List.length_reverse]
          rw [List.length_cons] at hl ⊢
          exact small_of (by omega)
        have hre : (p :: x :: l).reverse.map D.int = (x :: l).reverse.map D.int ++ [.int p] := by
          rw [List.reverse_cons, List.map_append]; rfl
        rw [hre]
        generalize (x :: l).reverse.map D.int = W at *
        generalize fkD found = FD at *
        have g1 : opDGet FD (.int x) = some (.int p) := g1
        simp [bd_Keeper_ring_by_2, g1, g2, hlen]
      rw [runW_go t1 t2, e]
theorem slLt {kn : Bool} {l : List D} {p : Nat} : opSl kn (.lst l) none (some (p : Int)) = some (.lst (l.take p)) := by
  unfold opSl
  simp only [lstOf, Pv.cutD, HT.sIx_none, HT.sIx_nat, List.drop_zero, Nat.sub_zero]
  rw [← List.take_take, List.take_of_length_le (Nat.le_refl l.length)]
theorem slLd {kn : Bool} {l : List D} {p : Nat} : opSl kn (.lst l) (some (p : Int)) none = some (.lst (l.drop p)) := by
  unfold opSl
  simp only [lstOf, Pv.cutD, HT.sIx_none, HT.sIx_nat]
  congr 2
  by_cases hp : p ≤ l.length
  · rw [Nat.min_eq_left hp, List.take_of_length_le (by rw [List.length_drop]; omega)]
  · rw [Nat.min_eq_right (by omega), List.drop_eq_nil_of_le (Nat.le_refl _), List.drop_eq_nil_of_le (by omega)]
    simp
theorem adL {a b : List D} (h : a.length + b.length ≤ 2000) : opAdd (.lst a) (.lst b) = some (.lst (a ++ b)) := by
  show (if a.length + b.length ≤ big then _ else _) = _
  rw [if_pos (Nat.le_trans h (by decide))]
/-- what ring_by tells: a, then a way from f to a's forerunner -/
structure RingT (T : List (Int × Int)) (a f : Int) (q : List Int) : Prop where
  ne : ∃ l, q = f :: l
  nd : (q ++ [a]).Nodup
  ch : chainT T (q ++ [a])
  le : q.length ≤ 12
theorem fm_ring_by_ok {T : List (Int × Int)} {f a : Int} {found : Fnd} (hI : LedI T f found []) (h12 : found.length ≤ 12) (ha : a ∈ keysI found) (haf : a ≠ f) (r t : Slot) :
    ∃ q, fm_Keeper_ring_by [r, t] [.int a, fkD found] = some (.lst ((a :: q).map .int), [r, t]) ∧ RingT T a f q := by
  obtain ⟨N, hN⟩ : ∃ N : Nat, N = 1000000 := ⟨_, rfl⟩
  obtain ⟨v, hv, e0⟩ := List.mem_map.mp ha
  obtain ⟨v1, v2⟩ := v
  have e0 : v1 = a := e0
  subst e0
  obtain ⟨i, hi⟩ := List.mem_iff_getElem?.mp hv
  have hil := (List.getElem?_eq_some_iff.mp hi).1
  obtain ⟨L, e, u, hL, l, rfl⟩ := ring_loop (a := v1) hI h12 r t N [v1] i (by omega) (by simp; omega) ⟨⟨v1, v2, [], rfl, hi⟩, fun y hy => by
    rw [List.mem_singleton] at hy; subst hy; exact ⟨i, v2, Nat.le_refl _, hi⟩, List.nodup_cons.mpr ⟨List.not_mem_nil, List.nodup_nil⟩, trivial, rfl⟩
  have hla := u.la
  have hsplit : ∃ q, f :: l = q ++ [v1] := by
    obtain ⟨q, h1⟩ := List.getLast?_eq_some_iff.mp hla
    exact ⟨q, h1⟩
  obtain ⟨q, hq⟩ := hsplit
  have hqne : ∃ l', q = f :: l' := by
    cases q with
    | nil =>
      have : [v1] = f :: l := hq.symm
      exact absurd (List.cons.inj this).1 haf
    | cons y q =>
      have := (List.cons.inj hq).1
      exact ⟨q, by rw [this]⟩
  have hlen : q.length ≤ 12 := by
    have := congrArg List.length hq
    rw [List.length_append, List.length_singleton] at this
    omega
  refine ⟨q, ?_, hqne, by rw [← hq]; exact u.nd, by rw [← hq]; exact u.ch, hlen⟩
  rw [hN, hq] at e
  have e : runW wt_Keeper_ring_by_1 bd_Keeper_ring_by_2 1000000 [.self, .fz (.int v1), .fz (fkD found), .ow (.li [.int v1]), r, t] = _ := e
  have hrev : (q ++ [v1]).reverse.map D.int = .int v1 :: q.reverse.map D.int := by
    rw [List.reverse_append]; rfl
  rw [hrev] at e
  have s1 : opSl false (.lst (.int v1 :: q.reverse.map D.int)) none (some 1) = some (.lst [.int v1]) := slLt (p := 1)
  have s2 : opSl false (.lst (.int v1 :: q.reverse.map D.int)) (some 1) none = some (.lst (q.reverse.map D.int)) := slLd (p := 1)
  have s3 : opRevL (.lst (q.reverse.map D.int)) = some (.lst (q.map D.int)) := by
    rw [y_revL, ← List.map_reverse, List.reverse_reverse]
  have s4 : opAdd (.lst [.int v1]) (.lst (q.map D.int)) = some (.lst (.int v1 :: q.map D.int)) := adL (a := [.int v1]) (by rw [List.length_map]; simp; omega)
  have hz : (v1 :: q).map D.int = .int v1 :: q.map D.int := rfl
  rw [hz]
  generalize D.int v1 :: q.map D.int = Z at *
  generalize q.reverse.map D.int = QR at *
  generalize q.map D.int = QD at *
  generalize fkD found = FD at *
  unfold fm_Keeper_ring_by
  rw [y_fmOf]
  simp [sem_Keeper_ring_by, initM, e, s1, s2, s3, s4, -y_revL]
end Fw

set_option Elab.async false
set_option linter.all false
set_option maxRecDepth 100000
set_option maxHeartbeats 2000000
namespace Fw
open PySem PySem.Spec PyProof.Rows L2 Pv
open PySem.W (Datum DatumOrd Tup T3 T4)
/-! the row changed -/
def zpL (hs : List Hd) (ρ1 : Envi) : R (List D) := match hs with
  | [.dat d, .dat e] => match lstOf d, lstOf e, tupOf d, tupOf e with
    | some ds, some es, _, _ => .ok (zipD ds es) ρ1
    | _, _, some ds, some es => .ok (zipD ds es) ρ1
    | _, _, _, _ => .stuck
  | _ => .stuck
@[simp] theorem k_zipA {g : Envi → R (List Hd)} {ρ : Envi} : itZipA g ρ = (g ρ).bind zpL := id rfl
@[simp] theorem k_zpL {a b : List D} {ρ : Envi} : zpL [.dat (.lst a), .dat (.lst b)] ρ = .ok (zipD a b) ρ := id rfl
def setAll (row : List Int) (ps : List (Int × Int)) : List Int := ps.foldl (fun r p => r.set p.1.toNat p.2) row
def befR (row : List Int) (b : Int) (B : Int → Bool) : List Int := (row.drop (row.idxOf b)).filter B
def aftR (row : List Int) (a : Int) (F : Int → Bool) : List Int := (row.take (row.idxOf a + 1)).filter F
def plcR (row L : List Int) : List Int := (L.map fun x => ((row.idxOf x : Nat) : Int)).mergeSort leI
def chgR (row : List Int) (a b : Int) (F B : Int → Bool) : List Int := setAll row ((plcR row (befR row b B ++ aftR row a F)).zip (befR row b B ++ aftR row a F))
theorem zip_ints : ∀ (a b : List Int), zipD (a.map .int) (b.map .int) = (a.zip b).map pqE
  | [], b => by cases b <;> rfl
  | x :: a, [] => rfl
  | x :: a, y :: b => by
    rw [List.map_cons, List.map_cons, List.zip_cons_cons, List.map_cons, ← zip_ints a b]; rfl
theorem set_intsL (l : List Int) (i : Nat) (x : Int) : (l.map D.int).set i (.int x) = (l.set i x).map .int := (List.map_set ..).symm
theorem ixN_ok {n i : Nat} (h : i < n) : ixN n ((i : Nat) : Int) = some i := by
  unfold ixN
  rw [if_pos (by omega), if_pos (by omega)]
  congr 1
theorem plc_mem {row L : List Int} (hs : ∀ x ∈ L, x ∈ row) {p : Int} (hp : p ∈ plcR row L) : ∃ i : Nat, p = i ∧ i < row.length := by
  have hp := (List.mergeSort_perm _ leI).mem_iff.mp hp
  obtain ⟨x, hx, rfl⟩ := List.mem_map.mp hp
  exact ⟨_, rfl, List.idxOf_lt_length_of_mem (hs x hx)⟩
theorem filter_int {ct : Envi → R Bool} {vs : List Nat} {i : Nat} (q : Int → Bool) (ρ : Envi) : ∀ l : List Int,
    (∀ x ∈ l, ct (ρ.set i (.fz (.int x))) = .ok (q x) (ρ.set i (.fz (.int x))) ∧ wipeE (ρ.set i (.fz (.int x))) vs = ρ ∧ (ρ.set i (.fz (.int x)))[i]? = some (.fz (.int x))) →
    runComp (bN i) ct (eVar i) vs (l.map .int) ρ = some ((l.filter q).map .int, ρ) := fun l h => by
  rw [runComp_map (enc := D.int) (F := fun x => if q x = true then some (D.int x) else none)]
  · congr 2
    induction l with
    | nil => rfl
    | cons x l ih =>
      rw [List.filterMap_cons, List.filter_cons]
      cases q x <;> simp [ih fun y hy => h y (List.mem_cons_of_mem _ hy)]
  · intro x hx
    obtain ⟨h1, h2, h3⟩ := h x hx
    refine ⟨_, rfl, ?_⟩
    by_cases e : q x = true
    · rw [e] at h1
      refine .inr ⟨h1, .int x, _, ?_, by rw [if_pos e], h2⟩
      unfold eMat eVar
      rw [h3]
      rfl
    · have e : q x = false := by simpa using e
      rw [e] at h1
      exact .inl ⟨h1, by rw [e]; rfl, h2⟩
def tK (T : List (Int × Int)) : List (List Key × D) := T.map fun p => ([.inl p.1, .inl p.2], .bl true)
theorem keys_tK (T : List (Int × Int)) : keysD (.ti (tK T)) = some (T.map pqE) := by
  unfold tK
  show some ((T.map _).map _) = _
  rw [List.map_map]; rfl
theorem short_tK (T : List (Int × Int)) : shortK (.ti (tK T)) = true := by
  show (tK T).all (fun x => decide (x.1.length ≤ 100)) = true
  rw [List.all_eq_true]
  intro x hx
  obtain ⟨p, _, rfl⟩ := List.mem_map.mp hx
  rfl
def swapT (T : List (Int × Int)) : List (Int × Int) := T.map fun p => (p.2, p.1)
theorem swap_ok {m : Nat} {T : List (Int × Int)} (h : PrsOk m T) : PrsOk m (swapT T) := ⟨fun p hp => by
  obtain ⟨q, hq, rfl⟩ := List.mem_map.mp hp
  exact ⟨(h.rg q hq).2, (h.rg q hq).1⟩⟩
theorem keys_ints (found : Fnd) : (fK found).map (fun x => dOfK x.1) = (keysI found).map D.int := by
  unfold fK keysI
  rw [List.map_map, List.map_map]; rfl
open Classical in
noncomputable def reB (T : List (Int × Int)) (f x : Int) : Bool := decide (Rp T f x)
open Classical in
theorem reB_iff {T : List (Int × Int)} {f x : Int} : reB T f x = true ↔ Rp T f x := by unfold reB; rw [decide_eq_true_eq]
theorem reB_dec {T : List (Int × Int)} {f x : Int} {l : List Int} (h : ∀ y, y ∈ l ↔ Rp T f y) : decide (x ∈ l) = reB T f x := by
  rw [Bool.eq_iff_iff, reB_iff, decide_eq_true_eq, h]
abbrev Cv (a f : Int) (FD : D) (x3 x4 x5 x6 x7 x8 x9 x10 x11 x12 x13 : Slot) (row : List Int) (T : List (Int × Int)) : Envi := [.self, .fz (.int a), .fz FD, x3, x4, x5, x6, x7, x8, x9, x10, x11, x12, x13, .ow (.li (row.map .int)), .ow (.ti (tK T))]
theorem set_loop (FD : D) (a f : Int) (x3 x5 x6 x7 x8 x9 x10 x11 x12 : Slot) (T : List (Int × Int)) : ∀ (ps : List (Int × Int)) (row : List Int) (x4 x13 : Slot), (∀ p ∈ ps, ∃ i : Nat, p.1 = i ∧ i < row.length) → row.length ≤ 100 →
    ∃ y4 y13, runFor (bT 2 (bsCons (bN 13) (bsCons (bN 4) bsNil))) bd_Keeper_change_6 (ps.map pqE) (Cv a f FD x3 x4 x5 x6 x7 x8 x9 x10 x11 x12 x13 row T) = .nx (Cv a f FD x3 y4 x5 x6 x7 x8 x9 x10 x11 x12 y13 (setAll row ps) T)
  | [], row, x4, x13, _, _ => ⟨x4, x13, rfl⟩
  | p :: ps, row, x4, x13, hp, hl => by
    obtain ⟨i, hi, hil⟩ := hp p List.mem_cons_self
    obtain ⟨y4, y13, e⟩ := set_loop FD a f x3 x5 x6 x7 x8 x9 x10 x11 x12 T ps (row.set i p.2) (.fz (.int p.2)) (.fz (.int p.1)) (fun q hq => by
      obtain ⟨j, hj, hjl⟩ := hp q (List.mem_cons_of_mem _ hq)
      exact ⟨j, hj, by rw [List.length_set]; exact hjl⟩) (by rw [List.length_set]; exact hl)
    refine ⟨y4, y13, ?_⟩
    have hb : bd_Keeper_change_6 (Cv a f FD x3 (.fz (.int p.2)) x5 x6 x7 x8 x9 x10 x11 x12 (.fz (.int p.1)) row T) = .nx (Cv a f FD x3 (.fz (.int p.2)) x5 x6 x7 x8 x9 x10 x11 x12 (.fz (.int p.1)) (row.set i p.2) T) := by
      have h1 : ixN ((row.map D.int).length) p.1 = some i := by rw [List.length_map, hi]; exact ixN_ok hil
      have h2 := set_intsL row i p.2
      dsimp only [Cv]
      generalize row.map D.int = RD at *
      generalize (row.set i p.2).map D.int = RD2 at *
      generalize tK T = TD at *
      simp [bd_Keeper_change_6, h1, h2]
    have hs : setAll row (p :: ps) = setAll (row.set i p.2) ps := by
      unfold setAll
      rw [List.foldl_cons, hi]; rfl
    rw [hs, List.map_cons, runFor_nx (ρ1 := Cv a f FD x3 (.fz (.int p.2)) x5 x6 x7 x8 x9 x10 x11 x12 (.fz (.int p.1)) row T) rfl hb, e]
theorem fm_change_ok {m : Nat} {T : List (Int × Int)} (ht : PrsOk m T) (hm : m ≤ 12) {row : List Int} (hr : RowOk m row) {a f : Int} (ha : InM m a) (hf : InM m f) {found : Fnd} (hI : LedI T f found []) (hre : ∀ y, y ∈ keysI found ↔ Rp T f y) :
    fm_Keeper_change [.ow (.li (row.map .int)), .ow (.ti (tK T))] [.int a, fkD found] = some (.non, [.ow (.li ((chgR row a f (reB T f) (reB (swapT T) a)).map .int)), .ow (.ti (tK T))]) := by
  have hl := hI.len ht hf
  have hrl := hr.len
  obtain ⟨rest, hr1, hr2⟩ := hI.hd
  have e1 : runComp (bN 4) ct_Keeper_change_1 (eVar 4) [4] ((fK found).map fun x => dOfK x.1) (Cv a f (fkD found) .un .un .un .un .un .un .un .un .un .un .un row T) = some ([.int f], Cv a f (fkD found) .un .un .un .un .un .un .un .un .un .un .un row T) := by
    rw [keys_ints, filter_int (fun x => decide (x = f))]
    · congr 2
      have hnd := hI.nd
      rw [hr1] at hnd ⊢
      have hnd2 := List.nodup_cons.mp hnd
      show (List.filter _ (f :: keysI rest)).map D.int = _
      rw [List.filter_cons_of_pos (by simp), List.filter_eq_nil_iff.mpr fun x hx => by
        have : x ≠ f := fun e => hnd2.1 (e ▸ hx)
        simpa using this]
      rfl
    · intro x hx
      obtain ⟨v, hv, e⟩ := List.mem_map.mp hx
      obtain ⟨v1, q⟩ := v
      have e : v1 = x := e
      subst e
      have g := get_fK hI.nd hv
      refine ⟨?_, rfl, rfl⟩
      have gq : opIs (oD q) .non = some (.bl (decide (v1 = f))) := by
        rw [hr1] at hv
        rcases List.mem_cons.mp hv with h | h
        · cases h
          rw [decide_eq_true rfl]; rfl
        · obtain ⟨y, hy⟩ := hr2 _ h
          have hy : q = some y := hy
          subst hy
          have hnd := hI.nd
          rw [hr1] at hnd
          have : v1 ≠ f := fun e => (List.nodup_cons.mp hnd).1 (List.mem_map.mpr ⟨_, h, e⟩)
          rw [decide_eq_false this]; rfl
      generalize oD q = OQ at *
      generalize fkD found = FD at *
      generalize row.map D.int = RD at *
      generalize tK T = TD at *
      simp [ct_Keeper_change_1, g, gq]
  have hfr : f ∈ row := hr.mem.mpr hf
  have har : a ∈ row := hr.mem.mpr ha
  have i1 := ixL hfr
  have i2 := ixL har
  have c2 : runComp (bT 2 (bsCons (bN 8) (bsCons (bN 9) bsNil))) tTrue ce_Keeper_change_2 [8, 9] (T.map pqE) [.self, .fz (.int a), .fz (fkD found), .fz (.int f), .un, .fz (.int (row.idxOf f : Nat)), .fz (.int (row.idxOf a : Nat)), .un, .un, .un, .un, .un, .un, .un, .ow (.li (row.map .int)), .un] = some ((swapT T).map pqE, [.self, .fz (.int a), .fz (fkD found), .fz (.int f), .un, .fz (.int (row.idxOf f : Nat)), .fz (.int (row.idxOf a : Nat)), .un, .un, .un, .un, .un, .un, .un, .ow (.li (row.map .int)), .un]) := by
    rw [runComp_map (enc := pqE) (F := fun p => some (pqE (p.2, p.1)))]
    · rw [List.filterMap_eq_map']
      unfold swapT
      rw [List.map_map]; rfl
    · intro p hp
      refine ⟨_, rfl, .inr ⟨rfl, _, [.self, .fz (.int a), .fz (fkD found), .fz (.int f), .un, .fz (.int (row.idxOf f : Nat)), .fz (.int (row.idxOf a : Nat)), .un, .fz (.int p.1), .fz (.int p.2), .un, .un, .un, .un, .ow (.li (row.map .int)), .un], ?_, rfl, rfl⟩⟩
      generalize fkD found = FD at *
      generalize row.map D.int = RD at *
      simp [ce_Keeper_change_2]
  obtain ⟨back, e3, hB, hbre⟩ := fm_led_ok (swap_ok ht) hm ha (.ow (.li (row.map .int))) (.ow (.ti (tK T)))
  have s1 : opSl false (.lst (row.map .int)) (some ((row.idxOf f : Nat) : Int)) none = some (.lst ((row.drop (row.idxOf f)).map .int)) := by rw [slLd, ← List.map_drop]
  have s2 : opSl false (.lst (row.map .int)) none (some (((row.idxOf a : Nat) : Int) + 1)) = some (.lst ((row.take (row.idxOf a + 1)).map .int)) := by
    have := slLt (kn := false) (l := row.map .int) (p := row.idxOf a + 1)
    rw [← List.map_take] at this
    exact this
  have c3 : ∀ x10 x11 : Slot, runComp (bN 4) ct_Keeper_change_3 (eVar 4) [4] ((row.drop (row.idxOf f)).map .int) (Cv a f (fkD found) (.fz (.int f)) .un (.fz (.int (row.idxOf f : Nat))) (.fz (.int (row.idxOf a : Nat))) (.fz (fkD back)) .un .un x10 x11 .un .un row T) = some ((befR row f (reB (swapT T) a)).map .int, Cv a f (fkD found) (.fz (.int f)) .un (.fz (.int (row.idxOf f : Nat))) (.fz (.int (row.idxOf a : Nat))) (.fz (fkD back)) .un .un x10 x11 .un .un row T) := fun x10 x11 => by
    rw [filter_int (reB (swapT T) a)]
    · rfl
    · intro x hx
      have g := in_fK x back
      rw [reB_dec hbre] at g
      refine ⟨?_, rfl, rfl⟩
      generalize fkD back = FB at *
      generalize fkD found = FD at *
      generalize row.map D.int = RD at *
      generalize tK T = TD at *
      simp [ct_Keeper_change_3, g]
  have c4 : ∀ x10 x11 : Slot, runComp (bN 4) ct_Keeper_change_4 (eVar 4) [4] ((row.take (row.idxOf a + 1)).map .int) (Cv a f (fkD found) (.fz (.int f)) .un (.fz (.int (row.idxOf f : Nat))) (.fz (.int (row.idxOf a : Nat))) (.fz (fkD back)) .un .un x10 x11 .un .un row T) = some ((aftR row a (reB T f)).map .int, Cv a f (fkD found) (.fz (.int f)) .un (.fz (.int (row.idxOf f : Nat))) (.fz (.int (row.idxOf a : Nat))) (.fz (fkD back)) .un .un x10 x11 .un .un row T) := fun x10 x11 => by
    rw [filter_int (reB T f)]
    · rfl
    · intro x hx
      have g := in_fK x found
      rw [reB_dec hre] at g
      refine ⟨?_, rfl, rfl⟩
      generalize fkD back = FB at *
      generalize fkD found = FD at *
      generalize row.map D.int = RD at *
      generalize tK T = TD at *
      simp [ct_Keeper_change_4, g]
  have hb1 : (befR row f (reB (swapT T) a)).length ≤ 12 := by
    unfold befR
    have h1 := List.length_filter_le (reB (swapT T) a) (row.drop (row.idxOf f))
    rw [List.length_drop] at h1
    omega
  have hb2 : (aftR row a (reB T f)).length ≤ 12 := by
    unfold aftR
    have h1 := List.length_filter_le (reB T f) (row.take (row.idxOf a + 1))
    rw [List.length_take] at h1
    omega
  have hmem : ∀ x ∈ befR row f (reB (swapT T) a) ++ aftR row a (reB T f), x ∈ row := fun x hx => by
    rcases List.mem_append.mp hx with h | h
    · exact List.mem_of_mem_drop (List.mem_filter.mp h).1
    · exact List.mem_of_mem_take (List.mem_filter.mp h).1
  have ad : opAdd (.lst ((befR row f (reB (swapT T) a)).map .int)) (.lst ((aftR row a (reB T f)).map .int)) = some (.lst ((befR row f (reB (swapT T) a) ++ aftR row a (reB T f)).map .int)) := by
    rw [adL (by rw [List.length_map, List.length_map]; omega), List.map_append]
  have hC : chgR row a f (reB T f) (reB (swapT T) a) = setAll row ((plcR row (befR row f (reB (swapT T) a) ++ aftR row a (reB T f))).zip (befR row f (reB (swapT T) a) ++ aftR row a (reB T f))) := rfl
  rw [hC]
  generalize befR row f (reB (swapT T) a) = BE at *
  generalize aftR row a (reB T f) = AF at *
  have c5 : ∀ x12 : Slot, runComp (bN 4) tTrue ce_Keeper_change_5 [4] ((BE ++ AF).map .int) (Cv a f (fkD found) (.fz (.int f)) .un (.fz (.int (row.idxOf f : Nat))) (.fz (.int (row.idxOf a : Nat))) (.fz (fkD back)) .un .un (.ow (.li (BE.map .int))) (.ow (.li (AF.map .int))) x12 .un row T) = some (((BE ++ AF).map fun x => ((row.idxOf x : Nat) : Int)).map .int, Cv a f (fkD found) (.fz (.int f)) .un (.fz (.int (row.idxOf f : Nat))) (.fz (.int (row.idxOf a : Nat))) (.fz (fkD back)) .un .un (.ow (.li (BE.map .int))) (.ow (.li (AF.map .int))) x12 .un row T) := fun x12 => by
    rw [runComp_map (enc := D.int) (F := fun x => some (D.int ((row.idxOf x : Nat) : Int)))]
    · rw [List.filterMap_eq_map', List.map_map]; rfl
    · intro x hx
      have g := ixL (hmem x hx)
      have ty : tyD "list" (.lst (row.map D.int)) = true := rfl
      refine ⟨_, rfl, .inr ⟨rfl, _, Cv a f (fkD found) (.fz (.int f)) (.fz (.int x)) (.fz (.int (row.idxOf f : Nat))) (.fz (.int (row.idxOf a : Nat))) (.fz (fkD back)) .un .un (.ow (.li (BE.map .int))) (.ow (.li (AF.map .int))) x12 .un row T, ?_, rfl, rfl⟩⟩
      dsimp only [Cv]
      generalize fkD back = FB at *
      generalize fkD found = FD at *
      generalize row.map D.int = RD at *
      generalize tK T = TD at *
      generalize BE.map D.int = BD at *
      generalize AF.map D.int = AD at *
      simp [ce_Keeper_change_5, g, ty]
  have f5 := fSorted_ints ((BE ++ AF).map fun x => ((row.idxOf x : Nat) : Int))
  have f5 : fSorted [.lst (((BE ++ AF).map fun x => ((row.idxOf x : Nat) : Int)).map .int)] = .ow (.li ((plcR row (BE ++ AF)).map .int)) := f5
  have hz := zip_ints (plcR row (BE ++ AF)) (BE ++ AF)
  obtain ⟨y4, y13, e6⟩ := set_loop (fkD found) a f (.fz (.int f)) (.fz (.int (row.idxOf f : Nat))) (.fz (.int (row.idxOf a : Nat))) (.fz (fkD back)) .un .un (.ow (.li (BE.map .int))) (.ow (.li (AF.map .int))) (.fz (.lst ((plcR row (BE ++ AF)).map .int))) T ((plcR row (BE ++ AF)).zip (BE ++ AF)) row .un .un (fun p hp => plc_mem hmem (List.of_mem_zip (a := p.1) (b := p.2) hp).1) (by omega)
  rw [← hz] at e6
  have k1 := keys_tK T
  have k2 := short_tK T
  have kf : keysF (fkD found) = some ((fK found).map fun x => dOfK x.1) := by
    unfold fkD
    rw [y_keysF, List.map_map]; rfl
  have ty : tyD "list" (.lst (row.map D.int)) = true := rfl
  have c3 := c3 .un .un
  have c4 := c4 (.ow (.li (BE.map .int))) .un
  have c5 := c5 .un
  dsimp only [Cv] at *
  clear hz hmem hC hre hbre hB hI
  generalize (fK found).map (fun x => dOfK x.1) = KF at *
  generalize fkD back = FB at *
  generalize fkD found = FD at *
  generalize (setAll row ((plcR row (BE ++ AF)).zip (BE ++ AF))).map D.int = RD2 at *
  generalize ((BE ++ AF).map fun x => ((row.idxOf x : Nat) : Int)).map D.int = PD at *
  generalize (plcR row (BE ++ AF)).map D.int = PS at *
  generalize (BE ++ AF).map D.int = BA at *
  generalize BE.map D.int = BD at *
  generalize AF.map D.int = AD at *
  generalize (row.drop (row.idxOf f)).map D.int = R1 at *
  generalize (row.take (row.idxOf a + 1)).map D.int = R2 at *
  generalize row.map D.int = RD at *
  generalize (swapT T).map pqE = SW at *
  generalize T.map pqE = TW at *
  generalize tK T = TD at *
  unfold fm_Keeper_change
  rw [y_fmOf]
  simp [sem_Keeper_change, initM, kf, e1, i1, i2, ty, k1, k2, c2, e3, s1, s2, c3, c4, ad, c5, f5, e6]
end Fw

set_option Elab.async false
set_option linter.all false
set_option maxRecDepth 100000
set_option maxHeartbeats 2000000
namespace Fw
open PySem PySem.Spec PyProof.Rows L2 Pv
open PySem.W (Datum DatumOrd Tup T3 T4)
/-! the row changed is a row -/
theorem gK_lt {l : List Int} {k : Nat} (hk : k < l.length) : l.getD k 0 = l[k] := by
  rw [List.getD_eq_getElem?_getD, List.getElem?_eq_getElem hk]; rfl
theorem ixK_get {l : List Int} (hn : l.Nodup) {k : Nat} (hk : k < l.length) : l.idxOf l[k] = k := by
  have hm : l[k] ∈ l := List.getElem_mem hk
  have hlt := List.idxOf_lt_length_of_mem hm
  have e := List.getElem_idxOf hlt
  exact (List.getElem_inj hn).mp e
theorem setAll_len : ∀ (ps : List (Int × Int)) (row : List Int), (setAll row ps).length = row.length
  | [], row => rfl
  | p :: ps, row => by
    show (setAll (row.set p.1.toNat p.2) ps).length = _
    rw [setAll_len ps, List.length_set]
theorem setAll_other {i : Nat} : ∀ (ps : List (Int × Int)) (row : List Int), i ∉ ps.map (fun p => p.1.toNat) → (setAll row ps)[i]? = row[i]?
  | [], row, _ => rfl
  | p :: ps, row, h => by
    rw [List.map_cons, List.mem_cons, not_or] at h
    show (setAll (row.set p.1.toNat p.2) ps)[i]? = _
    rw [setAll_other ps _ h.2, List.getElem?_set_ne (fun e => h.1 e.symm)]
theorem setAll_at {p : Int × Int} : ∀ (ps : List (Int × Int)) (row : List Int), (ps.map fun p => p.1.toNat).Nodup → p ∈ ps → p.1.toNat < row.length → (setAll row ps)[p.1.toNat]? = some p.2
  | q :: ps, row, hn, hm, hl => by
    rw [List.map_cons, List.nodup_cons] at hn
    show (setAll (row.set q.1.toNat q.2) ps)[p.1.toNat]? = _
    rcases List.mem_cons.mp hm with e | hm
    · subst e
      rw [setAll_other ps _ hn.1, List.getElem?_set_self hl]
    · exact setAll_at ps _ hn.2 hm (by rw [List.length_set]; exact hl)
theorem perm_of_sub : ∀ {l m : List Int}, l.Nodup → (∀ x ∈ l, x ∈ m) → m.length = l.length → l.Perm m
  | [], m, _, _, h => by
    have : m = [] := List.eq_nil_of_length_eq_zero h
    rw [this]
  | x :: l, m, hn, hs, h => by
    obtain ⟨u, v, e⟩ := List.append_of_mem (hs x List.mem_cons_self)
    rw [List.nodup_cons] at hn
    have hp : (u ++ x :: v).Perm (x :: (u ++ v)) := List.perm_middle
    have hl := hp.length_eq
    rw [← e, h] at hl
    have ih := perm_of_sub (l := l) (m := u ++ v) hn.2 (fun y hy => by
      have := hs y (List.mem_cons_of_mem _ hy)
      rw [e] at this
      rcases List.mem_cons.mp (hp.mem_iff.mp this) with h1 | h1
      · exact absurd (h1 ▸ hy) hn.1
      · exact h1) (by simpa using hl.symm)
    rw [e]
    exact (ih.cons x).trans hp.symm
structure PlcI (row L : List Int) : Prop where
  nr : row.Nodup
  nl : L.Nodup
  sub : ∀ x ∈ L, x ∈ row
theorem PlcI.perm {row L : List Int} : (plcR row L).Perm (L.map fun x => ((row.idxOf x : Nat) : Int)) := List.mergeSort_perm _ leI
theorem PlcI.len {row L : List Int} : (plcR row L).length = L.length := by rw [PlcI.perm.length_eq, List.length_map]
theorem idxK_inj {r : List Int} {a b : Int} (ha : a ∈ r) (hb : b ∈ r) (h : r.idxOf a = r.idxOf b) : a = b := by
  have h1 := List.getElem_idxOf (List.idxOf_lt_length_of_mem ha)
  have h2 := List.getElem_idxOf (List.idxOf_lt_length_of_mem hb)
  rw [← h1, ← h2]
  simp only [h]
theorem nodup_mapK {α β : Type} {f : α → β} : ∀ {l : List α}, l.Nodup → (∀ a ∈ l, ∀ b ∈ l, f a = f b → a = b) → (l.map f).Nodup
  | [], _, _ => List.nodup_nil
  | a :: l, hn, hf => by
    rw [List.nodup_cons] at hn
    rw [List.map_cons, List.nodup_cons]
    refine ⟨fun hm => ?_, nodup_mapK hn.2 fun x hx y hy => hf x (List.mem_cons_of_mem _ hx) y (List.mem_cons_of_mem _ hy)⟩
    obtain ⟨b, hb, e⟩ := List.mem_map.mp hm
    exact hn.1 (hf b (List.mem_cons_of_mem _ hb) a List.mem_cons_self e ▸ hb)
theorem PlcI.nd {row L : List Int} (h : PlcI row L) : (plcR row L).Nodup := by
  rw [PlcI.perm.nodup_iff]
  exact nodup_mapK h.nl fun x hx y hy e => idxK_inj (h.sub x hx) (h.sub y hy) (by exact Int.ofNat_inj.mp e)
theorem PlcI.toN {row L : List Int} : ∀ p ∈ plcR row L, ∃ x ∈ L, p = ((row.idxOf x : Nat) : Int) := fun p hp => by
  obtain ⟨x, hx, e⟩ := List.mem_map.mp (PlcI.perm.mem_iff.mp hp)
  exact ⟨x, hx, e.symm⟩
theorem zip_fst {α β : Type} : ∀ {a : List α} {b : List β}, a.length = b.length → (a.zip b).map (·.1) = a
  | [], b, h => by simp
  | x :: a, [], h => by simp at h
  | x :: a, y :: b, h => by
    rw [List.zip_cons_cons, List.map_cons, zip_fst (by simpa using h)]
theorem PlcI.zn {row L : List Int} (h : PlcI row L) : (((plcR row L).zip L).map fun p => p.1.toNat).Nodup := by
  have e : ((plcR row L).zip L).map (fun p => p.1.toNat) = (plcR row L).map Int.toNat := by
    have h2 := congrArg (List.map Int.toNat) (zip_fst (a := plcR row L) (b := L) PlcI.len)
    rw [List.map_map] at h2
    exact h2
  rw [e]
  refine nodup_mapK h.nd fun x hx y hy e => ?_
  obtain ⟨u, _, rfl⟩ := PlcI.toN x hx
  obtain ⟨v, _, rfl⟩ := PlcI.toN y hy
  rw [Int.toNat_natCast, Int.toNat_natCast] at e
  rw [e]
/-- what stands where -/
theorem PlcI.at_ {row L : List Int} (h : PlcI row L) {k : Nat} (hk : k < L.length) : (setAll row ((plcR row L).zip L))[((plcR row L).getD k 0).toNat]? = some L[k] := by
  have hk' : k < (plcR row L).length := by rw [PlcI.len]; exact hk
  have hm : ((plcR row L)[k], L[k]) ∈ (plcR row L).zip L := by
    refine List.mem_iff_getElem.mpr ⟨k, by rw [List.length_zip]; omega, ?_⟩
    rw [List.getElem_zip]
  obtain ⟨x, hx, e⟩ := PlcI.toN _ (List.getElem_mem hk')
  have hlt : ((plcR row L)[k]).toNat < row.length := by
    rw [e, Int.toNat_natCast]
    exact List.idxOf_lt_length_of_mem (h.sub x hx)
  rw [gK_lt hk']
  exact setAll_at _ _ h.zn hm hlt
theorem PlcI.off {row L : List Int} (h : PlcI row L) {x : Int} (hx : x ∈ row) (hn : x ∉ L) : (setAll row ((plcR row L).zip L))[row.idxOf x]? = some x := by
  rw [setAll_other]
  · have hlt := List.idxOf_lt_length_of_mem hx
    rw [List.getElem?_eq_getElem hlt, List.getElem_idxOf hlt]
  · intro hm
    obtain ⟨p, hp, e⟩ := List.mem_map.mp hm
    obtain ⟨y, hy, e2⟩ := PlcI.toN _ (List.of_mem_zip (a := p.1) (b := p.2) hp).1
    rw [e2, Int.toNat_natCast] at e
    exact hn (idxK_inj (h.sub y hy) hx e ▸ hy)
theorem PlcI.rowp {row L : List Int} (h : PlcI row L) : row.Perm (setAll row ((plcR row L).zip L)) := by
  refine perm_of_sub h.nr (fun x hx => ?_) (setAll_len _ _)
  by_cases hL : x ∈ L
  · obtain ⟨k, hk, e⟩ := List.mem_iff_getElem.mp hL
    have := h.at_ hk
    rw [e] at this
    exact List.mem_of_getElem? this
  · exact List.mem_of_getElem? (h.off hx hL)
theorem swap_re {T : List (Int × Int)} {x y : Int} : Rp (swapT T) x y ↔ Rp T y x := by
  have key : ∀ {T : List (Int × Int)} {x y : Int}, Rp T x y → Rp (swapT T) y x := fun {T x y} h => by
    induction h with
    | refl => exact .refl
    | tail _ e ih => exact Rp.trans (.tail .refl (List.mem_map.mpr ⟨_, e, rfl⟩)) ih
  constructor
  · intro h
    have := key h
    have e : swapT (swapT T) = T := by
      unfold swapT
      rw [List.map_map]
      conv => rhs; rw [← List.map_id T]
      exact List.map_congr_left fun p _ => rfl
    rw [e] at this
    exact this
  · exact key
theorem chg_plc {T : List (Int × Int)} {row : List Int} (hn : row.Nodup) {a b : Int} (hno : ¬ Rp T b a) : PlcI row (befR row b (reB (swapT T) a) ++ aftR row a (reB T b)) := by
  refine ⟨hn, List.nodup_append.mpr ⟨(hn.sublist (List.drop_sublist _ _)).filter _, (hn.sublist (List.take_sublist _ _)).filter _, fun x hx y hy e => ?_⟩, fun x hx => ?_⟩
  · subst e
    have h1 := reB_iff.mp (List.mem_filter.mp hx).2
    have h2 := reB_iff.mp (List.mem_filter.mp hy).2
    exact hno (h2.trans (swap_re.mp h1))
  · rcases List.mem_append.mp hx with h | h
    · exact List.mem_of_mem_drop (List.mem_filter.mp h).1
    · exact List.mem_of_mem_take (List.mem_filter.mp h).1
theorem chg_row {m : Nat} {T : List (Int × Int)} {row : List Int} (hr : RowOk m row) {a b : Int} (hno : ¬ Rp T b a) : RowOk m (chgR row a b (reB T b) (reB (swapT T) a)) :=
  ⟨((chg_plc hr.nodup hno).rowp.symm).trans hr.p⟩
/-! an arrow comes -/
inductive Did where
  | fits | ring (q : List Int) | moved (row : List Int)
def didD (p : Int × Int) : Did → D
  | .fits => .ktup [.str "fits"]
  | .ring q => .tup [.str "ring", .lst ((p.1 :: q).map .int)]
  | .moved row => .tup [.str "moved", rowD row]
def addT (T : List (Int × Int)) (p : Int × Int) : List (Int × Int) := if p ∈ T then T else T ++ [p]
theorem mem_addT {T : List (Int × Int)} {p q : Int × Int} : q ∈ addT T p ↔ q ∈ T ∨ q = p := by
  unfold addT
  split
  · rename_i h
    exact ⟨.inl, fun h2 => h2.elim id fun e => e ▸ h⟩
  · rw [List.mem_append, List.mem_singleton]
theorem addT_ok {m : Nat} {T : List (Int × Int)} (h : PrsOk m T) {p : Int × Int} (hp : InM m p.1 ∧ InM m p.2) : PrsOk m (addT T p) := ⟨fun q hq => by
  rcases mem_addT.mp hq with h1 | rfl
  · exact h.rg q h1
  · exact hp⟩
theorem key_inj {p q : Int × Int} (h : ([.inl p.1, .inl p.2] : List Key) = [.inl q.1, .inl q.2]) : p = q := by
  have h := List.cons.inj h
  have h2 := List.cons.inj h.2
  exact Prod.ext (Sum.inl.inj h.1) (Sum.inl.inj h2.1)
theorem put_tK {T : List (Int × Int)} {p : Int × Int} : putA (tK T) [.inl p.1, .inl p.2] (.bl true) = tK (addT T p) := by
  unfold addT
  by_cases h : p ∈ T
  · rw [if_pos h]
    unfold putA
    rw [if_pos]
    · unfold tK
      rw [List.map_map]
      refine List.map_congr_left fun q hq => ?_
      show (if (([.inl q.1, .inl q.2] : List Key)) = [.inl p.1, .inl p.2] then _ else _) = _
      split
      · rename_i e; rfl
      · rfl
    · exact List.any_eq_true.mpr ⟨_, List.mem_map.mpr ⟨p, h, rfl⟩, decide_eq_true rfl⟩
  · rw [if_neg h, putA_new (fun hm => h (by
      unfold tK at hm
      rw [List.map_map] at hm
      obtain ⟨q, hq, e⟩ := List.mem_map.mp hm
      have := key_inj (p := q) (q := p) e
      exact this ▸ hq))]
    unfold tK
    rw [List.map_append]; rfl
def StepR (row : List Int) (T : List (Int × Int)) (p : Int × Int) (d : Did) (row' : List Int) (T' : List (Int × Int)) : Prop :=
  (row.idxOf p.1 < row.idxOf p.2 ∧ d = .fits ∧ row' = row ∧ T' = addT T p) ∨
  (¬ row.idxOf p.1 < row.idxOf p.2 ∧ Rp T p.2 p.1 ∧ (∃ q, d = .ring q ∧ RingT T p.1 p.2 q) ∧ row' = row ∧ T' = T) ∨
  (¬ row.idxOf p.1 < row.idxOf p.2 ∧ ¬ Rp T p.2 p.1 ∧ d = .moved row' ∧ row' = chgR row p.1 p.2 (reB T p.2) (reB (swapT T) p.1) ∧ T' = addT T p)
theorem fm_come_ok {m : Nat} {T : List (Int × Int)} (ht : PrsOk m T) (hl : T.length ≤ 100) (hm : m ≤ 12) {row : List Int} (hr : RowOk m row) {p : Int × Int} (hp : InM m p.1 ∧ InM m p.2) (hne : p.1 ≠ p.2) :
    ∃ d row' T', fm_Keeper_come [.ow (.li (row.map .int)), .ow (.ti (tK T))] [.int p.1, .int p.2] = some (didD p d, [.ow (.li (row'.map .int)), .ow (.ti (tK T'))]) ∧ StepR row T p d row' T' := by
  have i1 := ixL (hr.mem.mpr hp.1)
  have i2 := ixL (hr.mem.mpr hp.2)
  have ty : tyD "list" (.lst (row.map D.int)) = true := rfl
  have pt := put_tK (T := T) (p := p)
  have hbig : (tK T).length < big := by
    unfold tK
    rw [List.length_map]
    show T.length < 16777216
    omega
  by_cases hlt : row.idxOf p.1 < row.idxOf p.2
  · refine ⟨.fits, row, addT T p, ?_, .inl ⟨hlt, rfl, rfl, rfl⟩⟩
    have hlt : ((row.idxOf p.1 : Nat) : Int) < ((row.idxOf p.2 : Nat) : Int) := by omega
    generalize row.map D.int = RD at *
    generalize tK (addT T p) = TD2 at *
    generalize tK T = TD at *
    unfold fm_Keeper_come
    rw [y_fmOf]
    simp [sem_Keeper_come, initM, i1, i2, ty, hlt, hbig, pt, didD]
  · have hlt2 : ¬ ((row.idxOf p.1 : Nat) : Int) < ((row.idxOf p.2 : Nat) : Int) := by omega
    obtain ⟨found, e1, hI, hre⟩ := fm_led_ok ht hm hp.2 (.ow (.li (row.map .int))) (.ow (.ti (tK T)))
    have hfl := hI.len ht hp.2
    have k1 : fListK [.dt ((tK T).map (·.1)) ((tK T).map (·.2))] = .ow (.li (T.map pqE)) := by
      have := y_listDT (ks := (tK T).map (·.1)) (l := (tK T).map (·.2)) (by
        show ((tK T).map (·.1)).all _ = true
        rw [List.all_eq_true]
        intro x hx
        obtain ⟨y, hy, rfl⟩ := List.mem_map.mp hx
        obtain ⟨z, _, rfl⟩ := List.mem_map.mp hy
        rfl)
      rw [this]
      congr 2
      unfold tK
      rw [List.map_map, List.map_map]; rfl
    have hin := in_fK p.1 found
    by_cases hR : Rp T p.2 p.1
    · obtain ⟨q, e2, hq⟩ := fm_ring_by_ok hI (by omega) ((hre p.1).mpr hR) hne (.ow (.li (row.map .int))) (.ow (.ti (tK T)))
      refine ⟨.ring q, row, T, ?_, .inr (.inl ⟨hlt, hR, ⟨q, rfl, hq⟩, rfl, rfl⟩)⟩
      rw [decide_eq_true ((hre p.1).mpr hR)] at hin
      show _ = some (D.tup [.str "ring", .lst ((p.1 :: q).map .int)], _)
      generalize (p.1 :: q).map D.int = QD at *
      generalize fkD found = FD at *
      generalize row.map D.int = RD at *
      generalize T.map pqE = TP at *
      generalize tK T = TD at *
      unfold fm_Keeper_come
      rw [y_fmOf]
      simp [sem_Keeper_come, initM, i1, i2, ty, hlt2, k1, e1, hin, e2, -List.map_map]
    · have e2 := fm_change_ok ht hm hr hp.1 hp.2 hI hre
      refine ⟨.moved (chgR row p.1 p.2 (reB T p.2) (reB (swapT T) p.1)), chgR row p.1 p.2 (reB T p.2) (reB (swapT T) p.1), addT T p, ?_, .inr (.inr ⟨hlt, hR, rfl, rfl, rfl⟩)⟩
      rw [decide_eq_false (fun h => hR ((hre p.1).mp h))] at hin
      show _ = some (D.tup [.str "moved", rowD (chgR row p.1 p.2 (reB T p.2) (reB (swapT T) p.1))], _)
      generalize chgR row p.1 p.2 (reB T p.2) (reB (swapT T) p.1) = row' at *
      have tp : fTup [.lst (row'.map D.int)] = .fz (rowD row') := rfl
      generalize rowD row' = RW at *
      generalize row'.map D.int = RD2 at *
      generalize fkD found = FD at *
      generalize row.map D.int = RD at *
      generalize T.map pqE = TP at *
      generalize tK (addT T p) = TD2 at *
      generalize tK T = TD at *
      unfold fm_Keeper_come
      rw [y_fmOf]
      simp [sem_Keeper_come, initM, i1, i2, ty, hlt2, k1, e1, hin, e2, hbig, pt, tp, -List.map_map]
end Fw

set_option Elab.async false
set_option linter.all false
set_option maxRecDepth 100000
set_option maxHeartbeats 2000000
namespace Fw
open PySem PySem.Spec PyProof.Rows L2 Pv
open PySem.W (Datum DatumOrd Tup T3 T4)
/-! all arrows come -/
inductive RunR : List Int → List (Int × Int) → List (Int × Int) → List Did → List Int → List (Int × Int) → Prop
  | nil {row : List Int} {T : List (Int × Int)} : RunR row T [] [] row T
  | cons {row row1 row2 : List Int} {T T1 T2 : List (Int × Int)} {p : Int × Int} {d : Did} {ps : List (Int × Int)} {ds : List Did} : StepR row T p d row1 T1 → RunR row1 T1 ps ds row2 T2 → RunR row T (p :: ps) (d :: ds) row2 T2
def PairOk (m : Nat) (p : Int × Int) : Prop := (InM m p.1 ∧ InM m p.2) ∧ p.1 ≠ p.2
theorem StepR.ok {m : Nat} {row row' : List Int} {T T' : List (Int × Int)} {p : Int × Int} {d : Did} (h : StepR row T p d row' T') (hr : RowOk m row) (ht : PrsOk m T) (hp : PairOk m p) : RowOk m row' ∧ PrsOk m T' ∧ T'.length ≤ T.length + 1 := by
  have hlen : (addT T p).length ≤ T.length + 1 := by
    unfold addT
    split
    · omega
    · simp
  rcases h with ⟨_, _, rfl, rfl⟩ | ⟨_, _, _, rfl, rfl⟩ | ⟨_, h1, _, rfl, rfl⟩
  · exact ⟨hr, addT_ok ht hp.1, hlen⟩
  · exact ⟨hr, ht, by omega⟩
  · exact ⟨chg_row hr h1, addT_ok ht hp.1, hlen⟩
theorem RunR.len {row row' : List Int} {T T' : List (Int × Int)} {ps : List (Int × Int)} {ds : List Did} (h : RunR row T ps ds row' T') : ds.length = ps.length := by
  induction h with
  | nil => rfl
  | cons _ _ ih => rw [List.length_cons, List.length_cons, ih]
theorem RunR.rowOk {m : Nat} {row row' : List Int} {T T' : List (Int × Int)} {ps : List (Int × Int)} {ds : List Did} (h : RunR row T ps ds row' T') (hr : RowOk m row) (ht : PrsOk m T) (hp : ∀ p ∈ ps, PairOk m p) : RowOk m row' ∧ PrsOk m T' := by
  induction h with
  | nil => exact ⟨hr, ht⟩
  | cons s _ ih =>
    obtain ⟨h1, h2, _⟩ := s.ok hr ht (hp _ List.mem_cons_self)
    exact ih h1 h2 fun p hp' => hp p (List.mem_cons_of_mem _ hp')
def didsD (ps : List (Int × Int)) (ds : List Did) : List D := List.zipWith didD ps ds
theorem is_pair_ok {m : Nat} {p : Int × Int} (hp : PairOk m p) : fs_is_pair [pqE p, .int m] = .fz (.bl true) := by
  have i1 : fIsi [pqE p, .ty "tuple"] = .fz (.bl true) := rfl
  have l1 : fLen [pqE p] = .fz (.int 2) := rfl
  have q1 : opNe (.int 2) (.int 2) = some (.bl false) := by rw [opNe_is (is_int 2) (is_int 2) (by decide), decide_eq_true rfl]; rfl
  have b1 := fs_between_int p.1 0 ((m : Int) - 1)
  have b2 := fs_between_int p.2 0 ((m : Int) - 1)
  obtain ⟨⟨⟨h1, h2⟩, h3, h4⟩, h5⟩ := hp
  rw [decide_eq_true (by omega)] at b1 b2
  have c1 : runComp (bN 2) tTrue ce_is_pair_1 [2] [.int p.1, .int p.2] [.fz (pqE p), .fz (.int m), .un] = some ([.bl true, .bl true], [.fz (pqE p), .fz (.int m), .un]) := by
    have := runComp_map (b := bN 2) (c := tTrue) (e := ce_is_pair_1) (vs := [2]) (enc := fun x : Int => D.int x) [.fz (pqE p), .fz (.int m), .un] (fun _ => some (D.bl true)) [p.1, p.2] fun x hx => by
      have b : fs_between [.int x, .int 0, .int ((m : Int) - 1)] = .fz (.bl true) := by
        rcases List.mem_cons.mp hx with rfl | hx
        · exact b1
        · rw [List.mem_singleton] at hx; subst hx; exact b2
      refine ⟨_, rfl, .inr ⟨rfl, _, [.fz (pqE p), .fz (.int m), .fz (.int x)], ?_, rfl, rfl⟩⟩
      generalize pqE p = PD at *
      simp [ce_is_pair_1, b]
    exact this
  have f1 : fAll [.lst [.bl true, .bl true]] = .fz (.bl true) := rfl
  have x0 : opIx (pqE p) (.int 0) = some (.int p.1) := rfl
  have x1 : opIx (pqE p) (.int 1) = some (.int p.2) := rfl
  have q2 : opNe (.int p.1) (.int p.2) = some (.bl true) := by rw [opNe_is (is_int p.1) (is_int p.2) (by decide), decide_eq_false h5]; rfl
  have ht : tupOf (pqE p) = some [.int p.1, .int p.2] := rfl
  generalize pqE p = PD at *
  simp only [fs_is_pair, fsOf, sem_is_pair, initE]
  simp [i1, l1, q1, ht, c1, f1, x0, x1, q2]
abbrev Av (m : Nat) (PL : List D) (row : List Int) (T : List (Int × Int)) : Envi := [.fz (.int (m : Nat)), .fz (.lst PL), .un, .self, .un, .ow (.li (row.map .int)), .ow (.ti (tK T))]
theorem come_comp {m : Nat} (hm : m ≤ 12) (PL : List D) : ∀ (ps : List (Int × Int)) (row : List Int) (T : List (Int × Int)), (∀ p ∈ ps, PairOk m p) → RowOk m row → PrsOk m T → T.length + ps.length ≤ 100 →
    ∃ ds row' T', runComp (bN 2) tTrue ce_all_come_2 [2] (ps.map pqE) (Av m PL row T) = some (didsD ps ds, Av m PL row' T') ∧ RunR row T ps ds row' T'
  | [], row, T, _, _, _, _ => ⟨[], row, T, rfl, .nil⟩
  | p :: ps, row, T, hp, hr, ht, hl => by
    rw [List.length_cons] at hl
    have hpp := hp p List.mem_cons_self
    obtain ⟨d, row1, T1, e1, s1⟩ := fm_come_ok ht (by omega) hm hr hpp.1 hpp.2
    obtain ⟨h1, h2, h3⟩ := s1.ok hr ht hpp
    obtain ⟨ds, row2, T2, e2, r2⟩ := come_comp hm PL ps row1 T1 (fun q hq => hp q (List.mem_cons_of_mem _ hq)) h1 h2 (by omega)
    refine ⟨d :: ds, row2, T2, ?_, .cons s1 r2⟩
    have he : eMat ce_all_come_2 [.fz (.int (m : Nat)), .fz (.lst PL), .fz (pqE p), .self, .un, .ow (.li (row.map .int)), .ow (.ti (tK T))] = .ok (.dat (didD p d)) [.fz (.int (m : Nat)), .fz (.lst PL), .fz (pqE p), .self, .un, .ow (.li (row1.map .int)), .ow (.ti (tK T1))] := by
      have x0 : opIx (pqE p) (.int 0) = some (.int p.1) := rfl
      have x1 : opIx (pqE p) (.int 1) = some (.int p.2) := rfl
      generalize pqE p = PD at *
      generalize didD p d = DD at *
      generalize row.map D.int = RD at *
      generalize row1.map D.int = RD1 at *
      generalize tK T = TD at *
      generalize tK T1 = TD1 at *
      simp [ce_all_come_2, x0, x1, e1]
    rw [List.map_cons]
    unfold runComp
    have hb : bN 2 (pqE p) (Av m PL row T) = some [.fz (.int (m : Nat)), .fz (.lst PL), .fz (pqE p), .self, .un, .ow (.li (row.map .int)), .ow (.ti (tK T))] := rfl
    rw [hb]
    have ht : tTrue [.fz (.int (m : Nat)), .fz (.lst PL), .fz (pqE p), .self, .un, .ow (.li (row.map .int)), .ow (.ti (tK T))] = .ok true [.fz (.int (m : Nat)), .fz (.lst PL), .fz (pqE p), .self, .un, .ow (.li (row.map .int)), .ow (.ti (tK T))] := rfl
    dsimp only
    rw [ht]
    dsimp only
    rw [he]
    dsimp only
    have hw : wipeE [.fz (.int (m : Nat)), .fz (.lst PL), .fz (pqE p), .self, .un, .ow (.li (row1.map .int)), .ow (.ti (tK T1))] [2] = Av m PL row1 T1 := rfl
    rw [hw, e2]
    rfl
theorem fs_all_come_ok {m : Nat} (h1 : 1 ≤ m) (hm : m ≤ 12) {ps : List (Int × Int)} (hl : ps.length ≤ 60) (hp : ∀ p ∈ ps, PairOk m p) :
    ∃ ds row T, RunR (intsN m) [] ps ds row T ∧ fs_all_come [.int m, .lst (ps.map pqE)] = .fz (.tup [.lst (didsD ps ds), rowD row]) := by
  obtain ⟨ds, row, T, e1, r⟩ := come_comp hm (ps.map pqE) ps (intsN m) [] hp (rowOk_ints m) ⟨fun p hp => nomatch hp⟩ (by simp; omega)
  refine ⟨ds, row, T, r, ?_⟩
  have b1 := fs_between_int (m : Int) 1 12
  rw [decide_eq_true (by omega)] at b1
  have i1 : fIsi [.lst (ps.map pqE), .ty "list"] = .fz (.bl true) := rfl
  have l1 : fLen [.lst (ps.map pqE)] = .fz (.int (ps.length : Nat)) := by
    show Rf.fz (.int ((ps.map pqE).length : Nat)) = _
    rw [List.length_map]
  have c0 : runComp (bN 2) tTrue ce_all_come_1 [2] (ps.map pqE) [.fz (.int (m : Nat)), .fz (.lst (ps.map pqE)), .un, .un, .un] = some (ps.map (fun _ => D.bl true), [.fz (.int (m : Nat)), .fz (.lst (ps.map pqE)), .un, .un, .un]) := by
    rw [runComp_map (enc := pqE) (F := fun _ => some (D.bl true))]
    · rw [List.filterMap_eq_map']
    · intro p hpm
      have e := is_pair_ok (hp p hpm)
      refine ⟨_, rfl, .inr ⟨rfl, _, [.fz (.int (m : Nat)), .fz (.lst (ps.map pqE)), .fz (pqE p), .un, .un], ?_, rfl, rfl⟩⟩
      generalize pqE p = PD at *
      generalize ps.map pqE = PL at *
      simp [ce_all_come_1, e]
  have f1 : fAll [.lst (ps.map fun _ => D.bl true)] = .fz (.bl true) := fAll_true fun d hd => by
    obtain ⟨_, _, rfl⟩ := List.mem_map.mp hd
    rfl
  have hgt : ¬ (60 : Int) < (ps.length : Nat) := by omega
  have sm : SmallI (m : Int) := smallI_nat (small_of (by omega))
  have ini : fm_Keeper_init (unsN 2) [.int (m : Nat)] = some (.non, [.ow (.li ((intsN m).map .int)), .ow (.ti (tK []))]) := by
    rw [← nats_intsN]
    have ht : tK [] = [] := rfl
    rw [ht]
    unfold fm_Keeper_init
    rw [y_fmOf]
    simp [sem_Keeper_init, initM, unsN, sm]
  have tp : fTup [.lst (row.map D.int)] = .fz (rowD row) := rfl
  dsimp only [Av] at e1
  generalize (ps.map fun _ => D.bl true) = BL at *
  generalize ps.map pqE = PL at *
  generalize didsD ps ds = DD at *
  generalize rowD row = RW at *
  generalize row.map D.int = RD at *
  generalize (intsN m).map D.int = R0 at *
  generalize tK [] = T0 at *
  generalize tK T = TD at *
  simp only [fs_all_come, fsOf, sem_all_come, initE]
  simp [b1, i1, l1, c0, f1, hgt, ini, e1, tp]
theorem fs_kept_ok {m : Nat} (h1 : 1 ≤ m) (hm : m ≤ 12) {ps : List (Int × Int)} (hl : ps.length ≤ 60) (hp : ∀ p ∈ ps, PairOk m p) :
    ∃ ds row T, RunR (intsN m) [] ps ds row T ∧ fs_kept [.int m, .lst (ps.map pqE)] = .fz (.lst (didsD ps ds)) ∧ fs_row_behind [.int m, .lst (ps.map pqE)] = .fz (rowD row) := by
  obtain ⟨ds, row, T, r, e⟩ := fs_all_come_ok h1 hm hl hp
  refine ⟨ds, row, T, r, ?_, ?_⟩
  · have x0 : opIx (.tup [.lst (didsD ps ds), rowD row]) (.int 0) = some (.lst (didsD ps ds)) := rfl
    generalize D.tup [.lst (didsD ps ds), rowD row] = TT at *
    generalize ps.map pqE = PL at *
    simp only [fs_kept, fsOf, sem_kept, initE]
    simp [e, x0]
  · have x1 : opIx (.tup [.lst (didsD ps ds), rowD row]) (.int 1) = some (rowD row) := rfl
    generalize D.tup [.lst (didsD ps ds), rowD row] = TT at *
    generalize rowD row = RW at *
    generalize ps.map pqE = PL at *
    simp only [fs_row_behind, fsOf, sem_row_behind, initE]
    simp [e, x1]
/-! the law's pairs -/
theorem pairs_loop (s : List Int) (at_ m most sd : Nat) (hm : 0 < m) (x3 : Slot) (hsd : sd < 1000000000) : ∀ (ks : List Nat) (ps : List (Int × Int)) (x6 x7 x8 x9 : Slot), (∀ k ∈ ks, k ≤ 100) → (∀ p ∈ ps, PairOk m p) → ps.length + ks.length ≤ 200 →
    ∃ (ps' : List (Int × Int)) (y6 y7 y8 y9 : Slot), runFor (bN 6) bd_L_pairs_1 (ks.map fun k : Nat => D.int (k : Int)) [.fz (.klst (s.map .int)), .fz (.int at_), .fz (.int m), x3, .fz (.int sd), .ow (.li (ps.map pqE)), x6, x7, x8, x9] = .nx [.fz (.klst (s.map .int)), .fz (.int at_), .fz (.int m), x3, .fz (.int sd), .ow (.li (ps'.map pqE)), y6, y7, y8, y9] ∧ (∀ p ∈ ps', PairOk m p) ∧ ps'.length ≤ ps.length + ks.length
  | [], ps, x6, x7, x8, x9, _, hp, _ => ⟨ps, x6, x7, x8, x9, rfl, hp, by simp⟩
  | k :: ks, ps, x6, x7, x8, x9, hk, hp, hl => by
    rw [List.length_cons] at hl
    have hk0 := hk k List.mem_cons_self
    obtain ⟨dr, hdr⟩ : ∃ dr : Nat, (dr : Int) = ((sd : Int) + 104729 * (k : Int) * (k : Int) + 7919 * (k : Int)) * 48271 % 2147483647 := by
      have h0 : (0 : Int) ≤ ((sd : Int) + 104729 * (k : Int) * (k : Int) + 7919 * (k : Int)) * 48271 % 2147483647 := Int.emod_nonneg _ (by decide)
      exact ⟨_, Int.toNat_of_nonneg h0⟩
    have hdl : dr < 2147483647 := by
      have : ((sd : Int) + 104729 * (k : Int) * (k : Int) + 7919 * (k : Int)) * 48271 % 2147483647 < 2147483647 := Int.emod_lt_of_pos _ (by decide)
      omega
    obtain ⟨a, ha⟩ : ∃ a : Nat, a = dr / 7 % m := ⟨_, rfl⟩
    obtain ⟨b, hb⟩ : ∃ b : Nat, b = dr / 997 % m := ⟨_, rfl⟩
    have hai : (dr : Int) / 7 % (m : Int) = (a : Int) := by rw [ha]; push_cast; rfl
    have hbi : (dr : Int) / 997 % (m : Int) = (b : Int) := by rw [hb]; push_cast; rfl
    have ham : a < m := by rw [ha]; exact Nat.mod_lt _ hm
    have hbm : b < m := by rw [hb]; exact Nat.mod_lt _ hm
    have c1 : L2.CDivW (dr : Int) 7 := ⟨by decide, by decide⟩
    have c2 : L2.CDivW (dr : Int) 997 := ⟨by decide, by decide⟩
    have kk : (k : Int) ≤ 100 := by omega
    have kk2 : (104729 * (k : Int)) * (k : Int) ≤ 104729 * 100 * 100 := by
      have h1 : (104729 * (k : Int)) ≤ 104729 * 100 := by omega
      exact Int.mul_le_mul h1 kk (by omega) (by omega)
    have kk0 : (0 : Int) ≤ (104729 * (k : Int)) * (k : Int) := Int.mul_nonneg (by omega) (by omega)
    have m1 : L2.CMul 104729 (k : Int) := .inl ⟨by omega, by omega⟩
    have m2 : L2.CMul (104729 * (k : Int)) (k : Int) := .inl ⟨by omega, by omega⟩
    have m3 : L2.CMul 7919 (k : Int) := .inl ⟨by omega, by omega⟩
    have m4 : L2.CMul ((sd : Int) + 104729 * (k : Int) * (k : Int) + 7919 * (k : Int)) 48271 := .inl ⟨by omega, by omega⟩
    by_cases hab : a = b
    · obtain ⟨ps', y6, y7, y8, y9, e, h1, h2⟩ := pairs_loop s at_ m most sd hm x3 hsd ks ps (.fz (.int (k : Nat))) (.fz (.int (dr : Nat))) (.fz (.int (a : Nat))) (.fz (.int (b : Nat))) (fun j hj => hk j (List.mem_cons_of_mem _ hj)) hp (by omega)
      refine ⟨ps', y6, y7, y8, y9, ?_, h1, by rw [List.length_cons]; omega⟩
      have q : opNe (.int (a : Nat)) (.int (b : Nat)) = some (.bl false) := by rw [opNe_is (is_int _) (is_int _) (by decide), decide_eq_true (by omega)]; rfl
      have hb : bd_L_pairs_1 [.fz (.klst (s.map .int)), .fz (.int at_), .fz (.int m), x3, .fz (.int sd), .ow (.li (ps.map pqE)), .fz (.int (k : Nat)), x7, x8, x9] = .nx [.fz (.klst (s.map .int)), .fz (.int at_), .fz (.int m), x3, .fz (.int sd), .ow (.li (ps.map pqE)), .fz (.int (k : Nat)), .fz (.int (dr : Nat)), .fz (.int (a : Nat)), .fz (.int (b : Nat))] := by
        generalize ps.map pqE = PL at *
        generalize s.map D.int = S at *
        simp [bd_L_pairs_1, m1, m2, m3, m4, ← hdr, c1, c2, hai, hbi, q, hm]
      rw [List.map_cons, runFor_nx (ρ1 := [.fz (.klst (s.map .int)), .fz (.int at_), .fz (.int m), x3, .fz (.int sd), .ow (.li (ps.map pqE)), .fz (.int (k : Nat)), x7, x8, x9]) rfl hb, e]
    · obtain ⟨ps', y6, y7, y8, y9, e, h1, h2⟩ := pairs_loop s at_ m most sd hm x3 hsd ks (ps ++ [((a : Int), (b : Int))]) (.fz (.int (k : Nat))) (.fz (.int (dr : Nat))) (.fz (.int (a : Nat))) (.fz (.int (b : Nat))) (fun j hj => hk j (List.mem_cons_of_mem _ hj)) (fun p hpm => by
        rcases List.mem_append.mp hpm with h | h
        · exact hp p h
        · rw [List.mem_singleton] at h
          subst h
          exact ⟨⟨⟨by dsimp only; omega, by dsimp only; omega⟩, ⟨by dsimp only; omega, by dsimp only; omega⟩⟩, by dsimp only; omega⟩) (by rw [List.length_append, List.length_singleton]; omega)
      rw [List.length_append, List.length_singleton] at h2
      refine ⟨ps', y6, y7, y8, y9, ?_, h1, by rw [List.length_cons]; omega⟩
      have q : opNe (.int (a : Nat)) (.int (b : Nat)) = some (.bl true) := by rw [opNe_is (is_int _) (is_int _) (by decide), decide_eq_false (by omega)]; rfl
      have hb : bd_L_pairs_1 [.fz (.klst (s.map .int)), .fz (.int at_), .fz (.int m), x3, .fz (.int sd), .ow (.li (ps.map pqE)), .fz (.int (k : Nat)), x7, x8, x9] = .nx [.fz (.klst (s.map .int)), .fz (.int at_), .fz (.int m), x3, .fz (.int sd), .ow (.li ((ps ++ [((a : Int), (b : Int))]).map pqE)), .fz (.int (k : Nat)), .fz (.int (dr : Nat)), .fz (.int (a : Nat)), .fz (.int (b : Nat))] := by
        have hsl : Small (ps.map pqE).length := by rw [List.length_map]; exact small_of (by omega)
        have hre : (ps ++ [((a : Int), (b : Int))]).map pqE = ps.map pqE ++ [.tup [.int (a : Nat), .int (b : Nat)]] := by rw [List.map_append]; rfl
        rw [hre]
        generalize ps.map pqE = PL at *
        generalize s.map D.int = S at *
        simp [bd_L_pairs_1, m1, m2, m3, m4, ← hdr, c1, c2, hai, hbi, q, hm, hsl]
      rw [List.map_cons, runFor_nx (ρ1 := [.fz (.klst (s.map .int)), .fz (.int at_), .fz (.int m), x3, .fz (.int sd), .ow (.li (ps.map pqE)), .fz (.int (k : Nat)), x7, x8, x9]) rfl hb, e]
theorem fs_L_pairs_ok (s : List Int) (at_ m most : Nat) (hm : 0 < m) (hmost : most ≤ 60) : ∃ ps : List (Int × Int), fs_L_pairs [.klst (s.map .int), .int at_, .int m, .int most] = .fz (.lst (ps.map pqE)) ∧ (∀ p ∈ ps, PairOk m p) ∧ ps.length ≤ most := by
  have e1 := fs_L_mixed_eq s at_ 1000000000 (by decide)
  have e1 : fs_L_mixed [.klst (s.map .int), .int at_, .int 1000000000] = _ := e1
  have l1 := mixed_lt (s := s) (k := at_) (m := 1000000000) (by decide)
  have e2 := fs_L_mixed_eq s (at_ + 1) (most + 1) (by omega)
  have e2 : fs_L_mixed [.klst (s.map .int), .int ((at_ : Int) + 1), .int ((most : Int) + 1)] = _ := e2
  have l2 := mixed_lt (s := s) (k := at_ + 1) (m := most + 1) (by omega)
  generalize mixed s at_ 1000000000 = sd at *
  generalize mixed s (at_ + 1) (most + 1) = cn at *
  have pw : opPow (.int 10) (.int 9) = some (.int 1000000000) := rfl
  obtain ⟨ps, y6, y7, y8, y9, e, h1, h2⟩ := pairs_loop s at_ m most sd hm (.fz (.int most)) l1 (List.range cn) [] .un .un .un .un (fun k hk => by have := List.mem_range.mp hk; omega) (fun p hp => nomatch hp) (by rw [List.length_range]; simp; omega)
  rw [List.length_range] at h2
  refine ⟨ps, ?_, h1, by simp at h2; omega⟩
  have sm : SmallI (cn : Int) := smallI_nat (small_of (by omega))
  have e : runFor (bN 6) bd_L_pairs_1 (nats cn) [.fz (.klst (s.map .int)), .fz (.int at_), .fz (.int m), .fz (.int most), .fz (.int sd), .ow (.li []), .un, .un, .un, .un] = _ := e
  generalize ps.map pqE = PL at *
  generalize s.map D.int = S at *
  simp only [fs_L_pairs, fsOf, sem_L_pairs, initE]
  simp [pw, e1, e2, sm, e]
end Fw

set_option Elab.async false
set_option linter.all false
set_option maxRecDepth 100000
set_option maxHeartbeats 2000000
namespace Fw
open PySem PySem.Spec PyProof.Rows L2 Pv
/-! the row changed keeps the arrows taken -/
theorem ixK_of {l : List Int} (hn : l.Nodup) {k : Nat} {x : Int} (h : l[k]? = some x) : l.idxOf x = k := by
  obtain ⟨hk, e⟩ := List.getElem?_eq_some_iff.mp h
  rw [← e]
  exact ixK_get hn hk
theorem mem_dropK {l : List Int} (hn : l.Nodup) {i : Nat} {x : Int} : x ∈ l.drop i ↔ x ∈ l ∧ i ≤ l.idxOf x := by
  constructor
  · intro h
    refine ⟨List.mem_of_mem_drop h, ?_⟩
    obtain ⟨k, hk, e⟩ := List.mem_iff_getElem.mp h
    rw [List.getElem_drop] at e
    have : l.idxOf x = i + k := ixK_of hn (by rw [← e]; exact List.getElem?_eq_getElem _)
    omega
  · rintro ⟨hm, hi⟩
    have hlt := List.idxOf_lt_length_of_mem hm
    refine List.mem_iff_getElem.mpr ⟨l.idxOf x - i, by rw [List.length_drop]; omega, ?_⟩
    rw [List.getElem_drop]
    have : i + (l.idxOf x - i) = l.idxOf x := by omega
    simp only [this]
    exact List.getElem_idxOf hlt
theorem mem_takeK {l : List Int} (hn : l.Nodup) {i : Nat} {x : Int} : x ∈ l.take i ↔ x ∈ l ∧ l.idxOf x < i := by
  constructor
  · intro h
    refine ⟨List.mem_of_mem_take h, ?_⟩
    obtain ⟨k, hk, e⟩ := List.mem_iff_getElem.mp h
    rw [List.length_take] at hk
    rw [List.getElem_take] at e
    have : l.idxOf x = k := ixK_of hn (by rw [← e]; exact List.getElem?_eq_getElem _)
    omega
  · rintro ⟨hm, hi⟩
    have hlt := List.idxOf_lt_length_of_mem hm
    refine List.mem_iff_getElem.mpr ⟨l.idxOf x, by rw [List.length_take]; omega, ?_⟩
    rw [List.getElem_take]
    exact List.getElem_idxOf hlt
theorem ix_pw {l : List Int} (hn : l.Nodup) : l.Pairwise fun x y => l.idxOf x < l.idxOf y := by
  rw [List.pairwise_iff_getElem]
  intro i j hi hj hij
  rw [ixK_get hn hi, ixK_get hn hj]
  exact hij
theorem PlcI.sorted {row L : List Int} : (plcR row L).Pairwise (· ≤ ·) := by
  have := List.pairwise_mergeSort (le := leI) (fun a b c h1 h2 => by simp [leI] at *; omega) (fun a b => by simp [leI]; omega) (L.map fun x => ((row.idxOf x : Nat) : Int))
  exact this.imp fun h => by simpa [leI] using h
theorem PlcI.strict {row L : List Int} (h : PlcI row L) : (plcR row L).Pairwise (· < ·) := by
  have h1 := PlcI.sorted (row := row) (L := L)
  have h2 := h.nd
  rw [List.Nodup] at h2
  exact (h1.and h2).imp fun ⟨a, b⟩ => by omega
/-- the place of the k-th -/
def posK (row L : List Int) (k : Nat) : Nat := ((plcR row L).getD k 0).toNat
theorem PlcI.pos {row L : List Int} (h : PlcI row L) {k : Nat} (hk : k < L.length) : ((plcR row L).getD k 0) = (posK row L k : Int) ∧ ∃ x ∈ L, row.idxOf x = posK row L k := by
  have hk' : k < (plcR row L).length := by rw [PlcI.len]; exact hk
  obtain ⟨x, hx, e⟩ := PlcI.toN _ (List.getElem_mem hk')
  unfold posK
  rw [gK_lt hk', e]
  exact ⟨by omega, x, hx, by omega⟩
theorem PlcI.mono {row L : List Int} (h : PlcI row L) {j k : Nat} (hjk : j < k) (hk : k < L.length) : posK row L j < posK row L k := by
  have e1 := (h.pos (k := j) (by omega)).1
  have e2 := (h.pos hk).1
  have hk' : k < (plcR row L).length := by rw [PlcI.len]; exact hk
  have := (List.pairwise_iff_getElem.mp h.strict) j k (by omega) hk' hjk
  rw [gK_lt (by omega)] at e1
  rw [gK_lt hk'] at e2
  omega
theorem PlcI.new {row L : List Int} (h : PlcI row L) {k : Nat} (hk : k < L.length) : (setAll row ((plcR row L).zip L)).idxOf L[k] = posK row L k :=
  ixK_of (h.rowp.nodup_iff.mp h.nr) (h.at_ hk)
theorem PlcI.stay {row L : List Int} (h : PlcI row L) {x : Int} (hx : x ∈ row) (hn : x ∉ L) : (setAll row ((plcR row L).zip L)).idxOf x = row.idxOf x :=
  ixK_of (h.rowp.nodup_iff.mp h.nr) (h.off hx hn)
/-- those ahead go no further behind -/
theorem PlcI.ahead {row B A : List Int} (h : PlcI row (B ++ A)) (hB : B.Pairwise fun x y => row.idxOf x < row.idxOf y) {k : Nat} (hk : k < B.length) : posK row (B ++ A) k ≤ row.idxOf B[k] := by
  refine Decidable.byContradiction fun hc => ?_
  have hk1 : k < (B ++ A).length := by rw [List.length_append]; omega
  obtain ⟨e1, _⟩ := h.pos hk1
  have hk' : k < (plcR row (B ++ A)).length := by rw [PlcI.len]; exact hk1
  have hnd : (B.take (k + 1)).Nodup := (List.nodup_append.mp h.nl).1.sublist (List.take_sublist _ _)
  have hmap : ((B.take (k + 1)).map fun x => ((row.idxOf x : Nat) : Int)).Nodup := nodup_mapK hnd fun x hx y hy e => idxK_inj (h.sub x (List.mem_append_left _ (List.mem_of_mem_take hx))) (h.sub y (List.mem_append_left _ (List.mem_of_mem_take hy))) (by exact Int.ofNat_inj.mp e)
  have hs := nodup_sub (m := (plcR row (B ++ A)).take k) hmap fun p hp => by
    obtain ⟨x, hx, rfl⟩ := List.mem_map.mp hp
    have hx2 : row.idxOf x ≤ row.idxOf B[k] := by
      obtain ⟨j, hj, e⟩ := List.mem_iff_getElem.mp hx
      rw [List.length_take] at hj
      rw [List.getElem_take] at e
      by_cases hjk : j = k
      · subst hjk; rw [← e]; omega
      · have := (List.pairwise_iff_getElem.mp hB) j k (by omega) hk (by omega)
        rw [← e]; omega
    have hm : ((row.idxOf x : Nat) : Int) ∈ plcR row (B ++ A) := PlcI.perm.mem_iff.mpr (List.mem_map.mpr ⟨x, List.mem_append_left _ (List.mem_of_mem_take hx), rfl⟩)
    rw [← List.take_append_drop k (plcR row (B ++ A))] at hm
    rcases List.mem_append.mp hm with h1 | h1
    · exact h1
    · exfalso
      obtain ⟨j, hj, e⟩ := List.mem_iff_getElem.mp h1
      rw [List.length_drop] at hj
      rw [List.getElem_drop] at e
      rw [gK_lt hk'] at e1
      by_cases hj0 : j = 0
      · subst hj0
        simp only [Nat.add_zero] at e
        omega
      · have := (List.pairwise_iff_getElem.mp h.strict) k (k + j) hk' (by omega) (by omega)
        omega
  rw [List.length_map, List.length_take, List.length_take] at hs
  omega
theorem PlcI.behind {row B A : List Int} (h : PlcI row (B ++ A)) (hA : A.Pairwise fun x y => row.idxOf x < row.idxOf y) {k : Nat} (hk : k < A.length) : row.idxOf A[k] ≤ posK row (B ++ A) (B.length + k) := by
  refine Decidable.byContradiction fun hc => ?_
  have hk1 : B.length + k < (B ++ A).length := by rw [List.length_append]; omega
  obtain ⟨e1, _⟩ := h.pos hk1
  have hk' : B.length + k < (plcR row (B ++ A)).length := by rw [PlcI.len]; exact hk1
  have hnd : (A.drop k).Nodup := (List.nodup_append.mp h.nl).2.1.sublist (List.drop_sublist _ _)
  have hmap : ((A.drop k).map fun x => ((row.idxOf x : Nat) : Int)).Nodup := nodup_mapK hnd fun x hx y hy e => idxK_inj (h.sub x (List.mem_append_right _ (List.mem_of_mem_drop hx))) (h.sub y (List.mem_append_right _ (List.mem_of_mem_drop hy))) (by exact Int.ofNat_inj.mp e)
  have hs := nodup_sub (m := (plcR row (B ++ A)).drop (B.length + k + 1)) hmap fun p hp => by
    obtain ⟨x, hx, rfl⟩ := List.mem_map.mp hp
    have hx2 : row.idxOf A[k] ≤ row.idxOf x := by
      obtain ⟨j, hj, e⟩ := List.mem_iff_getElem.mp hx
      rw [List.length_drop] at hj
      rw [List.getElem_drop] at e
      by_cases hjk : j = 0
      · subst hjk; simp only [Nat.add_zero] at e; rw [← e]; omega
      · have := (List.pairwise_iff_getElem.mp hA) k (k + j) hk (by omega) (by omega)
        rw [← e]; omega
    have hm : ((row.idxOf x : Nat) : Int) ∈ plcR row (B ++ A) := PlcI.perm.mem_iff.mpr (List.mem_map.mpr ⟨x, List.mem_append_right _ (List.mem_of_mem_drop hx), rfl⟩)
    rw [← List.take_append_drop (B.length + k + 1) (plcR row (B ++ A))] at hm
    rcases List.mem_append.mp hm with h1 | h1
    · exfalso
      obtain ⟨j, hj, e⟩ := List.mem_iff_getElem.mp h1
      rw [List.length_take] at hj
      rw [List.getElem_take] at e
      rw [gK_lt hk'] at e1
      by_cases hj0 : j = B.length + k
      · subst hj0
        omega
      · have := (List.pairwise_iff_getElem.mp h.strict) j (B.length + k) (by omega) hk' (by omega)
        omega
    · exact h1
  have hl := PlcI.len (row := row) (L := B ++ A)
  rw [List.length_append] at hl
  rw [List.length_map, List.length_drop, List.length_drop] at hs
  omega
def Topo (row : List Int) (T : List (Int × Int)) : Prop := ∀ p ∈ T, row.idxOf p.1 < row.idxOf p.2
theorem Topo.rp {row : List Int} {T : List (Int × Int)} (h : Topo row T) {x y : Int} (r : Rp T x y) : row.idxOf x ≤ row.idxOf y := by
  induction r with
  | refl => exact Nat.le_refl _
  | tail _ e ih => have := h _ e; dsimp only at this; omega
theorem chg_topo {m : Nat} {T : List (Int × Int)} {row : List Int} (hr : RowOk m row) (ht : PrsOk m T) {a b : Int} (ha : InM m a) (hb : InM m b) (top : Topo row T) (hba : row.idxOf b < row.idxOf a) (hno : ¬ Rp T b a) :
    Topo (chgR row a b (reB T b) (reB (swapT T) a)) (addT T (a, b)) ∧ (chgR row a b (reB T b) (reB (swapT T) a)).take (row.idxOf b) = row.take (row.idxOf b) ∧ (chgR row a b (reB T b) (reB (swapT T) a)).drop (row.idxOf a + 1) = row.drop (row.idxOf a + 1) := by
  have hP := chg_plc hr.nodup hno
  have mB : ∀ x, x ∈ befR row b (reB (swapT T) a) ↔ x ∈ row ∧ row.idxOf b ≤ row.idxOf x ∧ Rp T x a := fun x => by
    unfold befR
    rw [List.mem_filter, mem_dropK hr.nodup, reB_iff, swap_re, and_assoc]
  have mA : ∀ x, x ∈ aftR row a (reB T b) ↔ x ∈ row ∧ row.idxOf x ≤ row.idxOf a ∧ Rp T b x := fun x => by
    unfold aftR
    rw [List.mem_filter, mem_takeK hr.nodup, reB_iff, and_assoc, Nat.lt_succ_iff]
  have pB : (befR row b (reB (swapT T) a)).Pairwise fun x y => row.idxOf x < row.idxOf y := ((ix_pw hr.nodup).sublist (List.drop_sublist _ _)).sublist List.filter_sublist
  have pA : (aftR row a (reB T b)).Pairwise fun x y => row.idxOf x < row.idxOf y := ((ix_pw hr.nodup).sublist (List.take_sublist _ _)).sublist List.filter_sublist
  unfold chgR
  generalize befR row b (reB (swapT T) a) = B at *
  generalize aftR row a (reB T b) = A at *
  have newB : ∀ (k : Nat) (hk : k < B.length), (setAll row ((plcR row (B ++ A)).zip (B ++ A))).idxOf B[k] = posK row (B ++ A) k := fun k hk => by
    have := hP.new (k := k) (by rw [List.length_append]; omega)
    rw [List.getElem_append_left hk] at this
    exact this
  have newA : ∀ (k : Nat) (hk : k < A.length), (setAll row ((plcR row (B ++ A)).zip (B ++ A))).idxOf A[k] = posK row (B ++ A) (B.length + k) := fun k hk => by
    have := hP.new (k := B.length + k) (by rw [List.length_append]; omega)
    rw [List.getElem_append_right (by omega)] at this
    simpa using this
  have rgP : ∀ k, k < (B ++ A).length → row.idxOf b ≤ posK row (B ++ A) k ∧ posK row (B ++ A) k ≤ row.idxOf a := fun k hk => by
    obtain ⟨_, x, hx, e⟩ := hP.pos hk
    rw [← e]
    rcases List.mem_append.mp hx with h | h
    · obtain ⟨h1, h2, h3⟩ := (mB x).mp h
      exact ⟨h2, top.rp h3⟩
    · obtain ⟨h1, h2, h3⟩ := (mA x).mp h
      exact ⟨top.rp h3, h2⟩
  have hrow : ∀ x, InM m x → x ∈ row := fun x hx => hr.mem.mpr hx
  have lenE : (setAll row ((plcR row (B ++ A)).zip (B ++ A))).length = row.length := setAll_len _ _
  refine ⟨?_, ?_, ?_⟩
  · intro p hp
    have BA : ∀ x ∈ B, ∀ y ∈ A, (setAll row ((plcR row (B ++ A)).zip (B ++ A))).idxOf x < (setAll row ((plcR row (B ++ A)).zip (B ++ A))).idxOf y := fun x hx y hy => by
      obtain ⟨i, hi, rfl⟩ := List.mem_iff_getElem.mp hx
      obtain ⟨j, hj, rfl⟩ := List.mem_iff_getElem.mp hy
      rw [newB i hi, newA j hj]
      exact hP.mono (by omega) (by rw [List.length_append]; omega)
    rcases mem_addT.mp hp with hp | rfl
    · have hlt := top p hp
      obtain ⟨r1, r2⟩ := ht.rg p hp
      have e12 : Rp T p.1 p.2 := .tail .refl hp
      have w1 := hrow _ r1
      have w2 := hrow _ r2
      by_cases b1 : p.1 ∈ B
      · by_cases b2 : p.2 ∈ B
        · obtain ⟨i, hi, e1⟩ := List.mem_iff_getElem.mp b1
          obtain ⟨j, hj, e2⟩ := List.mem_iff_getElem.mp b2
          have hij : i < j := by
            refine Decidable.byContradiction fun hc => ?_
            by_cases hij : i = j
            · subst hij
              rw [e1] at e2
              rw [e2] at hlt; omega
            · have := (List.pairwise_iff_getElem.mp pB) j i hj hi (by omega)
              rw [e1, e2] at this; omega
          rw [← e1, ← e2, newB i hi, newB j hj]
          exact hP.mono hij (by rw [List.length_append]; omega)
        · by_cases a2 : p.2 ∈ A
          · exact BA _ b1 _ a2
          · obtain ⟨i, hi, e1⟩ := List.mem_iff_getElem.mp b1
            rw [hP.stay w2 (fun h => (List.mem_append.mp h).elim b2 a2), ← e1, newB i hi]
            have := hP.ahead pB hi
            rw [e1] at this
            omega
      · by_cases a1 : p.1 ∈ A
        · have q1 := ((mA _).mp a1).2.2
          by_cases b2 : p.2 ∈ B
          · exact absurd ((q1.trans e12).trans ((mB _).mp b2).2.2) hno
          · by_cases a2 : p.2 ∈ A
            · obtain ⟨i, hi, e1⟩ := List.mem_iff_getElem.mp a1
              obtain ⟨j, hj, e2⟩ := List.mem_iff_getElem.mp a2
              have hij : i < j := by
                refine Decidable.byContradiction fun hc => ?_
                by_cases hij : i = j
                · subst hij
                  rw [e1] at e2
                  rw [e2] at hlt; omega
                · have := (List.pairwise_iff_getElem.mp pA) j i hj hi (by omega)
                  rw [e1, e2] at this; omega
              rw [← e1, ← e2, newA i hi, newA j hj]
              exact hP.mono (by omega) (by rw [List.length_append]; omega)
            · obtain ⟨i, hi, e1⟩ := List.mem_iff_getElem.mp a1
              have hbig : row.idxOf a < row.idxOf p.2 := by
                refine Nat.lt_of_not_le fun hc => a2 ((mA _).mpr ⟨w2, hc, q1.trans e12⟩)
              rw [hP.stay w2 (fun h => (List.mem_append.mp h).elim b2 a2), ← e1, newA i hi]
              have := (rgP (B.length + i) (by rw [List.length_append]; omega)).2
              omega
        · rw [hP.stay w1 (fun h => (List.mem_append.mp h).elim b1 a1)]
          by_cases b2 : p.2 ∈ B
          · obtain ⟨j, hj, e2⟩ := List.mem_iff_getElem.mp b2
            have q2 := ((mB _).mp b2).2.2
            have hsm : row.idxOf p.1 < row.idxOf b := by
              refine Nat.lt_of_not_le fun hc => b1 ((mB _).mpr ⟨w1, hc, e12.trans q2⟩)
            rw [← e2, newB j hj]
            have := (rgP j (by rw [List.length_append]; omega)).1
            omega
          · by_cases a2 : p.2 ∈ A
            · obtain ⟨j, hj, e2⟩ := List.mem_iff_getElem.mp a2
              rw [← e2, newA j hj]
              have := hP.behind pA hj
              rw [e2] at this
              omega
            · rw [hP.stay w2 (fun h => (List.mem_append.mp h).elim b2 a2)]
              exact hlt
    · exact BA _ ((mB _).mpr ⟨hrow _ ha, Nat.le_of_lt hba, .refl⟩) _ ((mA _).mpr ⟨hrow _ hb, Nat.le_of_lt hba, .refl⟩)
  · refine List.ext_getElem? fun i => ?_
    rw [List.getElem?_take, List.getElem?_take]
    split
    · rename_i hi
      refine setAll_other _ _ fun hm => ?_
      obtain ⟨p, hp, e⟩ := List.mem_map.mp hm
      obtain ⟨k, hk, e2⟩ := List.mem_iff_getElem.mp (List.of_mem_zip (a := p.1) (b := p.2) hp).1
      rw [PlcI.len] at hk
      have h1 := (hP.pos hk).1
      rw [gK_lt (by rw [PlcI.len]; exact hk), e2] at h1
      have h2 := (rgP k hk).1
      omega
    · rfl
  · refine List.ext_getElem? fun i => ?_
    rw [List.getElem?_drop, List.getElem?_drop]
    refine setAll_other _ _ fun hm => ?_
    obtain ⟨p, hp, e⟩ := List.mem_map.mp hm
    obtain ⟨k, hk, e2⟩ := List.mem_iff_getElem.mp (List.of_mem_zip (a := p.1) (b := p.2) hp).1
    rw [PlcI.len] at hk
    have h1 := (hP.pos hk).1
    rw [gK_lt (by rw [PlcI.len]; exact hk), e2] at h1
    have h2 := (rgP k hk).2
    omega
theorem StepR.topo {m : Nat} {row row' : List Int} {T T' : List (Int × Int)} {p : Int × Int} {d : Did} (h : StepR row T p d row' T') (hr : RowOk m row) (ht : PrsOk m T) (hp : PairOk m p) (top : Topo row T) : Topo row' T' := by
  rcases h with ⟨h1, _, rfl, rfl⟩ | ⟨_, _, _, rfl, rfl⟩ | ⟨h1, h2, _, rfl, rfl⟩
  · intro q hq
    rcases mem_addT.mp hq with hq | rfl
    · exact top q hq
    · exact h1
  · exact top
  · have hne : row.idxOf p.1 ≠ row.idxOf p.2 := fun e => hp.2 (idxK_inj (hr.mem.mpr hp.1.1) (hr.mem.mpr hp.1.2) e)
    exact (chg_topo hr ht hp.1.1 hp.1.2 top (by omega) h2).1
end Fw

set_option Elab.async false
set_option linter.all false
set_option maxRecDepth 100000
/-! max(t), min(t) of a tuple of two ints -/
namespace Pv
open PySem PySem.Spec PyProof.Rows L2
section
variable {X : Cx} {K : PySem.W.Frag}
def rMaxT (K : PySem.W.Frag) : List V → Hp → VK → Prop := fun xs H Q => ∃ (p : Addr) (a b : Int), xs = [.ref p] ∧ SqT K H p [.int a, .int b] ∧ Q (.int (if a < b then b else a)) H
def rMinT (K : PySem.W.Frag) : List V → Hp → VK → Prop := fun xs H Q => ∃ (p : Addr) (a b : Int), xs = [.ref p] ∧ SqT K H p [.int a, .int b] ∧ Q (.int (if b < a then b else a)) H
theorem cr_maxT (hc : X.calm = true) (hu : X.A.units + 64 < cLine) : CallR X (.builtin "max") (rMaxT X.K) := by
  intro pins s σ H xs us Q I r h
  obtain ⟨p, a, b, rfl, hs, q⟩ := h
  obtain ⟨its, rv, hl, hz⟩ := I.tuple hs
  rw [Vals.ref1 r]
  have hd : DpAll X.K H [.int a, .int b] [.int a, .int b] := .cons (.int a) (.cons (.int b) .nil)
  obtain ⟨as, hr⟩ := Dp.readsAll I _ _ _ hd rv
  obtain ⟨o, h1, h2, h3, h4⟩ := hl
  have hl : s.heap.IsTuple p its.toArray := ⟨o, h1, h2, h3, h4⟩
  refine PySem.W.max_tuple_data (x := .int a) (xs := [.int b]) (I.ok.hd hc) hl (by simpa using hr) (by have := PySem.W.alikeAll_datum (α := Int) [a, b]; exact this) (by
    have : PyData.depthAll [PyData.int a, PyData.int b] = 0 := rfl
    omega) fun i v h' tk bs hi hr hk => ?_
  have e : PySem.W.maxD (.int a) [.int b] = .int (if a < b then b else a) := by
    have := PySem.W.maxD_ints a [b]
    rw [List.map_cons, List.map_nil] at this
    rw [this]
    show PyData.int (max a b) = _
    congr 1
    rw [Int.max_def]
    split <;> split <;> omega
  rw [e] at hr
  cases hr
  exact ⟨.int _, H, I.kept hk, ⟨_, rfl⟩, q⟩
theorem cr_minT (hc : X.calm = true) (hu : X.A.units + 64 < cLine) : CallR X (.builtin "min") (rMinT X.K) := by
  intro pins s σ H xs us Q I r h
  obtain ⟨p, a, b, rfl, hs, q⟩ := h
  obtain ⟨its, rv, hl, hz⟩ := I.tuple hs
  rw [Vals.ref1 r]
  have hd : DpAll X.K H [.int a, .int b] [.int a, .int b] := .cons (.int a) (.cons (.int b) .nil)
  obtain ⟨as, hr⟩ := Dp.readsAll I _ _ _ hd rv
  obtain ⟨o, h1, h2, h3, h4⟩ := hl
  have hl : s.heap.IsTuple p its.toArray := ⟨o, h1, h2, h3, h4⟩
  refine PySem.W.min_tuple_data (x := .int a) (xs := [.int b]) (I.ok.hd hc) hl (by simpa using hr) (by have := PySem.W.alikeAll_datum (α := Int) [a, b]; exact this) (by
    have : PyData.depthAll [PyData.int a, PyData.int b] = 0 := rfl
    omega) fun i v h' tk bs hi hr hk => ?_
  have e : PySem.W.minD (.int a) [.int b] = .int (if b < a then b else a) := by
    have := PySem.W.minD_ints a [b]
    rw [List.map_cons, List.map_nil] at this
    rw [this]
    show PyData.int (min a b) = _
    congr 1
    rw [Int.min_def]
    split <;> split <;> omega
  rw [e] at hr
  cases hr
  exact ⟨.int _, H, I.kept hk, ⟨_, rfl⟩, q⟩
def pairI : List D → Option (Int × Int)
  | [.int a, .int b] => some (a, b)
  | _ => none
def fMaxT (ds : List D) : Rf := match ds with
  | [d] => match (tupOf d).bind pairI with
    | some p => .fz (.int (if p.1 < p.2 then p.2 else p.1))
    | none => .stuck
  | _ => .stuck
def fMinT (ds : List D) : Rf := match ds with
  | [d] => match (tupOf d).bind pairI with
    | some p => .fz (.int (if p.2 < p.1 then p.2 else p.1))
    | none => .stuck
  | _ => .stuck
theorem pairI_ok {ds : List D} {p : Int × Int} (h : pairI ds = some p) : ds = [.int p.1, .int p.2] := by
  unfold pairI at h
  split at h
  · cases h; rfl
  · cases h
theorem cs_maxT : CallS K (rMaxT K) fMaxT := fun F H xs ds Q s bs q => by
  unfold fMaxT at q
  split at q
  · rename_i d
    obtain ⟨v, rfl, b⟩ := breps_one bs
    cases e : (tupOf d).bind pairI with
    | none => rw [e] at q; exact q.elim
    | some p =>
      rw [e] at q
      dsimp only at q
      obtain ⟨l, e1, e2⟩ := Option.bind_eq_some_iff.mp e
      rw [pairI_ok e2] at e1
      obtain ⟨a, vs, rfl, h1, h2, h3⟩ := b.tuple s e1
      cases h3 with
      | cons r1 h3 =>
        cases h3 with
        | cons r2 h3 =>
          cases h3
          cases r1
          cases r2
          exact ⟨a, p.1, p.2, rfl, h1, q F H _ (.refl _ _) (.int _)⟩
  · exact False.elim q
theorem cs_minT : CallS K (rMinT K) fMinT := fun F H xs ds Q s bs q => by
  unfold fMinT at q
  split at q
  · rename_i d
    obtain ⟨v, rfl, b⟩ := breps_one bs
    cases e : (tupOf d).bind pairI with
    | none => rw [e] at q; exact q.elim
    | some p =>
      rw [e] at q
      dsimp only at q
      obtain ⟨l, e1, e2⟩ := Option.bind_eq_some_iff.mp e
      rw [pairI_ok e2] at e1
      obtain ⟨a, vs, rfl, h1, h2, h3⟩ := b.tuple s e1
      cases h3 with
      | cons r1 h3 =>
        cases h3 with
        | cons r2 h3 =>
          cases h3
          cases r1
          cases r2
          exact ⟨a, p.1, p.2, rfl, h1, q F H _ (.refl _ _) (.int _)⟩
  · exact False.elim q
theorem nx_fMaxT (ds : List D) (e : Exc) : fMaxT ds ≠ .exc e := by unfold fMaxT; intro z; (repeat' split at z) <;> cases z
theorem nx_fMinT (ds : List D) (e : Exc) : fMinT ds ≠ .exc e := by unfold fMinT; intro z; (repeat' split at z) <;> cases z
end

/-! tuple(range(n)) -/
section
variable {X : Cx}
def tTupRgF (te : L2.St → Hp → (Int → Int → Hp → Prop) → Prop) : TE := fun σ H Q => te σ H fun a b H1 => RgOk a b ∧ ∀ q o, H1 q = none → o.dict = none → Q (.ref q) (upd H1 q (.frz o (.tup (rgV a b))))
theorem pe_tupRgF {e : Expr} {te : L2.St → Hp → (Int → Int → Hp → Prop) → Prop} {p pos : Pos} (hc : X.calm = true) (hg : Gl X "tuple") (hm : X.mg "tuple" = none) (he : PRg X e te) (na : starEach [e] X.env = (false, eval e X.env) :: starEach [] X.env := by rfl) : PE X (.Call (.Name "tuple" p) [e] [] pos) (tTupRgF te) := by
  refine ⟨fun pins s σ H Q I h => ?_⟩
  refine Call_ (ld_blt I hg hm boot_tuple (PyProof.Rows.callWith_type1 (args_cons (thn (he pins s σ H _ I h) fun x s1 ⟨r, a, b, t, u, v, H1, ex, hr, I1, ok, q⟩ => args_nil ?_) na) na))
  subst ex
  obtain ⟨b1, b2, b3, b4, b5⟩ := ok
  refine call_tuple_range (n := (b - a).toNat) (I1.ok.hd hc) hr (small_one b1 b2 b3 b4) (rangeSize_nat a b) b5 fun h' tk acc hk hi => ?_
  have I2 : Inv X pins σ H1 { s1 with heap := h', toks := tk } := I1.kept hk
  refine ⟨.ref h'.objs.size, upd H1 h'.objs.size (.frz { cls := .type "tuple", data := .seq acc } (.tup (rgV a b))), I2.laid (t' := tk) (fun c o e => Heap.get?_push_of_some _ e) (Nat.le_refl _) ?_, rfl, q _ _ (I2.hok.fresh (Nat.le_refl _)) rfl⟩
  have := frz_ok (P := X.prog) (w := X.w) (h := h'.push { cls := .type "tuple", data := .seq acc }) (H := H1) (a := h'.objs.size) (xs := rgV a b) (its := acc.toList) (by rw [rgV_length, sizeLine_eq]; omega) (vals_rg hi) (by rw [Array.toArray_toList]; exact Heap.get?_push_size _ rfl)
  rw [Array.toArray_toList] at this
  exact this
end
section
variable {P : Pr} {m : Bool} {W : WX} {te : TE} {f : Envi → R Hd} {ρ : Envi}
def trgM (ρ : Envi) : Option D → R Hd
  | some (.int j) => if -16777216 < j ∧ j < 16777216 then .ok (.dat (.ktup (rangeD 0 j.toNat))) ρ else .stuck
  | _ => .stuck
def trk (h : Hd) (ρ1 : Envi) : R Hd := trgM ρ1 (deref ρ1 h)
def eTRg1 (f : Envi → R Hd) : Envi → R Hd := fun ρ => (f ρ).frz.bind trk
@[simp] theorem y_trgM {j : Int} : trgM ρ (some (.int j)) = if SmallI j then .ok (.dat (.ktup (nats j.toNat))) ρ else .stuck := by
  rw [← rangeD_nats]; rfl
@[simp] theorem y_trk {h : Hd} : trk h ρ = trgM ρ (deref ρ h) := id rfl
@[simp] theorem y_trg1 : eTRg1 f ρ = (f ρ).frz.bind trk := id rfl
theorem snd_trg1 (h : SndE P m W te f) : SndE P m W (tTupRgF (tRg1 te)) (eTRg1 f) := fun B F0 F H σ ob ρ Q w q => by
  refine h.frz B F0 F H σ ob ρ _ w (Post.of_bind q ?_)
  rintro k ρ1 B1 F1 H1 ob1 x w1 s1 i1 ⟨rfl, r1⟩ q
  unfold trk at q
  cases e1 : deref ρ1 k with
  | none => rw [e1] at q; exact q.elim
  | some d =>
    rw [e1] at q
    cases d with
    | int j =>
      unfold trgM at q
      dsimp only at q
      split at q
      · rename_i hj
        have b := w1.deref r1 e1
        cases b.int
        refine ⟨j, rfl, ⟨by omega, by omega, by omega, by omega, by omega⟩, fun a o ha ho => ?_⟩
        have w4 := w1.grow (o := .frz o (.tup (rgV 0 j))) ha
        have s4 : Same F1 (upd F1 a (.frz o (.tup (rgV 0 j)))) := same_new (w1.fh.free ha)
        refine q _ _ _ ob1 _ w4 (s1.trans s4) i1 ⟨rfl, .ktup (.inl ⟨o, upd_same, ho⟩) ?_ ?_⟩
        · rw [rgV_length, sizeLine_eq]; omega
        · show Reps P.K _ ((List.range (j - 0).toNat).map fun i => V.int (0 + (i : Nat))) (rangeD 0 j.toNat)
          rw [Int.sub_zero]
          exact rgV_rep
      · exact q.elim
    | _ => exact q.elim
end
end Pv
namespace Pv
open PySem PySem.Spec PyProof.Rows L2
/-! sorted(t) of a tuple of ints -/
section
variable {prog : Program} {w : World} {A : Around} {E : Value → Shared → Prop} {s : Shared}
theorem collect_tup {l : Addr} {vs : List Value} {Q : List Value → Shared → Prop} (hl : s.heap.IsTuple l vs.toArray)
    (h : Q vs { s with heap := (s.heap.push (seqObj "list" #[] 0)).update s.heap.objs.size (Obj.mapSeq (· ++ vs.toArray)) }) (hsz : vs.length ≤ sizeLine) :
    wpAny (model prog w) A (collect (.ref l)) Q E s := by
  obtain ⟨o, ho, hc, n, hd⟩ := id hl
  unfold collect
  refine wpAny_bind (wpAny_runValue (codeAny_builtin entry_proto_collect' ?_))
  show wpAny _ _ (do again (.builtin "list.__iadd__" ⟨[← newList [], .ref l], []⟩)) _ _ s
  refine wpAny_bind (wpAny_newList (wpAny_pure ⟨Code.quiet_builtin _ (by decide +kernel), codeAny_builtin entry_list_iadd' ?_⟩))
  show wpAny _ _ (Builtin.List.listExtendWith (.ref s.heap.objs.size) (.ref l) (.ref s.heap.objs.size)) _ _ { s with heap := s.heap.push (seqObj "list" #[] 0) }
  unfold Builtin.List.listExtendWith
  have ho' : (s.heap.push (seqObj "list" #[] 0)).get? l = some o := Heap.get?_push_of_some _ ho
  refine wpAny_bind (wpAny_typeOf (T := "tuple") ⟨o, ho', hc⟩ ?_)
  have ht : (Value.type "tuple" == Value.type "tuple") = true := by rfl
  rw [if_pos (by rw [ht]; simp)]
  refine wpAny_bind (listItems_at ho' hd ?_)
  refine wpAny_bind (listItems_at (xs := #[]) (n := 0) (Heap.get?_push_size _ rfl) rfl ?_)
  rw [if_neg (by simp)]
  refine wpAny_bind (listUpdate_at (xs := #[]) (n := 0) (Heap.get?_push_size _ rfl) rfl ?_ (Nat.zero_le _) (by show (#[] ++ vs.toArray).size ≤ sizeLine + 1; simp only [Array.size_append, List.size_toArray, List.length_nil]; omega))
  refine wpAny_pure ?_
  show wpAny (model prog w) A (do
      let o ← load s.heap.objs.size
      match o.data with
      | .seq xs _ => pure xs.toList
      | _ => unsupported "internal:collect") Q E { s with heap := (s.heap.push (seqObj "list" #[] 0)).update s.heap.objs.size (Obj.mapSeq (· ++ vs.toArray)) }
  refine wpAny_bind (wpAny_load (get?_update_seq (Heap.get?_push_size _ rfl) _) ?_)
  show wpAny _ _ (pure ((#[] : Array Value) ++ vs.toArray).toList) Q E _
  rw [show ((#[] : Array Value) ++ vs.toArray).toList = vs by simp]
  exact wpAny_pure h
theorem sorted_intsT {l : Addr} {vs : List Value} {ns : List Int} {Q : Value → Shared → Prop} (hl : s.heap.IsTuple l vs.toArray) (hI : IntsAre vs ns) (h64 : vs.length < 64)
    (h : ∀ (out : Array Value) (ns' : List Int), IntsAre out.toList ns' → ns'.Perm ns → ns'.Pairwise (· ≤ ·) → Q (.ref (s.heap.objs.size + 1)) { s with heap := sortedAll s.heap vs out }) :
    wpAny (model prog w) A (call (.builtin "sorted") [.ref l]) Q E s := by
  refine Calls.call_function_entry kind_sorted plain_sorted entry_sorted (args_sorted1 _) ?_
  unfold Builtin.«sorted»
  refine wpAny_bind (m := checkCount "sorted" 1 1 _) (wpAny_pure ?_)
  refine wpAny_bind (collect_tup hl ?_ (by rw [sizeLine_eq]; omega))
  refine wpAny_bind (wpAny_newList ?_ (by rw [sizeLine_eq]; omega))
  have hsz : ((s.heap.push (seqObj "list" #[] 0)).update s.heap.objs.size (Obj.mapSeq (· ++ vs.toArray))).objs.size = s.heap.objs.size + 1 := by
    rw [Heap.size_update, size_push']
  have hoL : (((s.heap.push (seqObj "list" #[] 0)).update s.heap.objs.size (Obj.mapSeq (· ++ vs.toArray))).push (seqObj "list" vs.toArray 0)).get? (s.heap.objs.size + 1) = some (seqObj "list" vs.toArray 0) := by
    rw [← hsz]; exact Heap.get?_push_size _ rfl
  show wpAny _ _ _ _ _ { s with heap := ((s.heap.push (seqObj "list" #[] 0)).update s.heap.objs.size (Obj.mapSeq (· ++ vs.toArray))).push (seqObj "list" vs.toArray 0) }
  rw [hsz]
  refine wpAny_bind (wpAny_holding (wpAny_call_entry slot_list_sort ⟨_, hoL, rfl⟩ entry_list_sort (list_sort_tree hoL hI h64 fun out ns' a1 a2 a3 => ⟨_, rfl, ?_⟩) (args_list_sort _)))
  exact wpAny_pure ⟨_, rfl, h out ns' a1 a2 a3⟩
end
section
variable {X : Cx} {K : PySem.W.Frag}
def rSortTI (K : PySem.W.Frag) : List V → Hp → VK → Prop := fun vs H Q => ∃ (a : Addr) (ns : List Int), vs = [V.ref a] ∧ SqT K H a (ns.map V.int) ∧ ns.length < 64 ∧
  ∀ (p : Addr), H p = none → Q (.ref p) (upd H p (.lst ((ns.mergeSort leI).map V.int)))
theorem cr_sortTI : CallR X (.builtin "sorted") (rSortTI X.K) := by
  intro pins s σ H vs us Q I r h
  obtain ⟨a, ns, rfl, hs, h64, q⟩ := h
  obtain ⟨its, rv, hl, _⟩ := I.tuple hs
  rw [Vals.ref1 r]
  have hi := rv.ints
  obtain ⟨o, h1, h2, h3, h4⟩ := hl
  have hl : s.heap.IsTuple a its.toArray := ⟨o, h1, h2, h3, h4⟩
  refine sorted_intsT hl hi (by rw [hi.length]; exact h64) fun out ns' h1 h2 h3 => ?_
  obtain ⟨ep, he'⟩ := PyProof.Rows.sortedAll_at s.heap its out
  have e : ns' = ns.mergeSort leI := List.Perm.eq_of_pairwise (le := fun a b => a ≤ b) (fun a b _ _ h1 h2 => by omega) h3 (by
    have := List.pairwise_mergeSort (le := leI) (fun a b c h1 h2 => by simp [leI] at *; omega) (fun a b => by simp [leI]; omega) ns
    exact this.imp fun h => by simpa [leI] using h) (h2.trans (List.mergeSort_perm ns leI).symm)
  have hlen : (ns'.map V.int).length ≤ sizeLine := by rw [List.length_map, h2.length_eq, sizeLine_eq]; omega
  have q := q (s.heap.objs.size + 1) (I.hok.fresh (Nat.le_succ _))
  rw [← e] at q
  exact ⟨.ref _, upd H (s.heap.objs.size + 1) (.lst (ns'.map V.int)), I.laid (t' := s.toks) (fun _ _ => PyProof.Rows.sortedAll_old) (Nat.le_succ _) ⟨hlen, out.toList, ep, vals_of_ints h1, he'⟩, rfl, q⟩
def fSortT (ds : List D) : Rf := match ds with
  | [d] => match (tupOf d).bind intsOf with
    | some ns => if ns.length < 64 then .ow (.li ((ns.mergeSort leI).map .int)) else .stuck
    | none => .stuck
  | _ => .stuck
theorem nx_fSortT (ds : List D) (e : Exc) : fSortT ds ≠ .exc e := by unfold fSortT; intro z; (repeat' split at z) <;> cases z
theorem cs_sortT : CallS K (rSortTI K) fSortT := fun F H xs ds Q s bs q => by
  unfold fSortT at q
  split at q
  · rename_i d
    obtain ⟨v, rfl, b⟩ := breps_one bs
    cases e : (tupOf d).bind intsOf with
    | none => rw [e] at q; exact q.elim
    | some ns =>
      rw [e] at q
      dsimp only at q
      split at q
      · rename_i hlt
        obtain ⟨l, e1, e2⟩ := Option.bind_eq_some_iff.mp e
        obtain ⟨a, vs, rfl, h1, h2, h3⟩ := b.tuple s e1
        rw [intsOf_eq e2] at h3
        rw [h3.ints_inv] at h1
        exact ⟨a, ns, rfl, h1, hlt, fun p hp => q F H p _ (.refl _ _) hp ⟨_, rfl, by rw [List.length_map, List.length_mergeSort, sizeLine_eq]; omega, Reps.ints _⟩⟩
      · exact q.elim
  · exact False.elim q
end
end Pv

set_option maxHeartbeats 4000000
namespace K17
open PySem PySem.Spec PyProof.Rows L2 Pv Fw
def topS (i : Nat) : Stmt := PySem.Challenge.pw_fewturned_k17_whole_kept.main.body.getD i (.Pass ⟨0, 0, 0, 0⟩)
abbrev s_is_whole : Stmt := topS 5
abbrev s_between : Stmt := topS 6
abbrev s_is_pair : Stmt := topS 10
abbrev s_all_come : Stmt := topS 11
abbrev s_kept : Stmt := topS 12
abbrev s_row_behind : Stmt := topS 13
abbrev s_L_cell_at : Stmt := topS 15
abbrev s_L_mixed : Stmt := topS 16
abbrev s_L_pairs : Stmt := topS 17
abbrev s_L_are_kept : Stmt := topS 18
abbrev s_L_ends : Stmt := topS 19
abbrev s_law : Stmt := topS 20
structure Tops (K : PySem.W.Frag) (mg : Str → Option Value) where
  is_whole : Fn K mg "is_whole" s_is_whole ["thing"]
  between : Fn K mg "between" s_between ["thing", "low", "most"]
  is_pair : Fn K mg "is_pair" s_is_pair ["thing", "many"]
  all_come : Fn K mg "all_come" s_all_come ["many", "arrows"]
  kept : Fn K mg "kept" s_kept ["many", "arrows"]
  row_behind : Fn K mg "row_behind" s_row_behind ["many", "arrows"]
  L_cell_at : Fn K mg "_law_cell_at" s_L_cell_at ["_law_script", "_law_k"]
  L_mixed : Fn K mg "_law_mixed" s_L_mixed ["_law_script", "_law_k", "_law_many"]
  L_pairs : Fn K mg "_law_pairs" s_L_pairs ["_law_script", "_law_at", "_law_many", "_law_most"]
  L_are_kept : Fn K mg "_law_are_kept" s_L_are_kept ["_law_row", "_law_taken"]
  L_ends : Fn K mg "_law_ends" s_L_ends ["_law_pairs_here"]
  law : Fn K mg "law" s_law ["_law_script"]
  x_TurnError : Xc K mg "TurnError"
  x_NoNumber : Xc K mg "NoNumber"
  x_NoArrows : Xc K mg "NoArrows"
  n_all : mg "all" = none
  n_bool : mg "bool" = none
  n_int : mg "int" = none
  n_isinstance : mg "isinstance" = none
  n_len : mg "len" = none
  n_list : mg "list" = none
  n_max : mg "max" = none
  n_min : mg "min" = none
  n_range : mg "range" = none
  n_sorted : mg "sorted" = none
  n_tuple : mg "tuple" = none
  n_zip : mg "zip" = none
  c_THINGS : Σ' t : Tok, mg "THINGS" = some (.int 12 t)
  Keeper_C : Addr
  Keeper_g : mg "Keeper" = some (.ref Keeper_C)
  Keeper_cls : Cls K Keeper_C
  Keeper_na_row : NoAttr K Keeper_C "row"
  Keeper_na_taken : NoAttr K Keeper_C "taken"
  Keeper_init : Ini K Keeper_C "Keeper.__init__" (inClass (topS 9) 0) ["self", "many"]
  Keeper_led : Mth K Keeper_C "led" "Keeper.led" (inClass (topS 9) 1) ["self", "first", "pairs"]
  Keeper_ring_by : Mth K Keeper_C "ring_by" "Keeper.ring_by" (inClass (topS 9) 2) ["self", "ahead", "found"]
  Keeper_change : Mth K Keeper_C "change" "Keeper.change" (inClass (topS 9) 3) ["self", "ahead", "found"]
  Keeper_come : Mth K Keeper_C "come" "Keeper.come" (inClass (topS 9) 4) ["self", "ahead", "behind"]

def ecOf {K : PySem.W.Frag} {mg : Str → Option Value} (T : Tops K mg) : Exc → Value
  | .noNumber => .ref T.x_NoNumber.C
  | .noArrows => .ref T.x_NoArrows.C
  | _ => .none
theorem sc_is_whole : FnScope ["thing"] ["thing"] (defScope s_is_whole) := ⟨rfl, rfl, rfl, by decide +kernel, rfl, by decide +kernel, by decide +kernel⟩
theorem ok_is_whole {P : Program} {w : World} {K : PySem.W.Frag} {mg : Str → Option Value} {base : Heap} (T : Tops K mg) : FnOk P w K mg base (L2.CX P w) 1 T.is_whole.f T.is_whole.fd ["thing"] (spF K (ecOf T) 1 fs_is_whole) := by
  refine T.is_whole.F.okX sc_is_whole (fun vs H Q E h => h.1) (fun cdv A outer s H vs Q E hr h => ?_)
  · have hu0 := hr.units0
    have hu64 := hr.units
    have hu65 := units65 hr
    have hu1 := units1 hr
    exact ⟨_, (pss_one (ps_ret (pe_and (pe_callB call_isi (by rfl) T.n_isinstance bt_isinstance (pa_cons (pv 0) (pa_cons (pe_bltn (v := .ty "int") (by rfl) T.n_int bt_int rfl) pa_nil))) (pe_one (pe_not (pe_callB call_isi (by rfl) T.n_isinstance bt_isinstance (pa_cons (pv 0) (pa_cons (pe_bltn (v := .ty "bool") (by rfl) T.n_bool bt_bool rfl) pa_nil)))))))), fin_gen (ec := ecOf T) (g := sem_is_whole) (snd_ret (m := true) (snd_andV (snd_cb cs_isi nx_fIsi (snd_cons (snd_var (ltN rfl)) (snd_cons snd_ty snd_nil))) (snd_notV (snd_cb cs_isi nx_fIsi (snd_cons (snd_var (ltN rfl)) (snd_cons snd_ty snd_nil)))))) (by decide) h⟩
theorem sc_between : FnScope ["thing", "low", "most"] ["thing", "low", "most"] (defScope s_between) := ⟨rfl, rfl, rfl, by decide +kernel, rfl, by decide +kernel, by decide +kernel⟩
theorem ok_between {P : Program} {w : World} {K : PySem.W.Frag} {mg : Str → Option Value} {base : Heap} (T : Tops K mg) : FnOk P w K mg base (L2.CX P w) 2 T.between.f T.between.fd ["thing", "low", "most"] (spF K (ecOf T) 3 fs_between) := by
  refine T.between.F.okX sc_between (fun vs H Q E h => h.1) (fun cdv A outer s H vs Q E hr h => ?_)
  · have hu0 := hr.units0
    have hu64 := hr.units
    have hu65 := units65 hr
    have hu1 := units1 hr
    exact ⟨_, (pss_one (ps_ret (pe_and (pe_callS (ok_is_whole T) (hr.mono (by decide)) (by rfl) T.is_whole.g T.is_whole.k T.is_whole.b (fun σ => passAt (takes_of rfl rfl rfl rfl) σ) (pa_cons (pv 0) pa_nil)) (pe_one (pe_chain op_le op_le (pv 1) (pv 0) (pv 2)))))), fin_gen (ec := ecOf T) (g := sem_between) (snd_ret (m := true) (snd_andV (snd_call (snd_cons (snd_var (ltN rfl)) snd_nil)) (snd_chain os_le os_le (snd_var (ltN rfl)) (snd_var (ltN rfl)) (snd_var (ltN rfl))))) (by decide) h⟩
theorem sc_Keeper_init : FnScope ["self", "many"] ["self", "many"] (defScope (inClass (topS 9) 0)) := ⟨rfl, rfl, rfl, by decide +kernel, rfl, by decide +kernel, by decide +kernel⟩
theorem ok_Keeper_init {P : Program} {w : World} {K : PySem.W.Frag} {mg : Str → Option Value} {base : Heap} (T : Tops K mg) : FnOk P w K mg base (L2.CX P w) 1 T.Keeper_init.f T.Keeper_init.fd ["self", "many"] (spM K T.Keeper_C fns_Keeper 1 fm_Keeper_init) := by
  refine T.Keeper_init.F.okX sc_Keeper_init (fun vs H Q E h => h.1) (fun cdv A outer s H vs Q E hr h => ?_)
  · have hu0 := hr.units0
    have hu64 := hr.units
    have hu65 := units65 hr
    have hu1 := units1 hr
    exact ⟨_, (pss_cons (ps_fld (pv 0) (pe_listRg rfl (by rfl) T.n_list (prg_1 (by rfl) T.n_range (pv 1))) (by rfl))
      (pss_one (ps_fld (pv 0) pe_dnewT (by rfl)))), fin_genM (ec := ecOf T) (g := sem_Keeper_init) (fun p => (snd_seq (snd_setF (j := 0) (ltN rfl) rfl rfl nd_Keeper (ltN rfl) T.Keeper_cls T.Keeper_na_row (snd_lrg1 (snd_var (ltN rfl))))
      (snd_setF (j := 1) (ltN rfl) rfl rfl nd_Keeper (ltN rfl) T.Keeper_cls T.Keeper_na_taken snd_dnewT))) (by decide) h⟩
theorem sc_Keeper_led : FnScope ["self", "first", "pairs", "found", "waiting", "here", "one", "other"] ["self", "first", "pairs"] (defScope (inClass (topS 9) 1)) := ⟨rfl, rfl, rfl, by decide +kernel, rfl, by decide +kernel, by decide +kernel⟩
theorem ok_Keeper_led {P : Program} {w : World} {K : PySem.W.Frag} {mg : Str → Option Value} {base : Heap} (T : Tops K mg) : FnOk P w K mg base (L2.CX P w) 1 T.Keeper_led.f T.Keeper_led.fd ["self", "first", "pairs"] (spM K T.Keeper_C fns_Keeper 2 fm_Keeper_led) := by
  refine T.Keeper_led.F.okX sc_Keeper_led (fun vs H Q E h => h.1) (fun cdv A outer s H vs Q E hr h => ?_)
  · have hu0 := hr.units0
    have hu64 := hr.units
    have hu65 := units65 hr
    have hu1 := units1 hr
    exact ⟨_, (pss_cons (ps_set (i := 3) sc_Keeper_led.nd rfl (by first | exact .inl rfl | exact .inr rfl) (pe_disp (pps_cons (pv 1) pe_non pps_nil) rfl rfl (by simp) (leN rfl)))
      (pss_cons (ps_set (i := 4) sc_Keeper_led.nd rfl (by first | exact .inl rfl | exact .inr rfl) (pe_lst (pa_cons (pv 1) pa_nil)))
      (pss_cons (ps_while (passes_of rfl) (pt_cmpR (op_neK (K := K) hu64) (pv 4) (pe_lst pa_nil) (nomark _))
      (pss_cons (ps_set (i := 5) sc_Keeper_led.nd rfl (by first | exact .inl rfl | exact .inr rfl) (pe_bm PySem.F.plainAttrs_list PySem.F.slot_list_pop PySem.F.type_list_pop mt_popAt (pv 4) (pa_cons pe_int pa_nil)))
      (pss_one (ps_for (passes_of rfl) rfl (pi_list (pv 2)) (pg_tupK (K := K) rfl (pgs_cons (pg_name (i := 6) sc_Keeper_led.nd rfl (by first | exact .inl rfl | exact .inr rfl)) (pgs_cons (pg_name (i := 7) sc_Keeper_led.nd rfl (by first | exact .inl rfl | exact .inr rfl)) pgs_nil)))
      (pss_one (ps_if (PW.pt (pw_and (pt_cmpR (op_eqK (K := K) hu64) (pv 6) (pv 5) (nomark _)) (pw_and1 (pt_cmpR (op_notInA hu65) (pv 7) (pv 3) (by with_unfolding_all rfl))))) (pss_cons (ps_dput hu1 (pv 3) (pv 7) (pv 5) (by rfl))
      (pss_one (ps_expr (pe_bm PySem.F.plainAttrs_list PySem.F.slot_list_append PySem.F.type_list_append mt_append (pv 4) (pa_cons (pv 7) pa_nil))))) pss_nil))))))
      (pss_one (ps_ret (pv 3)))))), fin_genM (ec := ecOf T) (g := sem_Keeper_led) (fun p => (snd_seq (snd_set (m := true) (ltN rfl) (snd_disp1 (snd_var (ltN rfl)) snd_non))
      (snd_seq (snd_set (m := true) (ltN rfl) (snd_lst (snd_cons (snd_var (ltN rfl)) snd_nil)))
      (snd_seq (snd_whileN (m := true) 1000000 (snd_ts (snd_bin os_ne (snd_var (ltN rfl)) (snd_lst snd_nil)))
      (snd_seq (snd_set (m := true) (ltN rfl) (snd_mut (sp_var (ltN rfl)) ms_popAt (snd_cons snd_int snd_nil) (.inr (ltN rfl))))
      (snd_for (m := true) (si_list (snd_var (ltN rfl))) (sg_tup (sgs_cons (sg_name (ltN rfl)) (sgs_cons (sg_name (ltN rfl)) sgs_nil)))
      (snd_if (snd_tand (snd_ts (snd_bin os_eq (snd_var (ltN rfl)) (snd_var (ltN rfl)))) (snd_ts (snd_bin os_notIn (snd_var (ltN rfl)) (snd_var (ltN rfl))))) (snd_seq (snd_dput (m := true) (sp_var (ltN rfl)) (snd_var (ltN rfl)) (snd_var (ltN rfl)) (.inr (ltN rfl)))
      (snd_drop (m := true) (snd_mut (sp_var (ltN rfl)) ms_append (snd_cons (snd_var (ltN rfl)) snd_nil) (.inr (ltN rfl))))) snd_next))))
      (snd_ret (m := true) (snd_var (ltN rfl))))))) (by decide) h⟩
theorem sc_Keeper_ring_by : FnScope ["self", "ahead", "found", "made"] ["self", "ahead", "found"] (defScope (inClass (topS 9) 2)) := ⟨rfl, rfl, rfl, by decide +kernel, rfl, by decide +kernel, by decide +kernel⟩
theorem ok_Keeper_ring_by {P : Program} {w : World} {K : PySem.W.Frag} {mg : Str → Option Value} {base : Heap} (T : Tops K mg) : FnOk P w K mg base (L2.CX P w) 1 T.Keeper_ring_by.f T.Keeper_ring_by.fd ["self", "ahead", "found"] (spM K T.Keeper_C fns_Keeper 2 fm_Keeper_ring_by) := by
  refine T.Keeper_ring_by.F.okX sc_Keeper_ring_by (fun vs H Q E h => h.1) (fun cdv A outer s H vs Q E hr h => ?_)
  · have hu0 := hr.units0
    have hu64 := hr.units
    have hu65 := units65 hr
    have hu1 := units1 hr
    exact ⟨_, (pss_cons (ps_set (i := 3) sc_Keeper_ring_by.nd rfl (by first | exact .inl rfl | exact .inr rfl) (pe_lst (pa_cons (pv 1) pa_nil)))
      (pss_cons (ps_while (passes_of rfl) (pt_cmpR op_notN (pe_dget hu1 (pv 2) (pe_ix (ix_seqK (K := K)) (pv 3) (pe_un un_neg pe_int) (fun _ _ => rfl)) (fun _ _ => rfl)) pe_non (nomark _))
      (pss_one (ps_expr (pe_bm PySem.F.plainAttrs_list PySem.F.slot_list_append PySem.F.type_list_append mt_append (pv 3) (pa_cons (pe_dget hu1 (pv 2) (pe_ix (ix_seqK (K := K)) (pv 3) (pe_un un_neg pe_int) (fun _ _ => rfl)) (fun _ _ => rfl)) pa_nil)))))
      (pss_one (ps_ret (pe_op op_addAll (pe_slice sl_AP (pv 3) po_none (po_some pe_int)) (pe_revLL (pe_slice sl_AP (pv 3) (po_some pe_int) po_none))))))), fin_genM (ec := ecOf T) (g := sem_Keeper_ring_by) (fun p => (snd_seq (snd_set (m := true) (ltN rfl) (snd_lst (snd_cons (snd_var (ltN rfl)) snd_nil)))
      (snd_seq (snd_whileN (m := true) 1000000 (snd_ts (snd_bin os_isNot (snd_bin os_dget (snd_var (ltN rfl)) (snd_bin os_ix (snd_var (ltN rfl)) (snd_un us_neg snd_int))) snd_non))
      (snd_drop (m := true) (snd_mut (sp_var (ltN rfl)) ms_append (snd_cons (snd_bin os_dget (snd_var (ltN rfl)) (snd_bin os_ix (snd_var (ltN rfl)) (snd_un us_neg snd_int))) snd_nil) (.inr (ltN rfl)))))
      (snd_ret (m := true) (snd_bin os_add (snd_sl ss_AP (snd_var (ltN rfl)) snd_pno (snd_psome snd_int)) (snd_un us_revL (snd_sl ss_AP (snd_var (ltN rfl)) (snd_psome snd_int) snd_pno))))))) (by decide) h⟩
theorem sc_Keeper_change : FnScope ["self", "ahead", "found", "behind", "number", "first", "last", "back", "one", "other", "before", "after", "places", "place"] ["self", "ahead", "found"] (defScope (inClass (topS 9) 3)) := ⟨rfl, rfl, rfl, by decide +kernel, rfl, by decide +kernel, by decide +kernel⟩
theorem ok_Keeper_change {P : Program} {w : World} {K : PySem.W.Frag} {mg : Str → Option Value} {base : Heap} (T : Tops K mg) : FnOk P w K mg base (L2.CX P w) 2 T.Keeper_change.f T.Keeper_change.fd ["self", "ahead", "found"] (spM K T.Keeper_C fns_Keeper 2 fm_Keeper_change) := by
  refine T.Keeper_change.F.okX sc_Keeper_change (fun vs H Q E h => h.1) (fun cdv A outer s H vs Q E hr h => ?_)
  · have hu0 := hr.units0
    have hu64 := hr.units
    have hu65 := units65 hr
    have hu1 := units1 hr
    exact ⟨_, (pss_cons (ps_set (i := 3) sc_Keeper_change.nd rfl (by first | exact .inl rfl | exact .inr rfl) (pe_ix (ix_seqK (K := K)) (pe_lockO (pe_lc rfl sc_Keeper_change.nd (pi_keys (pv 2)) (blk_of (own := [("number", 4)]) (by kernel_rfl)) (fun s H C cl fp => (pg_name (i := 4) sc_Keeper_change.nd rfl (by first | exact .inl rfl | exact .inr rfl))) (fun s H C cl fp => (pts_one (pt_cmpR op_isN (pe_dget hu1 (pv 2) (pv 4) (fun _ _ => rfl)) pe_non (nomark _)))) (fun s H C cl fp => (pv 4)))) pe_int (fun _ _ => rfl)))
      (pss_cons (ps_set (i := 5) sc_Keeper_change.nd rfl (by first | exact .inl rfl | exact .inr rfl) (pe_bm PySem.F.plainAttrs_list PySem.F.slot_list_index PySem.F.type_list_index (mt_indexD hu65) (pe_fld (pv 0) (by rfl)) (pa_cons (pv 3) pa_nil)))
      (pss_cons (ps_set (i := 6) sc_Keeper_change.nd rfl (by first | exact .inl rfl | exact .inr rfl) (pe_bm PySem.F.plainAttrs_list PySem.F.slot_list_index PySem.F.type_list_index (mt_indexD hu65) (pe_fld (pv 0) (by rfl)) (pa_cons (pv 1) pa_nil)))
      (pss_cons (ps_set (i := 7) sc_Keeper_change.nd rfl (by first | exact .inl rfl | exact .inr rfl) (pe_meth (E := fun _ _ _ => False) (pv 0) T.Keeper_cls T.Keeper_led.m (ok_Keeper_led T) (hr.mono (by first | decide | omega)) T.Keeper_led.b .nil pass0E (pa_cons (pv 1) (pa_cons (pe_lock (pe_lc rfl sc_Keeper_change.nd (pi_keys (pe_fld (pv 0) (by rfl))) (blk_of (own := [("one", 8), ("other", 9)]) (by kernel_rfl)) (fun s H C cl fp => (pg_tupK (K := K) rfl (pgs_cons (pg_name (i := 8) sc_Keeper_change.nd rfl (by first | exact .inl rfl | exact .inr rfl)) (pgs_cons (pg_name (i := 9) sc_Keeper_change.nd rfl (by first | exact .inl rfl | exact .inr rfl)) pgs_nil)))) (fun s H C cl fp => pts_nil) (fun s H C cl fp => (pe_tup (pa_cons (pv 9) (pa_cons (pv 8) pa_nil)))))) pa_nil))))
      (pss_cons (ps_setLc (i := 10) rfl sc_Keeper_change.nd rfl rfl (by rfl) (pi_list (pe_slice sl_AP (pe_fld (pv 0) (by rfl)) (po_some (pv 5)) po_none)) (blk_of (own := [("number", 4)]) (by kernel_rfl)) (fun s H C cl fp => (pg_name (i := 4) sc_Keeper_change.nd rfl (by first | exact .inl rfl | exact .inr rfl))) (fun s H C cl fp => (pts_one (pt_cmpR (op_inAK (K := K) hu65) (pv 4) (pv 7) (by with_unfolding_all rfl)))) (fun s H C cl fp => (pv 4)))
      (pss_cons (ps_setLc (i := 11) rfl sc_Keeper_change.nd rfl rfl (by rfl) (pi_list (pe_slice sl_AP (pe_fld (pv 0) (by rfl)) po_none (po_some (pe_op op_addAll (pv 6) pe_int)))) (blk_of (own := [("number", 4)]) (by kernel_rfl)) (fun s H C cl fp => (pg_name (i := 4) sc_Keeper_change.nd rfl (by first | exact .inl rfl | exact .inr rfl))) (fun s H C cl fp => (pts_one (pt_cmpR (op_inAK (K := K) hu65) (pv 4) (pv 2) (by with_unfolding_all rfl)))) (fun s H C cl fp => (pv 4)))
      (pss_cons (ps_set (i := 12) sc_Keeper_change.nd rfl (by first | exact .inl rfl | exact .inr rfl) (pe_callB (cr_sortedD hu64) (by rfl) T.n_sorted bt_sorted (pa_cons (pe_lc rfl sc_Keeper_change.nd (pi_list (pe_op op_addAll (pv 10) (pv 11))) (blk_of (own := [("number", 4)]) (by kernel_rfl)) (fun s H C cl fp => (pg_name (i := 4) sc_Keeper_change.nd rfl (by first | exact .inl rfl | exact .inr rfl))) (fun s H C cl fp => pts_nil) (fun s H C cl fp => (pe_bmK (K := K) PySem.F.plainAttrs_list PySem.F.slot_list_index PySem.F.type_list_index (mt_indexDK (K := K) hu65) (pe_fldK (K := K) (pv 0) (by rfl)) (pa_cons (pv 4) pa_nil)))) pa_nil)))
      (pss_one (ps_for (passes_of rfl) rfl (RZ.pi_zipA (by rfl) T.n_zip (pa_cons (pv 12) (pa_cons (pe_op op_addAll (pv 10) (pv 11)) pa_nil))) (pg_tupK (K := K) rfl (pgs_cons (pg_name (i := 13) sc_Keeper_change.nd rfl (by first | exact .inl rfl | exact .inr rfl)) (pgs_cons (pg_name (i := 4) sc_Keeper_change.nd rfl (by first | exact .inl rfl | exact .inr rfl)) pgs_nil)))
      (pss_one (ps_asg (pv 4) (pg_sub (pe_fld (pv 0) (by rfl)) (pv 13) set_list)))))))))))), fin_genM (ec := ecOf T) (g := sem_Keeper_change) (fun p => (snd_seq (snd_set (m := true) (ltN rfl) (snd_bin os_ix (snd_fkcomp (ltN rfl) (sg_name (ltN rfl)) (snd_ts (snd_bin os_is (snd_bin os_dget (snd_var (ltN rfl)) (snd_var (ltN rfl))) snd_non)) (snd_var (ltN rfl))) snd_int))
      (snd_seq (snd_set (m := true) (ltN rfl) (snd_bm mh_indexL (snd_fld (j := 0) (ltN rfl) rfl rfl T.Keeper_cls T.Keeper_na_row) (snd_cons (snd_var (ltN rfl)) snd_nil)))
      (snd_seq (snd_set (m := true) (ltN rfl) (snd_bm mh_indexL (snd_fld (j := 0) (ltN rfl) rfl rfl T.Keeper_cls T.Keeper_na_row) (snd_cons (snd_var (ltN rfl)) snd_nil)))
      (snd_seq (snd_set (m := true) (ltN rfl) (snd_self (ltN rfl) rfl (nmem rfl) (snd_consM (snd_var (ltN rfl)) (snd_consM (snd_lcomp (sp_fld (j := 1) (ltN rfl) rfl rfl T.Keeper_cls T.Keeper_na_taken) (sg_tup (sgs_cons (sg_name (ltN rfl)) (sgs_cons (sg_name (ltN rfl)) sgs_nil))) snd_pts0 (snd_tup (snd_cons (snd_var (ltN rfl)) (snd_cons (snd_var (ltN rfl)) snd_nil)))) snd_nil))))
      (snd_seq (snd_set (m := true) (ltN rfl) (snd_comp (si_list (snd_sl ss_AP (snd_fld (j := 0) (ltN rfl) rfl rfl T.Keeper_cls T.Keeper_na_row) (snd_psome (snd_var (ltN rfl))) snd_pno)) (sg_name (ltN rfl)) (snd_ts (snd_bin os_in (snd_var (ltN rfl)) (snd_var (ltN rfl)))) (snd_var (ltN rfl))))
      (snd_seq (snd_set (m := true) (ltN rfl) (snd_comp (si_list (snd_sl ss_AP (snd_fld (j := 0) (ltN rfl) rfl rfl T.Keeper_cls T.Keeper_na_row) snd_pno (snd_psome (snd_bin os_add (snd_var (ltN rfl)) snd_int)))) (sg_name (ltN rfl)) (snd_ts (snd_bin os_in (snd_var (ltN rfl)) (snd_var (ltN rfl)))) (snd_var (ltN rfl))))
      (snd_seq (snd_set (m := true) (ltN rfl) (snd_cb cs_sorted nx_fSorted (snd_cons (snd_comp (si_list (snd_bin os_add (snd_var (ltN rfl)) (snd_var (ltN rfl)))) (sg_name (ltN rfl)) snd_pts0 (snd_bm mh_indexL (snd_fld (j := 0) (ltN rfl) rfl rfl T.Keeper_cls T.Keeper_na_row) (snd_cons (snd_var (ltN rfl)) snd_nil))) snd_nil)))
      (snd_for (m := true) (si_zip (snd_consM (snd_var (ltN rfl)) (snd_consM (snd_bin os_add (snd_var (ltN rfl)) (snd_var (ltN rfl))) snd_nil))) (sg_tup (sgs_cons (sg_name (ltN rfl)) (sgs_cons (sg_name (ltN rfl)) sgs_nil)))
      (snd_setLP (m := false) (sp_fld (j := 0) (ltN rfl) rfl rfl T.Keeper_cls T.Keeper_na_row) (snd_var (ltN rfl)) (snd_var (ltN rfl)) (.inl rfl))))))))))) (by decide) h⟩
theorem sc_Keeper_come : FnScope ["self", "ahead", "behind", "found"] ["self", "ahead", "behind"] (defScope (inClass (topS 9) 4)) := ⟨rfl, rfl, rfl, by decide +kernel, rfl, by decide +kernel, by decide +kernel⟩
theorem ok_Keeper_come {P : Program} {w : World} {K : PySem.W.Frag} {mg : Str → Option Value} {base : Heap} (T : Tops K mg) : FnOk P w K mg base (L2.CX P w) 3 T.Keeper_come.f T.Keeper_come.fd ["self", "ahead", "behind"] (spM K T.Keeper_C fns_Keeper 2 fm_Keeper_come) := by
  refine T.Keeper_come.F.okX sc_Keeper_come (fun vs H Q E h => h.1) (fun cdv A outer s H vs Q E hr h => ?_)
  · have hu0 := hr.units0
    have hu64 := hr.units
    have hu65 := units65 hr
    have hu1 := units1 hr
    exact ⟨_, (pss_cons (ps_if (pt_cmpR (op_ltAll hu0) (pe_bm PySem.F.plainAttrs_list PySem.F.slot_list_index PySem.F.type_list_index (mt_indexD hu65) (pe_fld (pv 0) (by rfl)) (pa_cons (pv 1) pa_nil)) (pe_bm PySem.F.plainAttrs_list PySem.F.slot_list_index PySem.F.type_list_index (mt_indexD hu65) (pe_fld (pv 0) (by rfl)) (pa_cons (pv 2) pa_nil)) (nomark _)) (pss_cons (ps_dput hu1 (pe_fld (pv 0) (by rfl)) (pe_tup (pa_cons (pv 1) (pa_cons (pv 2) pa_nil))) pe_bl (by rfl))
      (pss_one (ps_ret (pe_tupF (pa_cons pe_str pa_nil))))) pss_nil)
      (pss_cons (ps_set (i := 3) sc_Keeper_come.nd rfl (by first | exact .inl rfl | exact .inr rfl) (pe_meth (E := fun _ _ _ => False) (pv 0) T.Keeper_cls T.Keeper_led.m (ok_Keeper_led T) (hr.mono (by first | decide | omega)) T.Keeper_led.b .nil pass0E (pa_cons (pv 2) (pa_cons (pe_callTy (call_listK rfl) (by rfl) T.n_list bt_list (pa_cons (pe_fld (pv 0) (by rfl)) pa_nil)) pa_nil))))
      (pss_cons (ps_if (pt_cmpR (op_inA hu65) (pv 1) (pv 3) (by with_unfolding_all rfl)) (pss_one (ps_ret (pe_tup (pa_cons pe_str (pa_cons (pe_meth (E := fun _ _ _ => False) (pv 0) T.Keeper_cls T.Keeper_ring_by.m (ok_Keeper_ring_by T) (hr.mono (by first | decide | omega)) T.Keeper_ring_by.b .nil pass0E (pa_cons (pv 1) (pa_cons (pv 3) pa_nil))) pa_nil))))) pss_nil)
      (pss_cons (ps_expr (pe_meth (E := fun _ _ _ => False) (pv 0) T.Keeper_cls T.Keeper_change.m (ok_Keeper_change T) (hr.mono (by first | decide | omega)) T.Keeper_change.b .nil pass0E (pa_cons (pv 1) (pa_cons (pv 3) pa_nil))))
      (pss_cons (ps_dput hu1 (pe_fld (pv 0) (by rfl)) (pe_tup (pa_cons (pv 1) (pa_cons (pv 2) pa_nil))) pe_bl (by rfl))
      (pss_one (ps_ret (pe_tup (pa_cons pe_str (pa_cons (pe_callTy call_tuple_ofF (by rfl) T.n_tuple bt_tuple (pa_cons (pe_fld (pv 0) (by rfl)) pa_nil)) pa_nil)))))))))), fin_genM (ec := ecOf T) (g := sem_Keeper_come) (fun p => (snd_seq (snd_if (snd_ts (snd_bin os_ltA (snd_bm mh_indexL (snd_fld (j := 0) (ltN rfl) rfl rfl T.Keeper_cls T.Keeper_na_row) (snd_cons (snd_var (ltN rfl)) snd_nil)) (snd_bm mh_indexL (snd_fld (j := 0) (ltN rfl) rfl rfl T.Keeper_cls T.Keeper_na_row) (snd_cons (snd_var (ltN rfl)) snd_nil)))) (snd_seq (snd_dput (m := false) (sp_fld (j := 1) (ltN rfl) rfl rfl T.Keeper_cls T.Keeper_na_taken) (snd_tup (snd_cons (snd_var (ltN rfl)) (snd_cons (snd_var (ltN rfl)) snd_nil))) snd_bl (.inl rfl))
      (snd_ret (m := true) (snd_tupF (snd_cons snd_str snd_nil)))) snd_next)
      (snd_seq (snd_set (m := true) (ltN rfl) (snd_self (ltN rfl) rfl (nmem rfl) (snd_consM (snd_var (ltN rfl)) (snd_consM (snd_cb cs_listK nx_fListK (snd_cons (snd_fld (j := 1) (ltN rfl) rfl rfl T.Keeper_cls T.Keeper_na_taken) snd_nil)) snd_nil))))
      (snd_seq (snd_if (snd_ts (snd_bin os_in (snd_var (ltN rfl)) (snd_var (ltN rfl)))) (snd_ret (m := true) (snd_tup (snd_consM snd_str (snd_consM (snd_self (ltN rfl) rfl (nmem rfl) (snd_consM (snd_var (ltN rfl)) (snd_consM (snd_var (ltN rfl)) snd_nil))) snd_nil)))) snd_next)
      (snd_seq (snd_drop (m := true) (snd_self (ltN rfl) rfl (nmem rfl) (snd_consM (snd_var (ltN rfl)) (snd_consM (snd_var (ltN rfl)) snd_nil))))
      (snd_seq (snd_dput (m := false) (sp_fld (j := 1) (ltN rfl) rfl rfl T.Keeper_cls T.Keeper_na_taken) (snd_tup (snd_cons (snd_var (ltN rfl)) (snd_cons (snd_var (ltN rfl)) snd_nil))) snd_bl (.inl rfl))
      (snd_ret (m := true) (snd_tup (snd_cons snd_str (snd_cons (snd_cb cs_tup nx_fTup (snd_cons (snd_fld (j := 0) (ltN rfl) rfl rfl T.Keeper_cls T.Keeper_na_row) snd_nil)) snd_nil)))))))))) (by decide) h⟩
theorem sc_is_pair : FnScope ["thing", "many", "number"] ["thing", "many"] (defScope s_is_pair) := ⟨rfl, rfl, rfl, by decide +kernel, rfl, by decide +kernel, by decide +kernel⟩
theorem ok_is_pair {P : Program} {w : World} {K : PySem.W.Frag} {mg : Str → Option Value} {base : Heap} (T : Tops K mg) : FnOk P w K mg base (L2.CX P w) 3 T.is_pair.f T.is_pair.fd ["thing", "many"] (spF K (ecOf T) 2 fs_is_pair) := by
  refine T.is_pair.F.okX sc_is_pair (fun vs H Q E h => h.1) (fun cdv A outer s H vs Q E hr h => ?_)
  · have hu0 := hr.units0
    have hu64 := hr.units
    have hu65 := units65 hr
    have hu1 := units1 hr
    exact ⟨_, (pss_cons (ps_if (PW.pt (pw_or (pt_not (pt_val (pe_callB call_isi (by rfl) T.n_isinstance bt_isinstance (pa_cons (pv 0) (pa_cons (pe_bltn (v := .ty "tuple") (by rfl) T.n_tuple bt_tuple rfl) pa_nil))))) (pw_or (pt_cmpR (op_neK (K := K) hu64) (pe_callB call_lenA (by rfl) T.n_len bt_len (pa_cons (pv 0) pa_nil)) pe_int (nomark _)) (pw_or1 (pt_not (pt_val (pe_callB (cr_all rfl) (by rfl) T.n_all bt_all (pa_cons (pe_lc rfl sc_is_pair.nd (pi_tup (pv 0)) (blk_of (own := [("number", 2)]) (by kernel_rfl)) (fun s H C cl fp => (pg_name (i := 2) sc_is_pair.nd rfl (by first | exact .inl rfl | exact .inr rfl))) (fun s H C cl fp => pts_nil) (fun s H C cl fp => (pe_callS (ok_between T) (hr.mono (by decide)) (by rfl) T.between.g T.between.k T.between.b (fun σ => passAt takes0 σ) (pa_cons (pv 2) (pa_cons pe_int (pa_cons (pe_op op_sub (pv 1) pe_int) pa_nil)))))) pa_nil)))))))) (pss_one (ps_ret pe_bl)) pss_nil)
      (pss_one (ps_ret (pe_cmpR (op_neK (K := K) hu64) (pe_ix (ix_seqK (K := K)) (pv 0) pe_int (fun _ _ => rfl)) (pe_ix (ix_seqK (K := K)) (pv 0) pe_int (fun _ _ => rfl)) (nomark _))))), fin_gen (ec := ecOf T) (g := sem_is_pair) (snd_seq (snd_if (snd_tor (snd_tnot (snd_tb (snd_cb cs_isi nx_fIsi (snd_cons (snd_var (ltN rfl)) (snd_cons snd_ty snd_nil))))) (snd_tor (snd_ts (snd_bin os_ne (snd_cb cs_len nx_fLen (snd_cons (snd_var (ltN rfl)) snd_nil)) snd_int)) (snd_tnot (snd_tb (snd_cb cs_all nx_fAll (snd_cons (snd_comp (si_tup (snd_var (ltN rfl))) (sg_name (ltN rfl)) snd_pts0 (snd_call (snd_cons (snd_var (ltN rfl)) (snd_cons snd_int (snd_cons (snd_bin os_sub (snd_var (ltN rfl)) snd_int) snd_nil))))) snd_nil)))))) (snd_ret (m := true) snd_bl) snd_next)
      (snd_ret (m := true) (snd_bin os_ne (snd_bin os_ix (snd_var (ltN rfl)) snd_int) (snd_bin os_ix (snd_var (ltN rfl)) snd_int)))) (by decide) h⟩
theorem sc_all_come : FnScope ["many", "arrows", "pair", "keeper", "made"] ["many", "arrows"] (defScope s_all_come) := ⟨rfl, rfl, rfl, by decide +kernel, rfl, by decide +kernel, by decide +kernel⟩
theorem ok_all_come {P : Program} {w : World} {K : PySem.W.Frag} {mg : Str → Option Value} {base : Heap} (T : Tops K mg) : FnOk P w K mg base (L2.CX P w) 4 T.all_come.f T.all_come.fd ["many", "arrows"] (spF K (ecOf T) 2 fs_all_come) := by
  refine T.all_come.F.okX sc_all_come (fun vs H Q E h => h.1) (fun cdv A outer s H vs Q E hr h => ?_)
  · have hu0 := hr.units0
    have hu64 := hr.units
    have hu65 := units65 hr
    have hu1 := units1 hr
    exact ⟨_, (pss_cons (ps_if (pt_not (pt_val (pe_callS (ok_between T) (hr.mono (by decide)) (by rfl) T.between.g T.between.k T.between.b (fun σ => passAt (takes_of rfl rfl rfl rfl) σ) (pa_cons (pv 0) (pa_cons pe_int (pa_cons (pe_glob (v := .int 12) (by rfl) T.c_THINGS.2 ⟨_, rfl⟩) pa_nil)))))) (pss_one (ps_raise rfl (takes_of rfl rfl rfl rfl) (pmk_own PySem.F.excBase_ValueError T.x_NoNumber.q T.x_NoNumber.g T.x_NoNumber.k (raises_own T.x_NoNumber.e T.x_NoNumber.t) (by rfl)))) pss_nil)
      (pss_cons (ps_if (PW.pt (pw_or (pt_not (pt_val (pe_callB call_isi (by rfl) T.n_isinstance bt_isinstance (pa_cons (pv 1) (pa_cons (pe_bltn (v := .ty "list") (by rfl) T.n_list bt_list rfl) pa_nil))))) (pw_or (pt_cmpR op_gt (pe_callB call_lenA (by rfl) T.n_len bt_len (pa_cons (pv 1) pa_nil)) pe_int (nomark _)) (pw_or1 (pt_not (pt_val (pe_callB (cr_all rfl) (by rfl) T.n_all bt_all (pa_cons (pe_lc rfl sc_all_come.nd (pi_list (pv 1)) (blk_of (own := [("pair", 2)]) (by kernel_rfl)) (fun s H C cl fp => (pg_name (i := 2) sc_all_come.nd rfl (by first | exact .inl rfl | exact .inr rfl))) (fun s H C cl fp => pts_nil) (fun s H C cl fp => (pe_callS (ok_is_pair T) (hr.mono (by decide)) (by rfl) T.is_pair.g T.is_pair.k T.is_pair.b (fun σ => passAt takes0 σ) (pa_cons (pv 2) (pa_cons (pv 0) pa_nil))))) pa_nil)))))))) (pss_one (ps_raise rfl (takes_of rfl rfl rfl rfl) (pmk_own PySem.F.excBase_ValueError T.x_NoArrows.q T.x_NoArrows.g T.x_NoArrows.k (raises_own T.x_NoArrows.e T.x_NoArrows.t) (by rfl)))) pss_nil)
      (pss_cons (ps_set (i := 3) sc_all_come.nd rfl (by first | exact .inl rfl | exact .inr rfl) (pe_make (E := fun _ _ _ => False) T.Keeper_init.mo (ok_Keeper_init T) (hr.mono (by decide)) (by rfl) T.Keeper_g T.Keeper_init.b .nil pass0E (pa_cons (pv 0) pa_nil)))
      (pss_cons (ps_setLc (i := 4) rfl sc_all_come.nd rfl rfl (by rfl) (pi_list (pv 1)) (blk_of (own := [("pair", 2)]) (by kernel_rfl)) (fun s H C cl fp => (pg_name (i := 2) sc_all_come.nd rfl (by first | exact .inl rfl | exact .inr rfl))) (fun s H C cl fp => pts_nil) (fun s H C cl fp => (pe_meth (E := fun _ _ _ => False) (pv 3) T.Keeper_cls T.Keeper_come.m (ok_Keeper_come T) (hr.mono (by first | decide | omega)) T.Keeper_come.b .nil pass0E (pa_cons (pe_ix (ix_seqK (K := K)) (pv 2) pe_int (fun _ _ => rfl)) (pa_cons (pe_ix (ix_seqK (K := K)) (pv 2) pe_int (fun _ _ => rfl)) pa_nil)))))
      (pss_one (ps_ret (pe_tup (pa_cons (pv 4) (pa_cons (pe_callTy call_tuple_ofF (by rfl) T.n_tuple bt_tuple (pa_cons (pe_fld (pv 3) (by rfl)) pa_nil)) pa_nil))))))))), fin_gen (ec := ecOf T) (g := sem_all_come) (snd_seq (snd_if (snd_tnot (snd_tb (snd_call (snd_cons (snd_var (ltN rfl)) (snd_cons snd_int (snd_cons snd_int snd_nil)))))) (snd_raise (c := .noNumber)) snd_next)
      (snd_seq (snd_if (snd_tor (snd_tnot (snd_tb (snd_cb cs_isi nx_fIsi (snd_cons (snd_var (ltN rfl)) (snd_cons snd_ty snd_nil))))) (snd_tor (snd_ts (snd_bin os_gt (snd_cb cs_len nx_fLen (snd_cons (snd_var (ltN rfl)) snd_nil)) snd_int)) (snd_tnot (snd_tb (snd_cb cs_all nx_fAll (snd_cons (snd_comp (si_list (snd_var (ltN rfl))) (sg_name (ltN rfl)) snd_pts0 (snd_call (snd_cons (snd_var (ltN rfl)) (snd_cons (snd_var (ltN rfl)) snd_nil)))) snd_nil)))))) (snd_raise (c := .noArrows)) snd_next)
      (snd_let (m := true) (fns := fns_Keeper) (C := T.Keeper_C) (ltN rfl) rfl (snd_cons (snd_var (ltN rfl)) snd_nil) (fun _ =>
      (snd_seq (snd_set (m := true) (ltN rfl) (snd_comp (si_list (snd_var (ltN rfl))) (sg_name (ltN rfl)) snd_pts0 (snd_self (ltN rfl) rfl (nmem rfl) (snd_consM (snd_bin os_ix (snd_var (ltN rfl)) snd_int) (snd_consM (snd_bin os_ix (snd_var (ltN rfl)) snd_int) snd_nil)))))
      (snd_ret (m := true) (snd_tup (snd_cons (snd_var (ltN rfl)) (snd_cons (snd_cb cs_tup nx_fTup (snd_cons (snd_fld (j := 0) (ltN rfl) rfl rfl T.Keeper_cls T.Keeper_na_row) snd_nil)) snd_nil))))))))) (by decide) h⟩
theorem sc_kept : FnScope ["many", "arrows"] ["many", "arrows"] (defScope s_kept) := ⟨rfl, rfl, rfl, by decide +kernel, rfl, by decide +kernel, by decide +kernel⟩
theorem ok_kept {P : Program} {w : World} {K : PySem.W.Frag} {mg : Str → Option Value} {base : Heap} (T : Tops K mg) : FnOk P w K mg base (L2.CX P w) 5 T.kept.f T.kept.fd ["many", "arrows"] (spF K (ecOf T) 2 fs_kept) := by
  refine T.kept.F.okX sc_kept (fun vs H Q E h => h.1) (fun cdv A outer s H vs Q E hr h => ?_)
  · have hu0 := hr.units0
    have hu64 := hr.units
    have hu65 := units65 hr
    have hu1 := units1 hr
    exact ⟨_, (pss_one (ps_ret (pe_ix (ix_seqK (K := K)) (pe_callS (ok_all_come T) (hr.mono (by decide)) (by rfl) T.all_come.g T.all_come.k T.all_come.b (fun σ => passAt (takes_of rfl rfl rfl rfl) σ) (pa_cons (pv 0) (pa_cons (pv 1) pa_nil))) pe_int (fun _ _ => rfl)))), fin_gen (ec := ecOf T) (g := sem_kept) (snd_ret (m := true) (snd_bin os_ix (snd_call (snd_cons (snd_var (ltN rfl)) (snd_cons (snd_var (ltN rfl)) snd_nil))) snd_int)) (by decide) h⟩
theorem sc_row_behind : FnScope ["many", "arrows"] ["many", "arrows"] (defScope s_row_behind) := ⟨rfl, rfl, rfl, by decide +kernel, rfl, by decide +kernel, by decide +kernel⟩
theorem ok_row_behind {P : Program} {w : World} {K : PySem.W.Frag} {mg : Str → Option Value} {base : Heap} (T : Tops K mg) : FnOk P w K mg base (L2.CX P w) 5 T.row_behind.f T.row_behind.fd ["many", "arrows"] (spF K (ecOf T) 2 fs_row_behind) := by
  refine T.row_behind.F.okX sc_row_behind (fun vs H Q E h => h.1) (fun cdv A outer s H vs Q E hr h => ?_)
  · have hu0 := hr.units0
    have hu64 := hr.units
    have hu65 := units65 hr
    have hu1 := units1 hr
    exact ⟨_, (pss_one (ps_ret (pe_ix (ix_seqK (K := K)) (pe_callS (ok_all_come T) (hr.mono (by decide)) (by rfl) T.all_come.g T.all_come.k T.all_come.b (fun σ => passAt (takes_of rfl rfl rfl rfl) σ) (pa_cons (pv 0) (pa_cons (pv 1) pa_nil))) pe_int (fun _ _ => rfl)))), fin_gen (ec := ecOf T) (g := sem_row_behind) (snd_ret (m := true) (snd_bin os_ix (snd_call (snd_cons (snd_var (ltN rfl)) (snd_cons (snd_var (ltN rfl)) snd_nil))) snd_int)) (by decide) h⟩
theorem sc__law_cell_at : FnScope ["_law_script", "_law_k"] ["_law_script", "_law_k"] (defScope s_L_cell_at) := ⟨rfl, rfl, rfl, by decide +kernel, rfl, by decide +kernel, by decide +kernel⟩
theorem ok_L_cell_at {P : Program} {w : World} {K : PySem.W.Frag} {mg : Str → Option Value} {base : Heap} (T : Tops K mg) : FnOk P w K mg base (L2.CX P w) 1 T.L_cell_at.f T.L_cell_at.fd ["_law_script", "_law_k"] (spF K (ecOf T) 2 fs_L_cell_at) := by
  refine T.L_cell_at.F.okX sc__law_cell_at (fun vs H Q E h => h.1) (fun cdv A outer s H vs Q E hr h => ?_)
  · have hu0 := hr.units0
    have hu64 := hr.units
    have hu65 := units65 hr
    have hu1 := units1 hr
    exact ⟨_, (pss_cons (ps_if (pt_cmpR (op_ltAll hu0) (pv 1) (pe_callB call_lenA (by rfl) T.n_len bt_len (pa_cons (pv 0) pa_nil)) (nomark _)) (pss_one (ps_ret (pe_ix (ix_seqK (K := K)) (pv 0) (pv 1) (fun _ _ => rfl)))) pss_nil)
      (pss_cons (ps_if (pt_cmpR (op_eqK (K := K) hu64) (pv 0) (pe_lst pa_nil) (nomark _)) (pss_one (ps_ret pe_int)) pss_nil)
      (pss_one (ps_ret (pe_op op_addAll (pe_op op_mulAll (pe_ix (ix_seqK (K := K)) (pv 0) (pe_op op_mod (pv 1) (pe_callB call_lenA (by rfl) T.n_len bt_len (pa_cons (pv 0) pa_nil))) (fun _ _ => rfl)) pe_int) (pv 1)))))), fin_gen (ec := ecOf T) (g := sem_L_cell_at) (snd_seq (snd_if (snd_ts (snd_bin os_ltA (snd_var (ltN rfl)) (snd_cb cs_len nx_fLen (snd_cons (snd_var (ltN rfl)) snd_nil)))) (snd_ret (m := true) (snd_bin os_ix (snd_var (ltN rfl)) (snd_var (ltN rfl)))) snd_next)
      (snd_seq (snd_if (snd_ts (snd_bin os_eq (snd_var (ltN rfl)) (snd_lst snd_nil))) (snd_ret (m := true) snd_int) snd_next)
      (snd_ret (m := true) (snd_bin os_add (snd_bin os_mul (snd_bin os_ix (snd_var (ltN rfl)) (snd_bin os_mod (snd_var (ltN rfl)) (snd_cb cs_len nx_fLen (snd_cons (snd_var (ltN rfl)) snd_nil)))) snd_int) (snd_var (ltN rfl)))))) (by decide) h⟩
theorem sc__law_mixed : FnScope ["_law_script", "_law_k", "_law_many", "_law_drawn"] ["_law_script", "_law_k", "_law_many"] (defScope s_L_mixed) := ⟨rfl, rfl, rfl, by decide +kernel, rfl, by decide +kernel, by decide +kernel⟩
theorem ok_L_mixed {P : Program} {w : World} {K : PySem.W.Frag} {mg : Str → Option Value} {base : Heap} (T : Tops K mg) : FnOk P w K mg base (L2.CX P w) 2 T.L_mixed.f T.L_mixed.fd ["_law_script", "_law_k", "_law_many"] (spF K (ecOf T) 3 fs_L_mixed) := by
  refine T.L_mixed.F.okX sc__law_mixed (fun vs H Q E h => h.1) (fun cdv A outer s H vs Q E hr h => ?_)
  · have hu0 := hr.units0
    have hu64 := hr.units
    have hu65 := units65 hr
    have hu1 := units1 hr
    exact ⟨_, (pss_cons (ps_set (i := 3) sc__law_mixed.nd rfl (by first | exact .inl rfl | exact .inr rfl) (pe_op op_mod (pe_op op_mulAll (pe_op op_addAll (pe_op op_addAll (pe_callS (ok_L_cell_at T) (hr.mono (by decide)) (by rfl) T.L_cell_at.g T.L_cell_at.k T.L_cell_at.b (fun σ => passAt (takes_of rfl rfl rfl rfl) σ) (pa_cons (pv 0) (pa_cons (pv 1) pa_nil))) (pe_op op_mulAll pe_int (pv 1))) pe_int) pe_int) pe_int))
      (pss_one (ps_ret (pe_op op_mod (pe_op op_mod (pe_op op_addAll (pe_op op_addAll (pe_op op_mulAll (pv 3) (pv 3)) (pe_op op_mulAll pe_int (pv 3))) (pv 1)) pe_int) (pv 2))))), fin_gen (ec := ecOf T) (g := sem_L_mixed) (snd_seq (snd_set (m := true) (ltN rfl) (snd_bin os_mod (snd_bin os_mul (snd_bin os_add (snd_bin os_add (snd_call (snd_cons (snd_var (ltN rfl)) (snd_cons (snd_var (ltN rfl)) snd_nil))) (snd_bin os_mul snd_int (snd_var (ltN rfl)))) snd_int) snd_int) snd_int))
      (snd_ret (m := true) (snd_bin os_mod (snd_bin os_mod (snd_bin os_add (snd_bin os_add (snd_bin os_mul (snd_var (ltN rfl)) (snd_var (ltN rfl))) (snd_bin os_mul snd_int (snd_var (ltN rfl)))) (snd_var (ltN rfl))) snd_int) (snd_var (ltN rfl))))) (by decide) h⟩
theorem sc__law_pairs : FnScope ["_law_script", "_law_at", "_law_many", "_law_most", "_law_seed", "_law_made", "_law_k", "_law_drawn", "_law_one", "_law_other"] ["_law_script", "_law_at", "_law_many", "_law_most"] (defScope s_L_pairs) := ⟨rfl, rfl, rfl, by decide +kernel, rfl, by decide +kernel, by decide +kernel⟩
theorem ok_L_pairs {P : Program} {w : World} {K : PySem.W.Frag} {mg : Str → Option Value} {base : Heap} (T : Tops K mg) : FnOk P w K mg base (L2.CX P w) 3 T.L_pairs.f T.L_pairs.fd ["_law_script", "_law_at", "_law_many", "_law_most"] (spF K (ecOf T) 4 fs_L_pairs) := by
  refine T.L_pairs.F.okX sc__law_pairs (fun vs H Q E h => h.1) (fun cdv A outer s H vs Q E hr h => ?_)
  · have hu0 := hr.units0
    have hu64 := hr.units
    have hu65 := units65 hr
    have hu1 := units1 hr
    exact ⟨_, (pss_cons (ps_set (i := 4) sc__law_pairs.nd rfl (by first | exact .inl rfl | exact .inr rfl) (pe_callS (ok_L_mixed T) (hr.mono (by decide)) (by rfl) T.L_mixed.g T.L_mixed.k T.L_mixed.b (fun σ => passAt (takes_of rfl rfl rfl rfl) σ) (pa_cons (pv 0) (pa_cons (pv 1) (pa_cons (pe_op op_pow pe_int pe_int) pa_nil)))))
      (pss_cons (ps_set (i := 5) sc__law_pairs.nd rfl (by first | exact .inl rfl | exact .inr rfl) (pe_lst pa_nil))
      (pss_cons (ps_for (passes_of rfl) rfl (pi_range1 (by rfl) T.n_range (pa_cons (pe_callS (ok_L_mixed T) (hr.mono (by decide)) (by rfl) T.L_mixed.g T.L_mixed.k T.L_mixed.b (fun σ => passAt (takes_of rfl rfl rfl rfl) σ) (pa_cons (pv 0) (pa_cons (pe_op op_addAll (pv 1) pe_int) (pa_cons (pe_op op_addAll (pv 3) pe_int) pa_nil)))) pa_nil)) (pg_name (i := 6) sc__law_pairs.nd rfl (by first | exact .inl rfl | exact .inr rfl))
      (pss_cons (ps_set (i := 7) sc__law_pairs.nd rfl (by first | exact .inl rfl | exact .inr rfl) (pe_op op_mod (pe_op op_mulAll (pe_op op_addAll (pe_op op_addAll (pv 4) (pe_op op_mulAll (pe_op op_mulAll pe_int (pv 6)) (pv 6))) (pe_op op_mulAll pe_int (pv 6))) pe_int) pe_int))
      (pss_cons (ps_set (i := 8) sc__law_pairs.nd rfl (by first | exact .inl rfl | exact .inr rfl) (pe_op op_mod (pe_op op_fdivW (pv 7) pe_int) (pv 2)))
      (pss_cons (ps_set (i := 9) sc__law_pairs.nd rfl (by first | exact .inl rfl | exact .inr rfl) (pe_op op_mod (pe_op op_fdivW (pv 7) pe_int) (pv 2)))
      (pss_one (ps_if (pt_cmpR (op_neK (K := K) hu64) (pv 8) (pv 9) (nomark _)) (pss_one (ps_expr (pe_bm PySem.F.plainAttrs_list PySem.F.slot_list_append PySem.F.type_list_append mt_append (pv 5) (pa_cons (pe_tup (pa_cons (pv 8) (pa_cons (pv 9) pa_nil))) pa_nil)))) pss_nil))))))
      (pss_one (ps_ret (pv 5)))))), fin_gen (ec := ecOf T) (g := sem_L_pairs) (snd_seq (snd_set (m := true) (ltN rfl) (snd_call (snd_cons (snd_var (ltN rfl)) (snd_cons (snd_var (ltN rfl)) (snd_cons (snd_bin os_pow snd_int snd_int) snd_nil)))))
      (snd_seq (snd_set (m := true) (ltN rfl) (snd_lst snd_nil))
      (snd_seq (snd_for (m := true) (si_rng1 (snd_cons (snd_call (snd_cons (snd_var (ltN rfl)) (snd_cons (snd_bin os_add (snd_var (ltN rfl)) snd_int) (snd_cons (snd_bin os_add (snd_var (ltN rfl)) snd_int) snd_nil)))) snd_nil)) (sg_name (ltN rfl))
      (snd_seq (snd_set (m := true) (ltN rfl) (snd_bin os_mod (snd_bin os_mul (snd_bin os_add (snd_bin os_add (snd_var (ltN rfl)) (snd_bin os_mul (snd_bin os_mul snd_int (snd_var (ltN rfl))) (snd_var (ltN rfl)))) (snd_bin os_mul snd_int (snd_var (ltN rfl)))) snd_int) snd_int))
      (snd_seq (snd_set (m := true) (ltN rfl) (snd_bin os_mod (snd_bin os_div (snd_var (ltN rfl)) snd_int) (snd_var (ltN rfl))))
      (snd_seq (snd_set (m := true) (ltN rfl) (snd_bin os_mod (snd_bin os_div (snd_var (ltN rfl)) snd_int) (snd_var (ltN rfl))))
      (snd_if (snd_ts (snd_bin os_ne (snd_var (ltN rfl)) (snd_var (ltN rfl)))) (snd_drop (m := true) (snd_mut (sp_var (ltN rfl)) ms_append (snd_cons (snd_tup (snd_cons (snd_var (ltN rfl)) (snd_cons (snd_var (ltN rfl)) snd_nil))) snd_nil) (.inr (ltN rfl)))) snd_next)))))
      (snd_ret (m := true) (snd_var (ltN rfl)))))) (by decide) h⟩
def ct_L_are_kept_1 : Envi → R Bool :=
  (tsE (eBin opGt (eMeth isKT opIndexT (eVar 0) (aCons (eBin opIx (eVar 2) (eC (.int 0))) aNil)) (eMeth isKT opIndexT (eVar 0) (aCons (eBin opIx (eVar 2) (eC (.int 1))) aNil))))
theorem sc__law_are_kept : FnScope ["_law_row", "_law_taken", "_law_pair"] ["_law_row", "_law_taken"] (defScope s_L_are_kept) := ⟨rfl, rfl, rfl, by decide +kernel, rfl, by decide +kernel, by decide +kernel⟩
def sem_L_are_kept : Sem :=
  (sRet (eBin opEq (eComp (itBy lstOf (eVar 1)) (bN 2) ct_L_are_kept_1 (eVar 2) [2]) (eLst aNil)))
def fs_L_are_kept : List D → Rf := fsOf 3 sem_L_are_kept
theorem ok_L_are_kept {P : Program} {w : World} {K : PySem.W.Frag} {mg : Str → Option Value} {base : Heap} (T : Tops K mg) : FnOk P w K mg base (L2.CX P w) 1 T.L_are_kept.f T.L_are_kept.fd ["_law_row", "_law_taken"] (spF K (ecOf T) 2 fs_L_are_kept) := by
  refine T.L_are_kept.F.okX sc__law_are_kept (fun vs H Q E h => h.1) (fun cdv A outer s H vs Q E hr h => ?_)
  · have hu0 := hr.units0
    have hu64 := hr.units
    have hu65 := units65 hr
    have hu1 := units1 hr
    exact ⟨_, (pss_one (ps_ret (pe_cmpR (op_eqK (K := K) hu64) (pe_lc rfl sc__law_are_kept.nd (pi_list (pv 1)) (blk_of (own := [("_law_pair", 2)]) (by kernel_rfl)) (fun s H C cl fp => (pg_name (i := 2) sc__law_are_kept.nd rfl (by first | exact .inl rfl | exact .inr rfl))) (fun s H C cl fp => (pts_one (pt_cmpR op_gt (pe_tm PySem.F.plainAttrs_tuple PySem.F.slot_tuple_index PySem.F.type_tuple_index (mt_indexT hu65) (pv 0) (pa_cons (pe_ix (ix_seqK (K := K)) (pv 2) pe_int (fun _ _ => rfl)) pa_nil)) (pe_tm PySem.F.plainAttrs_tuple PySem.F.slot_tuple_index PySem.F.type_tuple_index (mt_indexT hu65) (pv 0) (pa_cons (pe_ix (ix_seqK (K := K)) (pv 2) pe_int (fun _ _ => rfl)) pa_nil)) (nomark _)))) (fun s H C cl fp => (pv 2))) (pe_lst pa_nil) (nomark _)))), fin_gen (ec := ecOf T) (g := sem_L_are_kept) (snd_ret (m := true) (snd_bin os_eq (snd_comp (si_list (snd_var (ltN rfl))) (sg_name (ltN rfl)) (snd_ts (snd_bin os_gt (snd_tm mh_indexT (snd_var (ltN rfl)) (snd_cons (snd_bin os_ix (snd_var (ltN rfl)) snd_int) snd_nil)) (snd_tm mh_indexT (snd_var (ltN rfl)) (snd_cons (snd_bin os_ix (snd_var (ltN rfl)) snd_int) snd_nil)))) (snd_var (ltN rfl))) (snd_lst snd_nil))) (by decide) h⟩
def ce_L_ends_1 : Envi → R Hd :=
  (eBin opIx (eVar 3) (eC (.int 0)))
def ct_L_ends_2 : Envi → R Bool :=
  (tsE (eBin opNotIn (eBin opIx (eVar 2) (eC (.int 1))) (eComp (itBy lstOf (eVar 1)) (bN 3) tTrue ce_L_ends_1 [3])))
def ce_L_ends_3 : Envi → R Hd :=
  (eBin opIx (eVar 3) (eC (.int 0)))
def ct_L_ends_4 : Envi → R Bool :=
  (tsE (eBin opIn (eBin opIx (eVar 2) (eC (.int 1))) (eComp (itBy lstOf (eVar 1)) (bN 3) tTrue ce_L_ends_3 [3])))
def wt_L_ends_5 : Envi → R Bool :=
  (tsE (eBin opNe (eComp (itBy lstOf (eVar 1)) (bN 2) ct_L_ends_2 (eVar 2) [2]) (eLst aNil)))
def bd_L_ends_6 : Sem :=
  (sSet 1 (eComp (itBy lstOf (eVar 1)) (bN 2) ct_L_ends_4 (eVar 2) [2]))
theorem sc__law_ends : FnScope ["_law_pairs_here", "_law_left", "_law_pair", "_law_other"] ["_law_pairs_here"] (defScope s_L_ends) := ⟨rfl, rfl, rfl, by decide +kernel, rfl, by decide +kernel, by decide +kernel⟩
def sem_L_ends : Sem :=
  (sSeq (sSet 1 (eCB fList (aCons (eVar 0) aNil)))
    (sSeq (sWhileN 1000000 wt_L_ends_5 bd_L_ends_6)
    (sRet (eBin opEq (eVar 1) (eLst aNil)))))
def fs_L_ends : List D → Rf := fsOf 4 sem_L_ends
theorem ok_L_ends {P : Program} {w : World} {K : PySem.W.Frag} {mg : Str → Option Value} {base : Heap} (T : Tops K mg) : FnOk P w K mg base (L2.CX P w) 1 T.L_ends.f T.L_ends.fd ["_law_pairs_here"] (spF K (ecOf T) 1 fs_L_ends) := by
  refine T.L_ends.F.okX sc__law_ends (fun vs H Q E h => h.1) (fun cdv A outer s H vs Q E hr h => ?_)
  · have hu0 := hr.units0
    have hu64 := hr.units
    have hu65 := units65 hr
    have hu1 := units1 hr
    exact ⟨_, (pss_cons (ps_set (i := 1) sc__law_ends.nd rfl (by first | exact .inl rfl | exact .inr rfl) (pe_callTy call_list_of (by rfl) T.n_list bt_list (pa_cons (pv 0) pa_nil)))
      (pss_cons (ps_while (passes_of rfl) (pt_cmpR (op_neK (K := K) hu64) (pe_lc rfl sc__law_ends.nd (pi_list (pv 1)) (blk_of (own := [("_law_pair", 2)]) (by kernel_rfl)) (fun s H C cl fp => (pg_name (i := 2) sc__law_ends.nd rfl (by first | exact .inl rfl | exact .inr rfl))) (fun s H C cl fp => (pts_one (pt_cmpR (op_notInA hu65) (pe_ix (ix_seqK (K := K)) (pv 2) pe_int (fun _ _ => rfl)) (pe_lc rfl sc__law_ends.nd (pi_list (pv 1)) (blk_of (own := [("_law_other", 3)]) (by kernel_rfl)) (fun s H C cl fp => (pg_name (i := 3) sc__law_ends.nd rfl (by first | exact .inl rfl | exact .inr rfl))) (fun s H C cl fp => pts_nil) (fun s H C cl fp => (pe_ix (ix_seqK (K := K)) (pv 3) pe_int (fun _ _ => rfl)))) (by with_unfolding_all rfl)))) (fun s H C cl fp => (pv 2))) (pe_lst pa_nil) (nomark _))
      (pss_one (ps_set (i := 1) sc__law_ends.nd rfl (by first | exact .inl rfl | exact .inr rfl) (pe_lc rfl sc__law_ends.nd (pi_list (pv 1)) (blk_of (own := [("_law_pair", 2)]) (by kernel_rfl)) (fun s H C cl fp => (pg_name (i := 2) sc__law_ends.nd rfl (by first | exact .inl rfl | exact .inr rfl))) (fun s H C cl fp => (pts_one (pt_cmpR (op_inA hu65) (pe_ix (ix_seqK (K := K)) (pv 2) pe_int (fun _ _ => rfl)) (pe_lc rfl sc__law_ends.nd (pi_list (pv 1)) (blk_of (own := [("_law_other", 3)]) (by kernel_rfl)) (fun s H C cl fp => (pg_name (i := 3) sc__law_ends.nd rfl (by first | exact .inl rfl | exact .inr rfl))) (fun s H C cl fp => pts_nil) (fun s H C cl fp => (pe_ix (ix_seqK (K := K)) (pv 3) pe_int (fun _ _ => rfl)))) (by with_unfolding_all rfl)))) (fun s H C cl fp => (pv 2))))))
      (pss_one (ps_ret (pe_cmpR (op_eqK (K := K) hu64) (pv 1) (pe_lst pa_nil) (nomark _)))))), fin_gen (ec := ecOf T) (g := sem_L_ends) (snd_seq (snd_set (m := true) (ltN rfl) (snd_cb cs_list nx_fList (snd_cons (snd_var (ltN rfl)) snd_nil)))
      (snd_seq (snd_whileN (m := true) 1000000 (snd_ts (snd_bin os_ne (snd_comp (si_list (snd_var (ltN rfl))) (sg_name (ltN rfl)) (snd_ts (snd_bin os_notIn (snd_bin os_ix (snd_var (ltN rfl)) snd_int) (snd_comp (si_list (snd_var (ltN rfl))) (sg_name (ltN rfl)) snd_pts0 (snd_bin os_ix (snd_var (ltN rfl)) snd_int)))) (snd_var (ltN rfl))) (snd_lst snd_nil)))
      (snd_set (m := true) (ltN rfl) (snd_comp (si_list (snd_var (ltN rfl))) (sg_name (ltN rfl)) (snd_ts (snd_bin os_in (snd_bin os_ix (snd_var (ltN rfl)) snd_int) (snd_comp (si_list (snd_var (ltN rfl))) (sg_name (ltN rfl)) snd_pts0 (snd_bin os_ix (snd_var (ltN rfl)) snd_int)))) (snd_var (ltN rfl)))))
      (snd_ret (m := true) (snd_bin os_eq (snd_var (ltN rfl)) (snd_lst snd_nil))))) (by decide) h⟩
def ce_law_1 : Envi → R Hd :=
  (eTup (aCons (eCB fMaxT (aCons (eVar 3) aNil)) (aCons (eCB fMinT (aCons (eVar 3) aNil)) aNil)))
def bd_law_2 : Sem :=
  (sSeq (sIf (tsE (eBin opEq (eBin opIx (eVar 7) (eC (.int 0))) (eC (.str "ring")))) (sSeq (sSet 6 (eBin opAdd (eVar 6) (eC (.int 1))))
    (sIf (tsE (eCall fs_L_ends (aCons (eBin opAdd (eVar 5) (eLst (aCons (eVar 3) aNil))) aNil))) (sRet (eC (.bl false))) sNext)) (sDrop (eMut 5 okT "list" muAppend (aCons (eVar 3) aNil))))
    (sSeq (sIf (tsE (eBin opEq (eBin opIx (eVar 7) (eC (.int 0))) (eC (.str "moved")))) (sSeq (sSet 8 (eMeth isKT opIndexT (eVar 4) (aCons (eBin opIx (eVar 3) (eC (.int 1))) aNil)))
    (sSeq (sSet 9 (eMeth isKT opIndexT (eVar 4) (aCons (eBin opIx (eVar 3) (eC (.int 0))) aNil)))
    (sSeq (sIf (tsOr (tsE (eBin opNe (eSl (opSl false) (eBin opIx (eVar 7) (eC (.int 1))) pNo (pSome (eVar 8))) (eSl (opSl true) (eVar 4) pNo (pSome (eVar 8))))) (tsE (eBin opNe (eSl (opSl false) (eBin opIx (eVar 7) (eC (.int 1))) (pSome (eBin opAdd (eVar 9) (eC (.int 1)))) pNo) (eSl (opSl true) (eVar 4) (pSome (eBin opAdd (eVar 9) (eC (.int 1)))) pNo)))) (sRet (eC (.bl false))) sNext)
    (sSet 4 (eBin opIx (eVar 7) (eC (.int 1))))))) sNext)
    (sIf (tsOr (tsE (eBin opNe (eCB fSortT (aCons (eVar 4) aNil)) (eLRg1 (eVar 1)))) (tsNot (tsE (eCallL fs_L_are_kept (aCons (eVar 4) (aCons (eVar 5) aNil)))))) (sRet (eC (.bl false))) sNext)))
theorem sc_law : FnScope ["_law_script", "_law_many", "_law_arrows", "_law_pair", "_law_row", "_law_taken", "_law_refused", "_law_told", "_law_first", "_law_last"] ["_law_script"] (defScope s_law) := ⟨rfl, rfl, rfl, by decide +kernel, rfl, by decide +kernel, by decide +kernel⟩
def sem_law : Sem :=
  (sSeq (sSet 1 (eBin opAdd (eC (.int 2)) (eCall fs_L_mixed (aCons (eVar 0) (aCons (eC (.int 0)) (aCons (eC (.int 11)) aNil))))))
    (sSeq (sSet 2 (eCall fs_L_pairs (aCons (eVar 0) (aCons (eC (.int 1)) (aCons (eVar 1) (aCons (eC (.int 30)) aNil))))))
    (sSeq (sIf (tsE (eBin opEq (eCall fs_L_mixed (aCons (eVar 0) (aCons (eC (.int 4)) (aCons (eC (.int 3)) aNil)))) (eC (.int 0)))) (sSet 2 (eComp (itBy lstOf (eVar 2)) (bN 3) tTrue ce_law_1 [3])) sNext)
    (sSeq (sSet 4 (eTRg1 (eVar 1)))
    (sSeq (sSet 5 (eLst aNil))
    (sSeq (sSet 6 (eC (.int 0)))
    (sSeq (sFor (itZipA (aCons (eMat (eVar 2)) (aCons (eMat (eCall fs_kept (aCons (eVar 1) (aCons (eVar 2) aNil)))) aNil))) (bT 2 (bsCons (bN 3) (bsCons (bN 7) bsNil))) bd_law_2)
    (sSeq (sIf (tsAnd (tsE (eBin opGt (eVar 6) (eC (.int 0)))) (tsE (eCall fs_L_ends (aCons (eVar 2) aNil)))) (sRet (eC (.bl false))) sNext)
    (sRet (eBin opEq (eCall fs_row_behind (aCons (eVar 1) (aCons (eVar 2) aNil))) (eVar 4)))))))))))
def fs_law : List D → Rf := fsOf 10 sem_law
theorem ok_law {P : Program} {w : World} {K : PySem.W.Frag} {mg : Str → Option Value} {base : Heap} (T : Tops K mg) : FnOk P w K mg base CX0 6 T.law.f T.law.fd ["_law_script"] (fun vs H Q _ => ∃ F ds, Same F H ∧ Reps K F vs ds ∧ vs.length = 1 ∧ fs_law ds = .fz (.bl true) ∧ ∀ H', Q (.bl true) H') := by
  refine T.law.F.ok sc_law (fun vs H Q E h => ?_) (fun cdv A outer s H vs Q E hr h => ?_)
  · obtain ⟨F, ds, _, _, h, _⟩ := h
    exact h
  · have hu0 := hr.units0
    have hu64 := hr.units
    have hu65 := units65 hr
    have hu1 := units1 hr
    obtain ⟨F, ds, hs, hrp, hl, hq, hk⟩ := h
    exact ⟨_, (pss_cons (ps_set (i := 1) sc_law.nd rfl (by first | exact .inl rfl | exact .inr rfl) (pe_op op_addAll pe_int (pe_callS (ok_L_mixed T) (hr.mono (by decide)) (by rfl) T.L_mixed.g T.L_mixed.k T.L_mixed.b (fun σ => passAt takes0 σ) (pa_cons (pv 0) (pa_cons pe_int (pa_cons pe_int pa_nil))))))
      (pss_cons (ps_set (i := 2) sc_law.nd rfl (by first | exact .inl rfl | exact .inr rfl) (pe_callS (ok_L_pairs T) (hr.mono (by decide)) (by rfl) T.L_pairs.g T.L_pairs.k T.L_pairs.b (fun σ => passAt takes0 σ) (pa_cons (pv 0) (pa_cons pe_int (pa_cons (pv 1) (pa_cons pe_int pa_nil))))))
      (pss_cons (ps_if (pt_cmpR (op_eqK (K := K) hu64) (pe_callS (ok_L_mixed T) (hr.mono (by decide)) (by rfl) T.L_mixed.g T.L_mixed.k T.L_mixed.b (fun σ => passAt takes0 σ) (pa_cons (pv 0) (pa_cons pe_int (pa_cons pe_int pa_nil)))) pe_int (nomark _)) (pss_one (ps_setLc (i := 2) rfl sc_law.nd rfl rfl (by rfl) (pi_list (pv 2)) (blk_of (own := [("_law_pair", 3)]) (by kernel_rfl)) (fun s H C cl fp => (pg_name (i := 3) sc_law.nd rfl (by first | exact .inl rfl | exact .inr rfl))) (fun s H C cl fp => pts_nil) (fun s H C cl fp => (pe_tup (pa_cons (pe_callB (cr_maxT rfl hu64) (by rfl) T.n_max bt_max (pa_cons (pv 3) pa_nil)) (pa_cons (pe_callB (cr_minT rfl hu64) (by rfl) T.n_min bt_min (pa_cons (pv 3) pa_nil)) pa_nil)))))) pss_nil)
      (pss_cons (ps_set (i := 4) sc_law.nd rfl (by first | exact .inl rfl | exact .inr rfl) (pe_tupRgF rfl (by rfl) T.n_tuple (prg_1 (by rfl) T.n_range (pv 1))))
      (pss_cons (ps_set (i := 5) sc_law.nd rfl (by first | exact .inl rfl | exact .inr rfl) (pe_lst pa_nil))
      (pss_cons (ps_set (i := 6) sc_law.nd rfl (by first | exact .inl rfl | exact .inr rfl) pe_int)
      (pss_cons (ps_for PassesOwn.never rfl (RZ.pi_zipA (by rfl) T.n_zip (pa_cons (pv 2) (pa_cons (pe_callS (ok_kept T) (hr.mono (by decide)) (by rfl) T.kept.g T.kept.k T.kept.b (fun σ => passAt takes0 σ) (pa_cons (pv 1) (pa_cons (pv 2) pa_nil))) pa_nil))) (pg_tupK (K := K) rfl (pgs_cons (pg_name (i := 3) sc_law.nd rfl (by first | exact .inl rfl | exact .inr rfl)) (pgs_cons (pg_name (i := 7) sc_law.nd rfl (by first | exact .inl rfl | exact .inr rfl)) pgs_nil)))
      (pss_cons (ps_if (pt_cmpR (op_eqK (K := K) hu64) (pe_ix (ix_seqK (K := K)) (pv 7) pe_int (fun _ _ => rfl)) pe_str (nomark _)) (pss_cons (ps_set (i := 6) sc_law.nd rfl (by first | exact .inl rfl | exact .inr rfl) (pe_op op_addAll (pv 6) pe_int))
      (pss_one (ps_if (pt_val (pe_callS (ok_L_ends T) (hr.mono (by decide)) (by rfl) T.L_ends.g T.L_ends.k T.L_ends.b (fun σ => passAt takes0 σ) (pa_cons (pe_op op_addAll (pv 5) (pe_lst (pa_cons (pv 3) pa_nil))) pa_nil))) (pss_one (ps_ret pe_bl)) pss_nil))) (pss_one (ps_expr (pe_bm PySem.F.plainAttrs_list PySem.F.slot_list_append PySem.F.type_list_append mt_append (pv 5) (pa_cons (pv 3) pa_nil)))))
      (pss_cons (ps_if (pt_cmpR (op_eqK (K := K) hu64) (pe_ix (ix_seqK (K := K)) (pv 7) pe_int (fun _ _ => rfl)) pe_str (nomark _)) (pss_cons (ps_set (i := 8) sc_law.nd rfl (by first | exact .inl rfl | exact .inr rfl) (pe_tm PySem.F.plainAttrs_tuple PySem.F.slot_tuple_index PySem.F.type_tuple_index (mt_indexT hu65) (pv 4) (pa_cons (pe_ix (ix_seqK (K := K)) (pv 3) pe_int (fun _ _ => rfl)) pa_nil)))
      (pss_cons (ps_set (i := 9) sc_law.nd rfl (by first | exact .inl rfl | exact .inr rfl) (pe_tm PySem.F.plainAttrs_tuple PySem.F.slot_tuple_index PySem.F.type_tuple_index (mt_indexT hu65) (pv 4) (pa_cons (pe_ix (ix_seqK (K := K)) (pv 3) pe_int (fun _ _ => rfl)) pa_nil)))
      (pss_cons (ps_if (PW.pt (pw_or (pt_cmpR (op_neK (K := K) hu64) (pe_slice sl_AP (pe_ix (ix_seqK (K := K)) (pv 7) pe_int (fun _ _ => rfl)) po_none (po_some (pv 8))) (pe_slice sl_AF (pv 4) po_none (po_some (pv 8))) (nomark _)) (pw_or1 (pt_cmpR (op_neK (K := K) hu64) (pe_slice sl_AP (pe_ix (ix_seqK (K := K)) (pv 7) pe_int (fun _ _ => rfl)) (po_some (pe_op op_addAll (pv 9) pe_int)) po_none) (pe_slice sl_AF (pv 4) (po_some (pe_op op_addAll (pv 9) pe_int)) po_none) (nomark _))))) (pss_one (ps_ret pe_bl)) pss_nil)
      (pss_one (ps_set (i := 4) sc_law.nd rfl (by first | exact .inl rfl | exact .inr rfl) (pe_ix (ix_seqK (K := K)) (pv 7) pe_int (fun _ _ => rfl))))))) pss_nil)
      (pss_one (ps_if (PW.pt (pw_or (pt_cmpR (op_neK (K := K) hu64) (pe_callB cr_sortTI (by rfl) T.n_sorted bt_sorted (pa_cons (pv 4) pa_nil)) (pe_listRg rfl (by rfl) T.n_list (prg_1 (by rfl) T.n_range (pv 1))) (nomark _)) (pw_or1 (pt_not (pt_val (pe_callS (ok_L_are_kept T) (hr.mono (by decide)) (by rfl) T.L_are_kept.g T.L_are_kept.k T.L_are_kept.b (fun σ => passAt takes0 σ) (pa_cons (pv 4) (pa_cons (pv 5) pa_nil)))))))) (pss_one (ps_ret pe_bl)) pss_nil)))))
      (pss_cons (ps_if (PW.pt (pw_and (pt_cmpR op_gt (pv 6) pe_int (nomark _)) (pw_and1 (pt_val (pe_callS (ok_L_ends T) (hr.mono (by decide)) (by rfl) T.L_ends.g T.L_ends.k T.L_ends.b (fun σ => passAt takes0 σ) (pa_cons (pv 2) pa_nil)))))) (pss_one (ps_ret pe_bl)) pss_nil)
      (pss_one (ps_ret (pe_cmpR (op_eqK (K := K) hu64) (pe_callS (ok_row_behind T) (hr.mono (by decide)) (by rfl) T.row_behind.g T.row_behind.k T.row_behind.b (fun σ => passAt takes0 σ) (pa_cons (pv 1) (pa_cons (pv 2) pa_nil))) (pv 4) (nomark _)))))))))))), fin_law (ec := ecOf T) (g := sem_law) (snd_seq (snd_set (m := true) (ltN rfl) (snd_bin os_add snd_int (snd_call (snd_cons (snd_var (ltN rfl)) (snd_cons snd_int (snd_cons snd_int snd_nil))))))
      (snd_seq (snd_set (m := true) (ltN rfl) (snd_call (snd_cons (snd_var (ltN rfl)) (snd_cons snd_int (snd_cons (snd_var (ltN rfl)) (snd_cons snd_int snd_nil))))))
      (snd_seq (snd_if (snd_ts (snd_bin os_eq (snd_call (snd_cons (snd_var (ltN rfl)) (snd_cons snd_int (snd_cons snd_int snd_nil)))) snd_int)) (snd_set (m := true) (ltN rfl) (snd_comp (si_list (snd_var (ltN rfl))) (sg_name (ltN rfl)) snd_pts0 (snd_tup (snd_cons (snd_cb cs_maxT nx_fMaxT (snd_cons (snd_var (ltN rfl)) snd_nil)) (snd_cons (snd_cb cs_minT nx_fMinT (snd_cons (snd_var (ltN rfl)) snd_nil)) snd_nil))))) snd_next)
      (snd_seq (snd_set (m := true) (ltN rfl) (snd_trg1 (snd_var (ltN rfl))))
      (snd_seq (snd_set (m := true) (ltN rfl) (snd_lst snd_nil))
      (snd_seq (snd_set (m := true) (ltN rfl) snd_int)
      (snd_seq (snd_for (m := true) (si_zip (snd_consM (snd_var (ltN rfl)) (snd_consM (snd_call (snd_cons (snd_var (ltN rfl)) (snd_cons (snd_var (ltN rfl)) snd_nil))) snd_nil))) (sg_tup (sgs_cons (sg_name (ltN rfl)) (sgs_cons (sg_name (ltN rfl)) sgs_nil)))
      (snd_seq (snd_if (snd_ts (snd_bin os_eq (snd_bin os_ix (snd_var (ltN rfl)) snd_int) snd_str)) (snd_seq (snd_set (m := true) (ltN rfl) (snd_bin os_add (snd_var (ltN rfl)) snd_int))
      (snd_if (snd_tb (snd_call (snd_cons (snd_bin os_add (snd_var (ltN rfl)) (snd_lst (snd_cons (snd_var (ltN rfl)) snd_nil))) snd_nil))) (snd_ret (m := true) snd_bl) snd_next)) (snd_drop (m := true) (snd_mut (sp_var (ltN rfl)) ms_append (snd_cons (snd_var (ltN rfl)) snd_nil) (.inr (ltN rfl)))))
      (snd_seq (snd_if (snd_ts (snd_bin os_eq (snd_bin os_ix (snd_var (ltN rfl)) snd_int) snd_str)) (snd_seq (snd_set (m := true) (ltN rfl) (snd_tm mh_indexT (snd_var (ltN rfl)) (snd_cons (snd_bin os_ix (snd_var (ltN rfl)) snd_int) snd_nil)))
      (snd_seq (snd_set (m := true) (ltN rfl) (snd_tm mh_indexT (snd_var (ltN rfl)) (snd_cons (snd_bin os_ix (snd_var (ltN rfl)) snd_int) snd_nil)))
      (snd_seq (snd_if (snd_tor (snd_ts (snd_bin os_ne (snd_sl ss_AP (snd_bin os_ix (snd_var (ltN rfl)) snd_int) snd_pno (snd_psome (snd_var (ltN rfl)))) (snd_sl ss_AF (snd_var (ltN rfl)) snd_pno (snd_psome (snd_var (ltN rfl)))))) (snd_ts (snd_bin os_ne (snd_sl ss_AP (snd_bin os_ix (snd_var (ltN rfl)) snd_int) (snd_psome (snd_bin os_add (snd_var (ltN rfl)) snd_int)) snd_pno) (snd_sl ss_AF (snd_var (ltN rfl)) (snd_psome (snd_bin os_add (snd_var (ltN rfl)) snd_int)) snd_pno)))) (snd_ret (m := true) snd_bl) snd_next)
      (snd_set (m := true) (ltN rfl) (snd_bin os_ix (snd_var (ltN rfl)) snd_int))))) snd_next)
      (snd_if (snd_tor (snd_ts (snd_bin os_ne (snd_cb cs_sortT nx_fSortT (snd_cons (snd_var (ltN rfl)) snd_nil)) (snd_lrg1 (snd_var (ltN rfl))))) (snd_tnot (snd_tb (snd_callL (snd_cons (snd_var (ltN rfl)) (snd_cons (snd_var (ltN rfl)) snd_nil)))))) (snd_ret (m := true) snd_bl) snd_next))))
      (snd_seq (snd_if (snd_tand (snd_ts (snd_bin os_gt (snd_var (ltN rfl)) snd_int)) (snd_tb (snd_call (snd_cons (snd_var (ltN rfl)) snd_nil)))) (snd_ret (m := true) snd_bl) snd_next)
      (snd_ret (m := true) (snd_bin os_eq (snd_call (snd_cons (snd_var (ltN rfl)) (snd_cons (snd_var (ltN rfl)) snd_nil))) (snd_var (ltN rfl)))))))))))) (by rw [hl]; decide) hs hrp hq hk⟩
def spL (K : PySem.W.Frag) : L2.Sp := (fun vs H Q _ => ∃ F ds, Same F H ∧ Reps K F vs ds ∧ vs.length = 1 ∧ fs_law ds = .fz (.bl true) ∧ ∀ H', Q (.bl true) H')
theorem all_mk {P : Program} {w : World} {K : PySem.W.Frag} {h : Heap} {mg : Str → Option Value} {fa : Addr} (X : K.In h) (G : h.Ns mainGlobals mg) (hfa : mg "law" = some (.ref fa))
    {f0 : Addr} {oc0 kV0 dc0 pm0 cd0 ct0 : Value} {od0 an0 : Option Addr} {sl0 : Array (Option Value)}
    {f1 : Addr} {oc1 kV1 dc1 pm1 cd1 ct1 : Value} {od1 an1 : Option Addr} {sl1 : Array (Option Value)}
    {f2 : Addr} {oc2 kV2 dc2 pm2 cd2 ct2 : Value} {od2 an2 : Option Addr} {sl2 : Array (Option Value)}
    {f3 : Addr} {oc3 kV3 dc3 pm3 cd3 ct3 : Value} {od3 an3 : Option Addr} {sl3 : Array (Option Value)}
    {f4 : Addr} {oc4 kV4 dc4 pm4 cd4 ct4 : Value} {od4 an4 : Option Addr} {sl4 : Array (Option Value)}
    {f5 : Addr} {oc5 kV5 dc5 pm5 cd5 ct5 : Value} {od5 an5 : Option Addr} {sl5 : Array (Option Value)}
    {f6 : Addr} {oc6 kV6 dc6 pm6 cd6 ct6 : Value} {od6 an6 : Option Addr} {sl6 : Array (Option Value)}
    {f7 : Addr} {oc7 kV7 dc7 pm7 cd7 ct7 : Value} {od7 an7 : Option Addr} {sl7 : Array (Option Value)}
    {f8 : Addr} {oc8 kV8 dc8 pm8 cd8 ct8 : Value} {od8 an8 : Option Addr} {sl8 : Array (Option Value)}
    {f9 : Addr} {oc9 kV9 dc9 pm9 cd9 ct9 : Value} {od9 an9 : Option Addr} {sl9 : Array (Option Value)}
    {f10 : Addr} {oc10 kV10 dc10 pm10 cd10 ct10 : Value} {od10 an10 : Option Addr} {sl10 : Array (Option Value)}
    {f11 : Addr} {oc11 kV11 dc11 pm11 cd11 ct11 : Value} {od11 an11 : Option Addr} {sl11 : Array (Option Value)}
    {CTurnError : Addr}
    {CNoNumber : Addr}
    {CNoArrows : Addr}
    {tTHINGS : Tok}
    {CKeeper : Addr}
    {fKeeperinit : Addr} {ocKeeperinit kVKeeperinit dcKeeperinit pmKeeperinit cdKeeperinit ctKeeperinit : Value} {odKeeperinit anKeeperinit : Option Addr} {slKeeperinit : Array (Option Value)}
    {fKeeperled : Addr} {ocKeeperled kVKeeperled dcKeeperled pmKeeperled cdKeeperled ctKeeperled : Value} {odKeeperled anKeeperled : Option Addr} {slKeeperled : Array (Option Value)}
    {fKeeperring_by : Addr} {ocKeeperring_by kVKeeperring_by dcKeeperring_by pmKeeperring_by cdKeeperring_by ctKeeperring_by : Value} {odKeeperring_by anKeeperring_by : Option Addr} {slKeeperring_by : Array (Option Value)}
    {fKeeperchange : Addr} {ocKeeperchange kVKeeperchange dcKeeperchange pmKeeperchange cdKeeperchange ctKeeperchange : Value} {odKeeperchange anKeeperchange : Option Addr} {slKeeperchange : Array (Option Value)}
    {fKeepercome : Addr} {ocKeepercome kVKeepercome dcKeepercome pmKeepercome cdKeepercome ctKeepercome : Value} {odKeepercome anKeepercome : Option Addr} {slKeepercome : Array (Option Value)}
    (a0 : PySem.W.nsIn K mainGlobals "is_whole" = some (some (.ref f0))) (l0 : K.lookup f0 = some ⟨oc0, od0, .func (PySem.W.fnOf "is_whole" "is_whole" (defArgs s_is_whole) (defBody s_is_whole) (defScope s_is_whole) .none kV0 dc0 pm0 an0 cd0 ct0), sl0⟩) (c0 : PySem.W.codeIn K cd0 "is_whole" = true) (k0 : PySem.W.keepIn K (.ref f0) = true)
    (a1 : PySem.W.nsIn K mainGlobals "between" = some (some (.ref f1))) (l1 : K.lookup f1 = some ⟨oc1, od1, .func (PySem.W.fnOf "between" "between" (defArgs s_between) (defBody s_between) (defScope s_between) .none kV1 dc1 pm1 an1 cd1 ct1), sl1⟩) (c1 : PySem.W.codeIn K cd1 "between" = true) (k1 : PySem.W.keepIn K (.ref f1) = true)
    (a2 : PySem.W.nsIn K mainGlobals "is_pair" = some (some (.ref f2))) (l2 : K.lookup f2 = some ⟨oc2, od2, .func (PySem.W.fnOf "is_pair" "is_pair" (defArgs s_is_pair) (defBody s_is_pair) (defScope s_is_pair) .none kV2 dc2 pm2 an2 cd2 ct2), sl2⟩) (c2 : PySem.W.codeIn K cd2 "is_pair" = true) (k2 : PySem.W.keepIn K (.ref f2) = true)
    (a3 : PySem.W.nsIn K mainGlobals "all_come" = some (some (.ref f3))) (l3 : K.lookup f3 = some ⟨oc3, od3, .func (PySem.W.fnOf "all_come" "all_come" (defArgs s_all_come) (defBody s_all_come) (defScope s_all_come) .none kV3 dc3 pm3 an3 cd3 ct3), sl3⟩) (c3 : PySem.W.codeIn K cd3 "all_come" = true) (k3 : PySem.W.keepIn K (.ref f3) = true)
    (a4 : PySem.W.nsIn K mainGlobals "kept" = some (some (.ref f4))) (l4 : K.lookup f4 = some ⟨oc4, od4, .func (PySem.W.fnOf "kept" "kept" (defArgs s_kept) (defBody s_kept) (defScope s_kept) .none kV4 dc4 pm4 an4 cd4 ct4), sl4⟩) (c4 : PySem.W.codeIn K cd4 "kept" = true) (k4 : PySem.W.keepIn K (.ref f4) = true)
    (a5 : PySem.W.nsIn K mainGlobals "row_behind" = some (some (.ref f5))) (l5 : K.lookup f5 = some ⟨oc5, od5, .func (PySem.W.fnOf "row_behind" "row_behind" (defArgs s_row_behind) (defBody s_row_behind) (defScope s_row_behind) .none kV5 dc5 pm5 an5 cd5 ct5), sl5⟩) (c5 : PySem.W.codeIn K cd5 "row_behind" = true) (k5 : PySem.W.keepIn K (.ref f5) = true)
    (a6 : PySem.W.nsIn K mainGlobals "_law_cell_at" = some (some (.ref f6))) (l6 : K.lookup f6 = some ⟨oc6, od6, .func (PySem.W.fnOf "_law_cell_at" "_law_cell_at" (defArgs s_L_cell_at) (defBody s_L_cell_at) (defScope s_L_cell_at) .none kV6 dc6 pm6 an6 cd6 ct6), sl6⟩) (c6 : PySem.W.codeIn K cd6 "_law_cell_at" = true) (k6 : PySem.W.keepIn K (.ref f6) = true)
    (a7 : PySem.W.nsIn K mainGlobals "_law_mixed" = some (some (.ref f7))) (l7 : K.lookup f7 = some ⟨oc7, od7, .func (PySem.W.fnOf "_law_mixed" "_law_mixed" (defArgs s_L_mixed) (defBody s_L_mixed) (defScope s_L_mixed) .none kV7 dc7 pm7 an7 cd7 ct7), sl7⟩) (c7 : PySem.W.codeIn K cd7 "_law_mixed" = true) (k7 : PySem.W.keepIn K (.ref f7) = true)
    (a8 : PySem.W.nsIn K mainGlobals "_law_pairs" = some (some (.ref f8))) (l8 : K.lookup f8 = some ⟨oc8, od8, .func (PySem.W.fnOf "_law_pairs" "_law_pairs" (defArgs s_L_pairs) (defBody s_L_pairs) (defScope s_L_pairs) .none kV8 dc8 pm8 an8 cd8 ct8), sl8⟩) (c8 : PySem.W.codeIn K cd8 "_law_pairs" = true) (k8 : PySem.W.keepIn K (.ref f8) = true)
    (a9 : PySem.W.nsIn K mainGlobals "_law_are_kept" = some (some (.ref f9))) (l9 : K.lookup f9 = some ⟨oc9, od9, .func (PySem.W.fnOf "_law_are_kept" "_law_are_kept" (defArgs s_L_are_kept) (defBody s_L_are_kept) (defScope s_L_are_kept) .none kV9 dc9 pm9 an9 cd9 ct9), sl9⟩) (c9 : PySem.W.codeIn K cd9 "_law_are_kept" = true) (k9 : PySem.W.keepIn K (.ref f9) = true)
    (a10 : PySem.W.nsIn K mainGlobals "_law_ends" = some (some (.ref f10))) (l10 : K.lookup f10 = some ⟨oc10, od10, .func (PySem.W.fnOf "_law_ends" "_law_ends" (defArgs s_L_ends) (defBody s_L_ends) (defScope s_L_ends) .none kV10 dc10 pm10 an10 cd10 ct10), sl10⟩) (c10 : PySem.W.codeIn K cd10 "_law_ends" = true) (k10 : PySem.W.keepIn K (.ref f10) = true)
    (a11 : PySem.W.nsIn K mainGlobals "law" = some (some (.ref f11))) (l11 : K.lookup f11 = some ⟨oc11, od11, .func (PySem.W.fnOf "law" "law" (defArgs s_law) (defBody s_law) (defScope s_law) .none kV11 dc11 pm11 an11 cd11 ct11), sl11⟩) (c11 : PySem.W.codeIn K cd11 "law" = true) (k11 : PySem.W.keepIn K (.ref f11) = true)
    (gTurnError : PySem.W.nsIn K mainGlobals "TurnError" = some (some (.ref CTurnError))) (kTurnError : PySem.W.keepIn K (.ref CTurnError) = true) (qTurnError : PySem.W.excIn K CTurnError [.type "ValueError", .type "Exception", .type "BaseException", .type "object"] "ValueError.__new__" = true) (eTurnError : PySem.W.subIn K (.ref CTurnError) (.type "BaseException") = some true) (tTurnError : PySem.W.typeIn K (.ref CTurnError) = some (.type "type"))
    (gNoNumber : PySem.W.nsIn K mainGlobals "NoNumber" = some (some (.ref CNoNumber))) (kNoNumber : PySem.W.keepIn K (.ref CNoNumber) = true) (qNoNumber : PySem.W.excIn K CNoNumber [.type "ValueError", .type "Exception", .type "BaseException", .type "object"] "ValueError.__new__" = true) (eNoNumber : PySem.W.subIn K (.ref CNoNumber) (.type "BaseException") = some true) (tNoNumber : PySem.W.typeIn K (.ref CNoNumber) = some (.type "type"))
    (gNoArrows : PySem.W.nsIn K mainGlobals "NoArrows" = some (some (.ref CNoArrows))) (kNoArrows : PySem.W.keepIn K (.ref CNoArrows) = true) (qNoArrows : PySem.W.excIn K CNoArrows [.type "ValueError", .type "Exception", .type "BaseException", .type "object"] "ValueError.__new__" = true) (eNoArrows : PySem.W.subIn K (.ref CNoArrows) (.type "BaseException") = some true) (tNoArrows : PySem.W.typeIn K (.ref CNoArrows) = some (.type "type"))
    (zall : PySem.W.nsIn K mainGlobals "all" = some none)
    (zbool : PySem.W.nsIn K mainGlobals "bool" = some none)
    (zint : PySem.W.nsIn K mainGlobals "int" = some none)
    (zisinstance : PySem.W.nsIn K mainGlobals "isinstance" = some none)
    (zlen : PySem.W.nsIn K mainGlobals "len" = some none)
    (zlist : PySem.W.nsIn K mainGlobals "list" = some none)
    (zmax : PySem.W.nsIn K mainGlobals "max" = some none)
    (zmin : PySem.W.nsIn K mainGlobals "min" = some none)
    (zrange : PySem.W.nsIn K mainGlobals "range" = some none)
    (zsorted : PySem.W.nsIn K mainGlobals "sorted" = some none)
    (ztuple : PySem.W.nsIn K mainGlobals "tuple" = some none)
    (zzip : PySem.W.nsIn K mainGlobals "zip" = some none)
    (vTHINGS : PySem.W.nsIn K mainGlobals "THINGS" = some (some (.int 12 tTHINGS)))
    (gKeeper : PySem.W.nsIn K mainGlobals "Keeper" = some (some (.ref CKeeper))) (pgKeeper : PySem.W.plainGet K CKeeper Str.empty = true) (hdKeeper : PySem.W.hasDictIn K CKeeper = true) (poKeeper : PySem.W.plainOver K CKeeper = true) (saKeeper : PySem.W.findIn K (.ref CKeeper) "__setattr__" = some (some (.builtin "object.__setattr__"))) (mkKeeper : PySem.W.makesIn K CKeeper = true) (kcKeeper : PySem.W.keepIn K (.ref CKeeper) = true)
    (naKeeperrow : PySem.W.findIn K (.ref CKeeper) "row" = some none)
    (naKeepertaken : PySem.W.findIn K (.ref CKeeper) "taken" = some none)
    (aKeeperinit : PySem.W.findIn K (.ref CKeeper) "__init__" = some (some (.ref fKeeperinit))) (iKeeperinit : PySem.W.isFn K (.ref fKeeperinit) = true) (lKeeperinit : K.lookup fKeeperinit = some ⟨ocKeeperinit, odKeeperinit, .func (PySem.W.fnOf "__init__" "Keeper.__init__" (defArgs (inClass (topS 9) 0)) (defBody (inClass (topS 9) 0)) (defScope (inClass (topS 9) 0)) .none kVKeeperinit dcKeeperinit pmKeeperinit anKeeperinit cdKeeperinit ctKeeperinit), slKeeperinit⟩) (cKeeperinit : PySem.W.codeIn K cdKeeperinit "Keeper.__init__" = true) (kKeeperinit : PySem.W.keepIn K (.ref fKeeperinit) = true)
    (aKeeperled : PySem.W.findIn K (.ref CKeeper) "led" = some (some (.ref fKeeperled))) (iKeeperled : PySem.W.isFn K (.ref fKeeperled) = true) (lKeeperled : K.lookup fKeeperled = some ⟨ocKeeperled, odKeeperled, .func (PySem.W.fnOf "led" "Keeper.led" (defArgs (inClass (topS 9) 1)) (defBody (inClass (topS 9) 1)) (defScope (inClass (topS 9) 1)) .none kVKeeperled dcKeeperled pmKeeperled anKeeperled cdKeeperled ctKeeperled), slKeeperled⟩) (cKeeperled : PySem.W.codeIn K cdKeeperled "Keeper.led" = true) (kKeeperled : PySem.W.keepIn K (.ref fKeeperled) = true)
    (aKeeperring_by : PySem.W.findIn K (.ref CKeeper) "ring_by" = some (some (.ref fKeeperring_by))) (iKeeperring_by : PySem.W.isFn K (.ref fKeeperring_by) = true) (lKeeperring_by : K.lookup fKeeperring_by = some ⟨ocKeeperring_by, odKeeperring_by, .func (PySem.W.fnOf "ring_by" "Keeper.ring_by" (defArgs (inClass (topS 9) 2)) (defBody (inClass (topS 9) 2)) (defScope (inClass (topS 9) 2)) .none kVKeeperring_by dcKeeperring_by pmKeeperring_by anKeeperring_by cdKeeperring_by ctKeeperring_by), slKeeperring_by⟩) (cKeeperring_by : PySem.W.codeIn K cdKeeperring_by "Keeper.ring_by" = true) (kKeeperring_by : PySem.W.keepIn K (.ref fKeeperring_by) = true)
    (aKeeperchange : PySem.W.findIn K (.ref CKeeper) "change" = some (some (.ref fKeeperchange))) (iKeeperchange : PySem.W.isFn K (.ref fKeeperchange) = true) (lKeeperchange : K.lookup fKeeperchange = some ⟨ocKeeperchange, odKeeperchange, .func (PySem.W.fnOf "change" "Keeper.change" (defArgs (inClass (topS 9) 3)) (defBody (inClass (topS 9) 3)) (defScope (inClass (topS 9) 3)) .none kVKeeperchange dcKeeperchange pmKeeperchange anKeeperchange cdKeeperchange ctKeeperchange), slKeeperchange⟩) (cKeeperchange : PySem.W.codeIn K cdKeeperchange "Keeper.change" = true) (kKeeperchange : PySem.W.keepIn K (.ref fKeeperchange) = true)
    (aKeepercome : PySem.W.findIn K (.ref CKeeper) "come" = some (some (.ref fKeepercome))) (iKeepercome : PySem.W.isFn K (.ref fKeepercome) = true) (lKeepercome : K.lookup fKeepercome = some ⟨ocKeepercome, odKeepercome, .func (PySem.W.fnOf "come" "Keeper.come" (defArgs (inClass (topS 9) 4)) (defBody (inClass (topS 9) 4)) (defScope (inClass (topS 9) 4)) .none kVKeepercome dcKeepercome pmKeepercome anKeepercome cdKeepercome ctKeepercome), slKeepercome⟩) (cKeepercome : PySem.W.codeIn K cdKeepercome "Keeper.come" = true) (kKeepercome : PySem.W.keepIn K (.ref fKeepercome) = true)
    : ∃ fd : FuncData, (∀ (s : Shared) (u : Value), BindsTo s fd ⟨[u], []⟩ [("_law_script", u)]) ∧ ∀ base : Heap, K.In base → base.Ns mainGlobals mg → FnOk P w K mg base CX0 6 fa fd ["_law_script"] (spL K) := by
  have e := hfa.symm.trans (PySem.W.mg_of X G a11)
  cases e
  let T : Tops K mg := {
    is_whole := ⟨f0, _, PySem.W.mg_of X G a0, k0, fun_mk l0 c0 k0, (fun_mk (st := s_is_whole) l0 c0 k0).binds (fun _ _ _ _ _ _ us hl => match us, hl with | [_], _ => rfl)⟩,
    between := ⟨f1, _, PySem.W.mg_of X G a1, k1, fun_mk l1 c1 k1, (fun_mk (st := s_between) l1 c1 k1).binds (fun _ _ _ _ _ _ us hl => match us, hl with | [_, _, _], _ => rfl)⟩,
    is_pair := ⟨f2, _, PySem.W.mg_of X G a2, k2, fun_mk l2 c2 k2, (fun_mk (st := s_is_pair) l2 c2 k2).binds (fun _ _ _ _ _ _ us hl => match us, hl with | [_, _], _ => rfl)⟩,
    all_come := ⟨f3, _, PySem.W.mg_of X G a3, k3, fun_mk l3 c3 k3, (fun_mk (st := s_all_come) l3 c3 k3).binds (fun _ _ _ _ _ _ us hl => match us, hl with | [_, _], _ => rfl)⟩,
    kept := ⟨f4, _, PySem.W.mg_of X G a4, k4, fun_mk l4 c4 k4, (fun_mk (st := s_kept) l4 c4 k4).binds (fun _ _ _ _ _ _ us hl => match us, hl with | [_, _], _ => rfl)⟩,
    row_behind := ⟨f5, _, PySem.W.mg_of X G a5, k5, fun_mk l5 c5 k5, (fun_mk (st := s_row_behind) l5 c5 k5).binds (fun _ _ _ _ _ _ us hl => match us, hl with | [_, _], _ => rfl)⟩,
    L_cell_at := ⟨f6, _, PySem.W.mg_of X G a6, k6, fun_mk l6 c6 k6, (fun_mk (st := s_L_cell_at) l6 c6 k6).binds (fun _ _ _ _ _ _ us hl => match us, hl with | [_, _], _ => rfl)⟩,
    L_mixed := ⟨f7, _, PySem.W.mg_of X G a7, k7, fun_mk l7 c7 k7, (fun_mk (st := s_L_mixed) l7 c7 k7).binds (fun _ _ _ _ _ _ us hl => match us, hl with | [_, _, _], _ => rfl)⟩,
    L_pairs := ⟨f8, _, PySem.W.mg_of X G a8, k8, fun_mk l8 c8 k8, (fun_mk (st := s_L_pairs) l8 c8 k8).binds (fun _ _ _ _ _ _ us hl => match us, hl with | [_, _, _, _], _ => rfl)⟩,
    L_are_kept := ⟨f9, _, PySem.W.mg_of X G a9, k9, fun_mk l9 c9 k9, (fun_mk (st := s_L_are_kept) l9 c9 k9).binds (fun _ _ _ _ _ _ us hl => match us, hl with | [_, _], _ => rfl)⟩,
    L_ends := ⟨f10, _, PySem.W.mg_of X G a10, k10, fun_mk l10 c10 k10, (fun_mk (st := s_L_ends) l10 c10 k10).binds (fun _ _ _ _ _ _ us hl => match us, hl with | [_], _ => rfl)⟩,
    law := ⟨fa, _, PySem.W.mg_of X G a11, k11, fun_mk l11 c11 k11, (fun_mk (st := s_law) l11 c11 k11).binds (fun _ _ _ _ _ _ us hl => match us, hl with | [_], _ => rfl)⟩,
    x_TurnError := ⟨CTurnError, PySem.W.mg_of X G gTurnError, kTurnError, qTurnError, eTurnError, tTurnError⟩,
    x_NoNumber := ⟨CNoNumber, PySem.W.mg_of X G gNoNumber, kNoNumber, qNoNumber, eNoNumber, tNoNumber⟩,
    x_NoArrows := ⟨CNoArrows, PySem.W.mg_of X G gNoArrows, kNoArrows, qNoArrows, eNoArrows, tNoArrows⟩,
    n_all := PySem.W.mg_none_of X G zall,
    n_bool := PySem.W.mg_none_of X G zbool,
    n_int := PySem.W.mg_none_of X G zint,
    n_isinstance := PySem.W.mg_none_of X G zisinstance,
    n_len := PySem.W.mg_none_of X G zlen,
    n_list := PySem.W.mg_none_of X G zlist,
    n_max := PySem.W.mg_none_of X G zmax,
    n_min := PySem.W.mg_none_of X G zmin,
    n_range := PySem.W.mg_none_of X G zrange,
    n_sorted := PySem.W.mg_none_of X G zsorted,
    n_tuple := PySem.W.mg_none_of X G ztuple,
    n_zip := PySem.W.mg_none_of X G zzip,
    c_THINGS := ⟨tTHINGS, PySem.W.mg_of X G vTHINGS⟩,
    Keeper_C := CKeeper,
    Keeper_g := PySem.W.mg_of X G gKeeper,
    Keeper_cls := ⟨pgKeeper, hdKeeper, poKeeper, saKeeper⟩,
    Keeper_na_row := naKeeperrow,
    Keeper_na_taken := naKeepertaken,
    Keeper_init := ⟨fKeeperinit, _, fun_mk lKeeperinit cKeeperinit kKeeperinit, (fun_mk (st := (inClass (topS 9) 0)) lKeeperinit cKeeperinit kKeeperinit).binds (fun _ _ _ _ _ _ us hl => match us, hl with | [_, _], _ => rfl), ⟨mkKeeper, aKeeperinit, iKeeperinit, kcKeeper⟩⟩,
    Keeper_led := ⟨fKeeperled, _, fun_mk lKeeperled cKeeperled kKeeperled, (fun_mk (st := (inClass (topS 9) 1)) lKeeperled cKeeperled kKeeperled).binds (fun _ _ _ _ _ _ us hl => match us, hl with | [_, _, _], _ => rfl), ⟨aKeeperled, iKeeperled, kKeeperled⟩⟩,
    Keeper_ring_by := ⟨fKeeperring_by, _, fun_mk lKeeperring_by cKeeperring_by kKeeperring_by, (fun_mk (st := (inClass (topS 9) 2)) lKeeperring_by cKeeperring_by kKeeperring_by).binds (fun _ _ _ _ _ _ us hl => match us, hl with | [_, _, _], _ => rfl), ⟨aKeeperring_by, iKeeperring_by, kKeeperring_by⟩⟩,
    Keeper_change := ⟨fKeeperchange, _, fun_mk lKeeperchange cKeeperchange kKeeperchange, (fun_mk (st := (inClass (topS 9) 3)) lKeeperchange cKeeperchange kKeeperchange).binds (fun _ _ _ _ _ _ us hl => match us, hl with | [_, _, _], _ => rfl), ⟨aKeeperchange, iKeeperchange, kKeeperchange⟩⟩,
    Keeper_come := ⟨fKeepercome, _, fun_mk lKeepercome cKeepercome kKeepercome, (fun_mk (st := (inClass (topS 9) 4)) lKeepercome cKeepercome kKeepercome).binds (fun _ _ _ _ _ _ us hl => match us, hl with | [_, _, _], _ => rfl), ⟨aKeepercome, iKeepercome, kKeepercome⟩⟩ }
  exact ⟨PySem.W.fnOf "law" "law" (defArgs s_law) (defBody s_law) (defScope s_law) .none kV11 dc11 pm11 an11 cd11 ct11, fun s u => .of_eq rfl, fun base _ _ => ok_law T⟩
end K17

set_option maxHeartbeats 2000000
namespace K17
open PySem PySem.Spec PyProof.Rows L2 Pv Fw
open PySem.W (Datum DatumOrd Tup T3 T4)
/-! no arrow is turned -/
theorem fs_L_are_kept_ok {m : Nat} {row : List Int} (hr : RowOk m row) {T : List (Int × Int)} (ht : PrsOk m T) (top : Topo row T) : fs_L_are_kept [rowD row, .lst (T.map pqE)] = .fz (.bl true) := by
  have c1 : runComp (bN 2) ct_L_are_kept_1 (eVar 2) [2] (T.map pqE) [.fz (rowD row), .fz (.lst (T.map pqE)), .un] = some ([], [.fz (rowD row), .fz (.lst (T.map pqE)), .un]) := by
    have := runComp_map (b := bN 2) (c := ct_L_are_kept_1) (e := eVar 2) (vs := [2]) (enc := pqE) [.fz (rowD row), .fz (.lst (T.map pqE)), .un] (fun _ => none) T fun p hp => by
      have h1 := opIndexT_row (hr.mem.mpr (ht.rg p hp).1)
      have h2 := opIndexT_row (hr.mem.mpr (ht.rg p hp).2)
      have hlt := top p hp
      have hn : ¬ ((row.idxOf p.2 : Nat) : Int) < ((row.idxOf p.1 : Nat) : Int) := by omega
      have x0 : opIx (pqE p) (.int 0) = some (.int p.1) := rfl
      have x1 : opIx (pqE p) (.int 1) = some (.int p.2) := rfl
      have hk : isKT (rowD row) = true := rfl
      refine ⟨[.fz (rowD row), .fz (.lst (T.map pqE)), .fz (pqE p)], rfl, .inl ⟨?_, rfl, rfl⟩⟩
      generalize pqE p = PD at *
      generalize T.map pqE = TL at *
      generalize rowD row = RD at *
      simp [ct_L_are_kept_1, x0, x1, h1, h2, hk, hn]
    rw [this]
    congr 2
    clear this top ht
    induction T with
    | nil => rfl
    | cons p T ih => simp
  have q : opEq (.lst []) (.lst []) = some (.bl true) := rfl
  generalize T.map pqE = TL at *
  generalize rowD row = RD at *
  simp only [fs_L_are_kept, fsOf, sem_L_are_kept, initE]
  simp [c1, q]
/-! arrows that have a ring are not all pruned -/
abbrev Ev (PL : D) (left : List (Int × Int)) (x2 : Slot) : Envi := [.fz PL, .fz (.lst (left.map pqE)), x2, .un]
theorem ends_src {PL : D} {left : List (Int × Int)} {x2 : Slot} : runComp (bN 3) tTrue ce_L_ends_1 [3] (left.map pqE) (Ev PL left x2) = some ((left.map (·.1)).map .int, Ev PL left x2) := by
  rw [runComp_map (enc := pqE) (F := fun p => some (.int p.1))]
  · rw [List.filterMap_eq_map', List.map_map]; rfl
  · intro p hp
    have x0 : opIx (pqE p) (.int 0) = some (.int p.1) := rfl
    refine ⟨[.fz PL, .fz (.lst (left.map pqE)), x2, .fz (pqE p)], rfl, .inr ⟨rfl, _, [.fz PL, .fz (.lst (left.map pqE)), x2, .fz (pqE p)], ?_, rfl, rfl⟩⟩
    generalize pqE p = PD at *
    simp [ce_L_ends_1, x0]
theorem ends_src3 : ce_L_ends_3 = ce_L_ends_1 := rfl
def sinks (left : List (Int × Int)) : List (Int × Int) := left.filter fun p => !decide (p.2 ∈ left.map (·.1))
def inner (left : List (Int × Int)) : List (Int × Int) := left.filter fun p => decide (p.2 ∈ left.map (·.1))
theorem filt_comp {c : Envi → R Bool} {PL : D} {left : List (Int × Int)} {f : Int × Int → Bool} (h : ∀ p ∈ left, c (Ev PL left (.fz (pqE p))) = .ok (f p) (Ev PL left (.fz (pqE p)))) :
    runComp (bN 2) c (eVar 2) [2] (left.map pqE) (Ev PL left .un) = some ((left.filter f).map pqE, Ev PL left .un) := by
  rw [runComp_map (enc := pqE) (F := fun p => if f p = true then some (pqE p) else none)]
  · congr 2
    clear h
    induction left with
    | nil => rfl
    | cons p left ih =>
      rw [List.filterMap_cons, List.filter_cons, ih]
      cases h : f p <;> simp
  · intro p hp
    have e := h p hp
    cases hf : f p with
    | false =>
      rw [hf] at e
      exact ⟨Ev PL left (.fz (pqE p)), rfl, .inl ⟨e, by simp, rfl⟩⟩
    | true =>
      rw [hf] at e
      exact ⟨Ev PL left (.fz (pqE p)), rfl, .inr ⟨e, pqE p, Ev PL left (.fz (pqE p)), rfl, by simp, rfl⟩⟩
theorem ends_sinks {PL : D} {left : List (Int × Int)} : runComp (bN 2) ct_L_ends_2 (eVar 2) [2] (left.map pqE) (Ev PL left .un) = some ((sinks left).map pqE, Ev PL left .un) := by
  refine filt_comp (f := fun p => !decide (p.2 ∈ left.map (·.1))) fun p hp => ?_
  have x1 : opIx (pqE p) (.int 1) = some (.int p.2) := rfl
  have e := ends_src (PL := PL) (left := left) (x2 := .fz (pqE p))
  have hin := opNotIn_is (a := .int p.2) (l := .lst ((left.map (·.1)).map .int)) (is_int p.2) rfl (iss_ints (left.map (·.1))) (by decide)
  dsimp only [Ev] at e ⊢
  generalize (!decide (p.2 ∈ left.map (·.1))) = b at *
  generalize (left.map (·.1)).map D.int = SD at *
  generalize pqE p = PD at *
  generalize left.map pqE = LD at *
  simp [ct_L_ends_2, x1, e, hin]
theorem ends_inner {PL : D} {left : List (Int × Int)} : runComp (bN 2) ct_L_ends_4 (eVar 2) [2] (left.map pqE) (Ev PL left .un) = some ((inner left).map pqE, Ev PL left .un) := by
  refine filt_comp (f := fun p => decide (p.2 ∈ left.map (·.1))) fun p hp => ?_
  have x1 : opIx (pqE p) (.int 1) = some (.int p.2) := rfl
  have e := ends_src (PL := PL) (left := left) (x2 := .fz (pqE p))
  have hin := opIn_is (a := .int p.2) (l := .lst ((left.map (·.1)).map .int)) (is_int p.2) rfl (iss_ints (left.map (·.1))) (by decide)
  dsimp only [Ev] at e ⊢
  generalize decide (p.2 ∈ left.map (·.1)) = b at *
  generalize (left.map (·.1)).map D.int = SD at *
  generalize pqE p = PD at *
  generalize left.map pqE = LD at *
  simp [ct_L_ends_4, ends_src3, x1, e, hin]
theorem ne_nil (l : List (Int × Int)) : opNe (.lst (l.map pqE)) (.lst []) = some (.bl (!decide (l = []))) := by
  have hi := iss_map (enc := pqE) (fun p : Int × Int => is_pair (x := p.1) (y := p.2) (is_int _) (is_int _)) l
  exact opNe_is (is_lst hi) (is_lst (iss_nil (α := Int × Int))) (by decide)
theorem eq_nil (l : List (Int × Int)) : opEq (.lst (l.map pqE)) (.lst []) = some (.bl (decide (l = []))) := by
  have hi := iss_map (enc := pqE) (fun p : Int × Int => is_pair (x := p.1) (y := p.2) (is_int _) (is_int _)) l
  exact opEq_is (is_lst hi) (is_lst (iss_nil (α := Int × Int))) (by decide)
theorem ends_wt {PL : D} {left : List (Int × Int)} : wt_L_ends_5 [.fz PL, .ow (.li (left.map pqE)), .un, .un] = .ok (!decide (sinks left = [])) (Ev PL left .un) := by
  have c1 := ends_sinks (PL := PL) (left := left)
  have q := ne_nil (sinks left)
  dsimp only [Ev] at c1 ⊢
  generalize (!decide (sinks left = [])) = b at *
  generalize (sinks left).map pqE = SD at *
  generalize left.map pqE = LD at *
  simp [wt_L_ends_5, c1, q]
theorem ends_bd {PL : D} {left : List (Int × Int)} : bd_L_ends_6 (Ev PL left .un) = .nx [.fz PL, .ow (.li ((inner left).map pqE)), .un, .un] := by
  have c1 := ends_inner (PL := PL) (left := left)
  dsimp only [Ev] at c1 ⊢
  generalize (inner left).map pqE = SD at *
  generalize left.map pqE = LD at *
  simp [bd_L_ends_6, c1]
theorem filt_len {α : Type} (f : α → Bool) : ∀ l : List α, (l.filter f).length + (l.filter fun p => !f p).length = l.length
  | [] => rfl
  | p :: l => by
    have ih := filt_len f l
    rw [List.filter_cons, List.filter_cons]
    cases h : f p <;> simp <;> omega
theorem inner_len (left : List (Int × Int)) : (inner left).length + (sinks left).length = left.length := filt_len _ left
theorem ends_loop {PL : D} {S : Int × Int → Prop} : ∀ (N : Nat) (left : List (Int × Int)), left.length < N → (∀ p, S p → p ∈ left) → (∀ p, S p → ∃ q, S q ∧ q.1 = p.2) →
    ∃ left', runW wt_L_ends_5 bd_L_ends_6 N [.fz PL, .ow (.li (left.map pqE)), .un, .un] = .nx (Ev PL left' .un) ∧ ∀ p, S p → p ∈ left'
  | 0, left, hN, _, _ => by omega
  | N + 1, left, hN, hS, hc => by
    have e := ends_wt (PL := PL) (left := left)
    by_cases h : sinks left = []
    · rw [decide_eq_true h] at e
      exact ⟨left, runW_stop e, hS⟩
    · rw [decide_eq_false h] at e
      have hl := inner_len left
      have hpos := List.length_pos_iff.mpr h
      obtain ⟨left', e2, h2⟩ := ends_loop (PL := PL) N (inner left) (by omega) (fun p hp => by
        obtain ⟨q, hq, e⟩ := hc p hp
        exact List.mem_filter.mpr ⟨hS p hp, decide_eq_true (List.mem_map.mpr ⟨q, hS q hq, e⟩)⟩) hc
      exact ⟨left', by rw [runW_go e ends_bd, e2], h2⟩
theorem fs_L_ends_no {ps : List (Int × Int)} (hl : ps.length ≤ 100) {S : Int × Int → Prop} (h0 : ∃ p, S p) (hS : ∀ p, S p → p ∈ ps) (hc : ∀ p, S p → ∃ q, S q ∧ q.1 = p.2) : fs_L_ends [.lst (ps.map pqE)] = .fz (.bl false) := by
  obtain ⟨N, hN⟩ : ∃ N : Nat, N = 1000000 := ⟨_, rfl⟩
  obtain ⟨left', e, h⟩ := ends_loop (PL := .lst (ps.map pqE)) N ps (by omega) hS hc
  rw [hN] at e
  obtain ⟨p, hp⟩ := h0
  have hne : left' ≠ [] := fun q => by
    have := h p hp
    rw [q] at this; cases this
  have q := eq_nil left'
  rw [decide_eq_false hne] at q
  have fl : fList [.lst (ps.map pqE)] = .ow (.li (ps.map pqE)) := rfl
  dsimp only [Ev] at e
  generalize left'.map pqE = LD at *
  generalize ps.map pqE = PD at *
  simp only [fs_L_ends, fsOf, sem_L_ends, initE]
  simp [fl, e, q]

/-! all arrows -/
theorem reB_congr {T T' : List (Int × Int)} (h : ∀ p, p ∈ T ↔ p ∈ T') (f : Int) : reB T f = reB T' f := by
  funext x
  rw [Bool.eq_iff_iff, reB_iff, reB_iff]
  exact ⟨Rp.sub fun p hp => (h p).mp hp, Rp.sub fun p hp => (h p).mpr hp⟩
theorem opEq_str {a b : Str} {r : Bool} (ha : PyData.strOk a = true) (hb : PyData.strOk b = true) (h : (a == b) = r) : opEq (.str a) (.str b) = some (.bl r) := by
  unfold opEq eqD
  simp only [toPy, SeqAt.shaped, PyData.canLay0, PyData.depth, ha, hb, PyData.eqv, h]
  rfl
theorem q_rr : opEq (.str "ring") (.str "ring") = some (.bl true) := opEq_str (by decide +kernel) (by decide +kernel) (by decide +kernel)
theorem q_fr : opEq (.str "fits") (.str "ring") = some (.bl false) := opEq_str (by decide +kernel) (by decide +kernel) (by decide +kernel)
theorem q_mr : opEq (.str "moved") (.str "ring") = some (.bl false) := opEq_str (by decide +kernel) (by decide +kernel) (by decide +kernel)
theorem q_rm : opEq (.str "ring") (.str "moved") = some (.bl false) := opEq_str (by decide +kernel) (by decide +kernel) (by decide +kernel)
theorem q_fm : opEq (.str "fits") (.str "moved") = some (.bl false) := opEq_str (by decide +kernel) (by decide +kernel) (by decide +kernel)
theorem q_mm : opEq (.str "moved") (.str "moved") = some (.bl true) := opEq_str (by decide +kernel) (by decide +kernel) (by decide +kernel)
/-- arrows that have a ring -/
def HasRing (S : Int × Int → Prop) (T : List (Int × Int)) : Prop := (∃ p, S p) ∧ (∀ p, S p → p ∈ T) ∧ ∀ p, S p → ∃ q, S q ∧ q.1 = p.2
theorem Rp.head {T : List (Int × Int)} {x y : Int} (h : Rp T x y) : x = y ∨ ∃ z, (x, z) ∈ T ∧ Rp T z y := by
  induction h with
  | refl => exact .inl rfl
  | @tail y z _ e ih =>
    rcases ih with rfl | ⟨u, h1, h2⟩
    · exact .inr ⟨z, e, .refl⟩
    · exact .inr ⟨u, h1, .tail h2 e⟩
theorem ring_has {T : List (Int × Int)} {a b : Int} (h : Rp T b a) : HasRing (fun p => (p ∈ T ∧ Rp T p.2 a) ∨ p = (a, b)) (T ++ [(a, b)]) := by
  refine ⟨⟨(a, b), .inr rfl⟩, fun p hp => ?_, fun p hp => ?_⟩
  · rcases hp with h | rfl
    · exact List.mem_append_left _ h.1
    · exact List.mem_append_right _ List.mem_cons_self
  · have hr : Rp T p.2 a := by
      rcases hp with h1 | rfl
      · exact h1.2
      · exact h
    rcases Rp.head hr with h1 | ⟨z, h1, h2⟩
    · exact ⟨(a, b), .inr rfl, h1.symm⟩
    · exact ⟨(p.2, z), .inl ⟨h1, h2⟩, rfl⟩
structure StI (m : Nat) (row : List Int) (T TL : List (Int × Int)) : Prop where
  ro : RowOk m row
  ok : PrsOk m T
  eq : ∀ p, p ∈ TL ↔ p ∈ T
  top : Topo row T
theorem sorted_row {m : Nat} (hm : m ≤ 12) {row : List Int} (hr : RowOk m row) : fSortT [rowD row] = .ow (.li ((intsN m).map .int)) := by
  have e : intsOf (row.map .int) = some row := by
    clear hr
    induction row with
    | nil => rfl
    | cons x r ih =>
      show (intsOf (r.map .int)).map (x :: ·) = _
      rw [ih]; rfl
  have hl := hr.len
  have : fSortT [rowD row] = if row.length < 64 then .ow (.li ((row.mergeSort leI).map .int)) else .stuck := by
    show (match (some (row.map D.int)).bind intsOf with | some ns => _ | none => _) = _
    rw [Option.bind_some, e]
  rw [this, if_pos (by omega), sort_perm hr.p]
theorem slT_of {l : List Int} {lo hi : Option Int} {l' : List Int} (h : opSl true (rowD l) lo hi = some (rowD l')) : ∃ d, opSl false (rowD l) lo hi = some d ∧ Is d (Tup.mk l') := by
  unfold opSl at h ⊢
  dsimp only [rowD, lstOf, tupOf] at h ⊢
  split
  · rename_i hc
    rw [if_pos hc] at h
    exact ⟨_, rfl, by rw [Option.some.inj h]; exact is_row l'⟩
  · rename_i hc
    rw [if_neg hc, if_pos rfl] at h
    injection Option.some.inj h with h
    refine ⟨_, rfl, ?_⟩
    rw [if_neg (by decide), h]
    exact is_tup (iss_ints l')
theorem law_step {m : Nat} (hm : m ≤ 12) {AS : List (Int × Int)} (x0 x2 x8 x9 : Slot) {row row' : List Int} {T T' TL : List (Int × Int)} {p : Int × Int} {d : Did} {c : Nat} (h : StI m row T TL) (hl : TL.length ≤ 60) (hp : PairOk m p) (hs : StepR row T p d row' T') (hA : (∀ q ∈ TL, q ∈ AS) ∧ p ∈ AS) (hc : c = 0 ∨ ∃ S, HasRing S AS) :
    ∃ TL' c' y8 y9, bd_law_2 [x0, .fz (.int (m : Nat)), x2, .fz (pqE p), .fz (rowD row), .ow (.li (TL.map pqE)), .fz (.int (c : Nat)), .fz (didD p d), x8, x9] = .nx [x0, .fz (.int (m : Nat)), x2, .fz (pqE p), .fz (rowD row'), .ow (.li (TL'.map pqE)), .fz (.int ((c' : Nat) : Int)), .fz (didD p d), y8, y9] ∧ StI m row' T' TL' ∧ TL'.length ≤ TL.length + 1 ∧ (∀ q ∈ TL', q ∈ AS) ∧ (c' = 0 ∨ ∃ S, HasRing S AS) := by
  have htop := hs.topo h.ro h.ok hp h.top
  obtain ⟨hr, ht, heq, top⟩ := h
  obtain ⟨hr', ht', _⟩ := hs.ok hr ht hp
  have x0' : opIx (pqE p) (.int 0) = some (.int p.1) := rfl
  have x1' : opIx (pqE p) (.int 1) = some (.int p.2) := rfl
  have sm : Small (TL.map pqE).length := by rw [List.length_map]; exact small_of (by omega)
  have smi : SmallI (m : Int) := smallI_nat (small_of (by omega))
  have hre : (TL ++ [p]).map pqE = TL.map pqE ++ [pqE p] := by rw [List.map_append]; rfl
  have heq' : ∀ q, q ∈ TL ++ [p] ↔ q ∈ addT T p := fun q => by rw [List.mem_append, List.mem_singleton, mem_addT, heq]
  have st := sorted_row hm hr'
  have nn : opNe (.lst ((intsN m).map .int)) (.lst ((intsN m).map .int)) = some (.bl false) := by
    rw [opNe_is (is_lst (iss_ints _)) (is_lst (iss_ints _)) (by decide), decide_eq_true rfl]; rfl
  have ni := nats_intsN m
  have kept : ∀ L : List (Int × Int), (∀ q, q ∈ L ↔ q ∈ T') → fs_L_are_kept [rowD row', .lst (L.map pqE)] = .fz (.bl true) := fun L hL => fs_L_are_kept_ok hr' ⟨fun q hq => ht'.rg q ((hL q).mp hq)⟩ fun q hq => htop q ((hL q).mp hq)
  rcases hs with ⟨hlt, rfl, rfl, rfl⟩ | ⟨hlt, hR, ⟨q, rfl, hq⟩, rfl, rfl⟩ | ⟨hlt, hR, rfl, hrow, rfl⟩
  · refine ⟨TL ++ [p], c, x8, x9, ?_, ⟨hr', ht', heq', htop⟩, by simp, fun q hq => (List.mem_append.mp hq).elim (hA.1 q) fun h => by rw [List.mem_singleton] at h; exact h ▸ hA.2, hc⟩
    have kp := kept _ heq'
    have i0 : opIx (didD p .fits) (.int 0) = some (.str "fits") := rfl
    have q1 := q_fr
    have q2 := q_fm
    rw [hre] at kp ⊢
    generalize didD p .fits = DD at *
    generalize (intsN m).map D.int = RI at *
    generalize rowD row' = RW at *
    generalize TL.map pqE = TD at *
    generalize pqE p = PD at *
    simp [bd_law_2, i0, q1, q2, sm, st, smi, ni, nn, kp]
  · have hRT : Rp TL p.2 p.1 := hR.sub fun q hq => (heq q).mpr hq
    obtain ⟨g1, g2, g3⟩ := ring_has hRT
    have en := fs_L_ends_no (ps := TL ++ [p]) (by rw [List.length_append, List.length_singleton]; omega) g1 g2 g3
    refine ⟨TL, c + 1, x8, x9, ?_, ⟨hr', ht', heq, htop⟩, by omega, hA.1, .inr ⟨_, g1, fun q hq => (List.mem_append.mp (g2 q hq)).elim (hA.1 q) fun h => by rw [List.mem_singleton] at h; rw [h]; exact hA.2, g3⟩⟩
    have kp := kept _ heq
    have i0 : opIx (didD p (.ring q)) (.int 0) = some (.str "ring") := rfl
    have q1 := q_rr
    have q2 := q_rm
    have ad : opAdd (.lst (TL.map pqE)) (.lst [pqE p]) = some (.lst (TL.map pqE ++ [pqE p])) := by
      show (if (TL.map pqE).length + 1 ≤ big then _ else _) = _
      rw [if_pos (by rw [List.length_map]; show TL.length + 1 ≤ 16777216; omega)]
    rw [hre] at en
    generalize didD p (.ring q) = DD at *
    generalize (intsN m).map D.int = RI at *
    generalize rowD row' = RW at *
    generalize TL.map pqE = TD at *
    generalize pqE p = PD at *
    simp [bd_law_2, i0, q1, q2, sm, st, smi, ni, nn, kp, en, ad]
  · have hne : row.idxOf p.1 ≠ row.idxOf p.2 := fun e => hp.2 (idxK_inj (hr.mem.mpr hp.1.1) (hr.mem.mpr hp.1.2) e)
    obtain ⟨_, tk, dr⟩ := chg_topo hr ht hp.1.1 hp.1.2 top (by omega) hR
    rw [← hrow] at tk dr
    refine ⟨TL ++ [p], c, .fz (.int (row.idxOf p.2 : Nat)), .fz (.int (row.idxOf p.1 : Nat)), ?_, ⟨hr', ht', heq', htop⟩, by simp, fun q hq => (List.mem_append.mp hq).elim (hA.1 q) fun h => by rw [List.mem_singleton] at h; exact h ▸ hA.2, hc⟩
    have kp := kept _ heq'
    have i0 : opIx (didD p (.moved row')) (.int 0) = some (.str "moved") := rfl
    have i1 : opIx (didD p (.moved row')) (.int 1) = some (rowD row') := rfl
    have q1 := q_mr
    have q2 := q_mm
    have j1 := opIndexT_row (hr.mem.mpr hp.1.1)
    have j2 := opIndexT_row (hr.mem.mpr hp.1.2)
    have hk : isKT (rowD row) = true := rfl
    have s1 : opSl true (rowD row) none (some ((row.idxOf p.2 : Nat) : Int)) = some (rowD (row.take (row.idxOf p.2))) := by
      have := opSl_take (l := row.map D.int) (p := row.idxOf p.2)
      rw [← List.map_take] at this; exact this
    have s2 : opSl true (rowD row) (some (((row.idxOf p.1 : Nat) : Int) + 1)) none = some (rowD (row.drop (row.idxOf p.1 + 1))) := by
      have := opSl_drop (l := row.map D.int) (p := row.idxOf p.1 + 1)
      rw [← List.map_drop] at this; exact this
    have s3 : opSl true (rowD row') none (some ((row.idxOf p.2 : Nat) : Int)) = some (rowD (row.take (row.idxOf p.2))) := by
      have := opSl_take (l := row'.map D.int) (p := row.idxOf p.2)
      rw [← List.map_take, tk] at this; exact this
    have s4 : opSl true (rowD row') (some (((row.idxOf p.1 : Nat) : Int) + 1)) none = some (rowD (row.drop (row.idxOf p.1 + 1))) := by
      have := opSl_drop (l := row'.map D.int) (p := row.idxOf p.1 + 1)
      rw [← List.map_drop, dr] at this; exact this
    obtain ⟨d3, s5, e3⟩ := slT_of s3
    obtain ⟨d4, s6, e4⟩ := slT_of s4
    clear s3 s4
    have n3 := opNe_is e3 (is_row (row.take (row.idxOf p.2))) (by decide)
    have n4 := opNe_is e4 (is_row (row.drop (row.idxOf p.1 + 1))) (by decide)
    rw [decide_eq_true rfl] at n3 n4
    rw [hre] at kp ⊢
    generalize rowD (row.take (row.idxOf p.2)) = R1 at *
    generalize rowD (row.drop (row.idxOf p.1 + 1)) = R2 at *
    generalize didD p (.moved row') = DD at *
    generalize (intsN m).map D.int = RI at *
    generalize rowD row' = RW at *
    generalize rowD row = RW0 at *
    generalize TL.map pqE = TD at *
    generalize pqE p = PD at *
    simp [bd_law_2, x0', x1', i0, i1, q1, q2, j1, j2, hk, s1, s2, s5, s6, n3, n4, sm, st, smi, ni, nn, kp]
theorem zip_dids : ∀ (ps : List (Int × Int)) (ds : List Did), zipD (ps.map pqE) (didsD ps ds) = List.zipWith (fun p d => D.tup [pqE p, didD p d]) ps ds
  | [], ds => by cases ds <;> rfl
  | p :: ps, [] => rfl
  | p :: ps, d :: ds => by
    show D.tup [pqE p, didD p d] :: zipD (ps.map pqE) (didsD ps ds) = _
    rw [zip_dids ps ds]; rfl
theorem law_loop {m : Nat} (hm : m ≤ 12) {AS : List (Int × Int)} (x0 x2 : Slot) {row row' : List Int} {T T' : List (Int × Int)} {ps : List (Int × Int)} {ds : List Did} (h : RunR row T ps ds row' T') : ∀ (TL : List (Int × Int)) (c : Nat) (x3 x7 x8 x9 : Slot), StI m row T TL → TL.length + ps.length ≤ 60 → (∀ p ∈ ps, PairOk m p) → (∀ q ∈ TL, q ∈ AS) → (∀ p ∈ ps, p ∈ AS) → (c = 0 ∨ ∃ S, HasRing S AS) →
    ∃ (y3 y5 : Slot) (c' : Nat) (y7 y8 y9 : Slot), runFor (bT 2 (bsCons (bN 3) (bsCons (bN 7) bsNil))) bd_law_2 (List.zipWith (fun p d => D.tup [pqE p, didD p d]) ps ds) [x0, .fz (.int (m : Nat)), x2, x3, .fz (rowD row), .ow (.li (TL.map pqE)), .fz (.int (c : Nat)), x7, x8, x9] = .nx [x0, .fz (.int (m : Nat)), x2, y3, .fz (rowD row'), y5, .fz (.int ((c' : Nat) : Int)), y7, y8, y9] ∧ (c' = 0 ∨ ∃ S, HasRing S AS) := by
  induction h with
  | nil => intro TL c x3 x7 x8 x9 _ _ _ _ _ hc; exact ⟨_, _, c, _, _, _, rfl, hc⟩
  | @cons row row1 row2 T T1 T2 p d ps ds s r ih =>
    intro TL c x3 x7 x8 x9 hI hl hp hA hB hc
    rw [List.length_cons] at hl
    obtain ⟨TL', c1, y8, y9, e1, hI', hl', hA', hc'⟩ := law_step hm (AS := AS) x0 x2 x8 x9 hI (by omega) (hp p List.mem_cons_self) s ⟨hA, hB p List.mem_cons_self⟩ hc
    obtain ⟨z3, z5, c2, z7, z8, z9, e2, hc2⟩ := ih TL' c1 (.fz (pqE p)) (.fz (didD p d)) y8 y9 hI' (by omega) (fun q hq => hp q (List.mem_cons_of_mem _ hq)) hA' (fun q hq => hB q (List.mem_cons_of_mem _ hq)) hc'
    refine ⟨z3, z5, c2, z7, z8, z9, ?_, hc2⟩
    rw [List.zipWith_cons_cons, runFor_nx (ρ1 := [x0, .fz (.int (m : Nat)), x2, .fz (pqE p), .fz (rowD row), .ow (.li (TL.map pqE)), .fz (.int (c : Nat)), .fz (didD p d), x8, x9]) rfl e1, e2]
def mxmn (p : Int × Int) : Int × Int := (if p.1 < p.2 then p.2 else p.1, if p.2 < p.1 then p.2 else p.1)
theorem law_math (s : List Int) (_ : s.length ≤ 63) : fs_law [.klst (s.map .int)] = .fz (.bl true) := by
  have e1 := fs_L_mixed_eq s 0 11 (by decide)
  have e1 : fs_L_mixed [.klst (s.map .int), .int 0, .int 11] = _ := e1
  have l1 := mixed_lt (s := s) (k := 0) (m := 11) (by decide)
  have e4 := fs_L_mixed_eq s 4 3 (by decide)
  have e4 : fs_L_mixed [.klst (s.map .int), .int 4, .int 3] = _ := e4
  obtain ⟨m, hm⟩ : ∃ m, m = 2 + mixed s 0 11 := ⟨_, rfl⟩
  have hmi : 2 + ((mixed s 0 11 : Nat) : Int) = (m : Nat) := by omega
  generalize mixed s 0 11 = n0 at *
  generalize mixed s 4 3 = n4 at *
  obtain ⟨ps0, e5, hok0, hpl0⟩ := fs_L_pairs_ok s 1 m 30 (by omega) (by decide)
  have e5 : fs_L_pairs [.klst (s.map .int), .int 1, .int (m : Nat), .int 30] = _ := e5
  -- the comprehension
  have c1 : ∀ E : Envi, E = [.fz (.klst (s.map .int)), .fz (.int (m : Nat)), .fz (.lst (ps0.map pqE)), .un, .un, .un, .un, .un, .un, .un] → runComp (bN 3) tTrue ce_law_1 [3] (ps0.map pqE) E = some ((ps0.map mxmn).map pqE, E) := fun E hE => by
    subst hE
    rw [runComp_map (enc := pqE) (F := fun p => some (pqE (mxmn p)))]
    · rw [List.filterMap_eq_map', List.map_map]; rfl
    · intro p hp
      have f1 : fMaxT [pqE p] = .fz (.int (mxmn p).1) := rfl
      have f2 : fMinT [pqE p] = .fz (.int (mxmn p).2) := rfl
      refine ⟨[.fz (.klst (s.map .int)), .fz (.int (m : Nat)), .fz (.lst (ps0.map pqE)), .fz (pqE p), .un, .un, .un, .un, .un, .un], rfl, .inr ⟨rfl, _, [.fz (.klst (s.map .int)), .fz (.int (m : Nat)), .fz (.lst (ps0.map pqE)), .fz (pqE p), .un, .un, .un, .un, .un, .un], ?_, rfl, rfl⟩⟩
      generalize ps0.map pqE = PL at *
      generalize s.map D.int = S at *
      show eMat ce_law_1 _ = .ok (.dat (.tup [.int (mxmn p).1, .int (mxmn p).2])) _
      generalize pqE p = PD at *
      simp [ce_law_1, f1, f2]
  obtain ⟨ps, hps, hok, hpl⟩ : ∃ ps : List (Int × Int), ps = (if n4 = 0 then ps0.map mxmn else ps0) ∧ (∀ p ∈ ps, PairOk m p) ∧ ps.length ≤ 30 := by
    refine ⟨_, rfl, ?_, ?_⟩
    · split
      · intro p hp
        obtain ⟨q, hq, rfl⟩ := List.mem_map.mp hp
        obtain ⟨⟨⟨h1, h2⟩, h3, h4⟩, h5⟩ := hok0 q hq
        refine ⟨⟨⟨?_, ?_⟩, ?_, ?_⟩, ?_⟩ <;> unfold mxmn <;> dsimp only <;> split <;> (try split) <;> omega
      · exact hok0
    · split
      · rw [List.length_map]; exact hpl0
      · exact hpl0
  obtain ⟨ds, row, T, r, e2, e3⟩ := fs_kept_ok (by omega : 1 ≤ m) (by omega) (by omega : ps.length ≤ 60) hok
  have hdl := r.len
  have e6 : ∀ x2 : Slot, ∃ (y3 y5 : Slot) (c' : Nat) (y7 y8 y9 : Slot), runFor (bT 2 (bsCons (bN 3) (bsCons (bN 7) bsNil))) bd_law_2 (zipD (ps.map pqE) (didsD ps ds)) [.fz (.klst (s.map .int)), .fz (.int (m : Nat)), x2, .un, .fz (rowD (intsN m)), .ow (.li []), .fz (.int 0), .un, .un, .un] = .nx [.fz (.klst (s.map .int)), .fz (.int (m : Nat)), x2, y3, .fz (rowD row), y5, .fz (.int ((c' : Nat) : Int)), y7, y8, y9] ∧ (c' = 0 ∨ ∃ S, HasRing S ps) := fun x2 => by
    have := law_loop (m := m) (by omega) (AS := ps) (.fz (.klst (s.map .int))) x2 r [] 0 .un .un .un .un ⟨rowOk_ints m, ⟨fun p hp => nomatch hp⟩, fun p => Iff.rfl, fun p hp => nomatch hp⟩ (by simp; omega) hok (fun p hp => nomatch hp) (fun p hp => hp) (.inl rfl)
    rw [zip_dids]; exact this
  have sm : SmallI (m : Int) := smallI_nat (small_of (by omega))
  have q3 : opEq (rowD row) (rowD row) = some (.bl true) := by rw [opEq_is (is_row row) (is_row row) (by decide), decide_eq_true rfl]
  have hen : ∀ c' : Nat, (c' = 0 ∨ ∃ S, HasRing S ps) → c' ≠ 0 → fs_L_ends [.lst (ps.map pqE)] = .fz (.bl false) := fun c' h hc => by
    rcases h with h | ⟨S, h1, h2, h3⟩
    · exact absurd h hc
    · exact fs_L_ends_no (by omega) h1 h2 h3
  have rn : rowD (intsN m) = .ktup (nats m) := by rw [nats_intsN]; rfl
  have q4 : opEq (.int (n4 : Nat)) (.int 0) = some (.bl (decide (n4 = 0))) := by
    rw [opEq_is (is_int _) (is_int _) (by decide)]
    congr 2
    exact decide_eq_decide.mpr (by omega)
  have c1 := c1 _ rfl
  have hgt : ∀ c' : Nat, (decide ((0 : Int) < ((c' : Nat) : Int))) = decide (c' ≠ 0) := fun c' => decide_eq_decide.mpr (by omega)
  by_cases h4 : n4 = 0
  · rw [if_pos h4] at hps
    rw [decide_eq_true h4] at q4
    rw [← hps] at c1
    obtain ⟨z3, z5, c2, z7, z8, z9, e7, hc2⟩ := e6 (.fz (.lst (ps.map pqE)))
    have hen := hen c2 hc2
    rw [rn] at e7
    clear hps e6 hc2
    generalize didsD ps ds = DD at *
    generalize rowD row = RW at *
    generalize ps.map pqE = PL at *
    generalize ps0.map pqE = PL0 at *
    generalize s.map D.int = S at *
    simp only [fs_law, fsOf, sem_law, initE]
    by_cases hc : c2 = 0
    · have hz : ¬ 0 < c2 := by omega
      simp [e1, hmi, e5, e4, q4, c1, sm, e2, e7, hz, e3, q3]
    · have hz : 0 < c2 := by omega
      simp [e1, hmi, e5, e4, q4, c1, sm, e2, e7, hz, e3, q3, hen hc]
  · rw [if_neg h4] at hps
    rw [decide_eq_false h4] at q4
    obtain ⟨z3, z5, c2, z7, z8, z9, e7, hc2⟩ := e6 (.fz (.lst (ps.map pqE)))
    have hen := hen c2 hc2
    rw [rn] at e7
    rw [← hps] at e5
    clear hps e6 hc2 c1
    generalize didsD ps ds = DD at *
    generalize rowD row = RW at *
    generalize ps.map pqE = PL at *
    generalize s.map D.int = S at *
    simp only [fs_law, fsOf, sem_law, initE]
    by_cases hc : c2 = 0
    · have hz : ¬ 0 < c2 := by omega
      simp [e1, hmi, e5, e4, q4, sm, e2, e7, hz, e3, q3]
    · have hz : 0 < c2 := by omega
      simp [e1, hmi, e5, e4, q4, sm, e2, e7, hz, e3, q3, hen hc]

end K17
set_option maxHeartbeats 0
open PySem PySem.W PyProof.Rows
theorem PySem.Challenge.cw_fewturned_k17_whole_kept_holds : PySem.Challenge.rw_fewturned_k17_whole_kept.Holds := by
  w_on; o_law; k_head; (case hw => w_witness2)
  k_fill
  refine L2.walk_of (l := PySem.Challenge.rw_fewturned_k17_whole_kept) (n := 63) (k := 6) (x := "_law_script") (CX := fun _ => L2.CX0) (sp := fun w => K17.spL _) rfl (by decide) rfl ⟨rfl, by decide, by decide⟩ (fun w h Y => PySem.W.kIn_of Y) ?F (fun _ H a ns hl _ hS => ⟨H, [.klst (ns.map .int)], fun _ _ e => e, .cons (.klst hS (by rw [List.length_map]; exact Nat.le_trans hl (by decide)) (Pv.Reps.ints ns)) .nil, rfl, K17.law_math ns hl, fun _ => rfl⟩) (fun _ _ _ _ _ h => h)
  case F =>
    intro w mg fa h KX G hmg
    refine' K17.all_mk KX G hmg ?a0 ?l0 ?c0 ?k0 ?a1 ?l1 ?c1 ?k1 ?a2 ?l2 ?c2 ?k2 ?a3 ?l3 ?c3 ?k3 ?a4 ?l4 ?c4 ?k4 ?a5 ?l5 ?c5 ?k5 ?a6 ?l6 ?c6 ?k6 ?a7 ?l7 ?c7 ?k7 ?a8 ?l8 ?c8 ?k8 ?a9 ?l9 ?c9 ?k9 ?a10 ?l10 ?c10 ?k10 ?a11 ?l11 ?c11 ?k11 ?gTurnError ?kTurnError ?qTurnError ?eTurnError ?tTurnError ?gNoNumber ?kNoNumber ?qNoNumber ?eNoNumber ?tNoNumber ?gNoArrows ?kNoArrows ?qNoArrows ?eNoArrows ?tNoArrows ?zall ?zbool ?zint ?zisinstance ?zlen ?zlist ?zmax ?zmin ?zrange ?zsorted ?ztuple ?zzip ?vTHINGS ?gKeeper ?pgKeeper ?hdKeeper ?poKeeper ?saKeeper ?mkKeeper ?kcKeeper ?naKeeperrow ?naKeepertaken ?aKeeperinit ?iKeeperinit ?lKeeperinit ?cKeeperinit ?kKeeperinit ?aKeeperled ?iKeeperled ?lKeeperled ?cKeeperled ?kKeeperled ?aKeeperring_by ?iKeeperring_by ?lKeeperring_by ?cKeeperring_by ?kKeeperring_by ?aKeeperchange ?iKeeperchange ?lKeeperchange ?cKeeperchange ?kKeeperchange ?aKeepercome ?iKeepercome ?lKeepercome ?cKeepercome ?kKeepercome
    (case a0 => k_is); (case l0 => k_is); (case c0 => k_is); (case k0 => k_is); (case a1 => k_is); (case l1 => k_is)
    (case c1 => k_is); (case k1 => k_is); (case a2 => k_is); (case l2 => k_is); (case c2 => k_is); (case k2 => k_is)
    (case a3 => k_is); (case l3 => k_is); (case c3 => k_is); (case k3 => k_is); (case a4 => k_is); (case l4 => k_is)
    (case c4 => k_is); (case k4 => k_is); (case a5 => k_is); (case l5 => k_is); (case c5 => k_is); (case k5 => k_is)
    (case a6 => k_is); (case l6 => k_is); (case c6 => k_is); (case k6 => k_is); (case a7 => k_is); (case l7 => k_is)
    (case c7 => k_is); (case k7 => k_is); (case a8 => k_is); (case l8 => k_is); (case c8 => k_is); (case k8 => k_is)
    (case a9 => k_is); (case l9 => k_is); (case c9 => k_is); (case k9 => k_is); (case a10 => k_is); (case l10 => k_is)
    (case c10 => k_is); (case k10 => k_is); (case a11 => k_is); (case l11 => k_is); (case c11 => k_is); (case k11 => k_is)
    (case gTurnError => k_is); (case kTurnError => k_is); (case qTurnError => k_exc); (case eTurnError => k_is); (case tTurnError => k_is); (case gNoNumber => k_is)
    (case kNoNumber => k_is); (case qNoNumber => k_exc); (case eNoNumber => k_is); (case tNoNumber => k_is); (case gNoArrows => k_is); (case kNoArrows => k_is)
    (case qNoArrows => k_exc); (case eNoArrows => k_is); (case tNoArrows => k_is); (case zall => k_is); (case zbool => k_is); (case zint => k_is)
    (case zisinstance => k_is); (case zlen => k_is); (case zlist => k_is); (case zmax => k_is); (case zmin => k_is); (case zrange => k_is)
    (case zsorted => k_is); (case ztuple => k_is); (case zzip => k_is); (case vTHINGS => k_is); (case gKeeper => k_is); (case pgKeeper => k_is)
    (case hdKeeper => k_is); (case poKeeper => k_is); (case saKeeper => k_is); (case mkKeeper => k_is); (case kcKeeper => k_is); (case naKeeperrow => k_is)
    (case naKeepertaken => k_is); (case aKeeperinit => k_is); (case iKeeperinit => k_is); (case lKeeperinit => k_is); (case cKeeperinit => k_is); (case kKeeperinit => k_is)
    (case aKeeperled => k_is); (case iKeeperled => k_is); (case lKeeperled => k_is); (case cKeeperled => k_is); (case kKeeperled => k_is); (case aKeeperring_by => k_is)
    (case iKeeperring_by => k_is); (case lKeeperring_by => k_is); (case cKeeperring_by => k_is); (case kKeeperring_by => k_is); (case aKeeperchange => k_is); (case iKeeperchange => k_is)
    (case lKeeperchange => k_is); (case cKeeperchange => k_is); (case kKeeperchange => k_is); (case aKeepercome => k_is); (case iKeepercome => k_is); (case lKeepercome => k_is)
    (case cKeepercome => k_is); (case kKeepercome => k_is)

