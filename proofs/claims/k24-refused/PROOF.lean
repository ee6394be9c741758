import PyProof.Rows.All
import Wide.All
import OpenK.AllK
import Wide.FinOn
import HandS.ForMost
import HandS.Exc
import HandS.ExcOwn
import HandS.WordsExc
import HandS.TryOnly
import HandS.Zip
import HandS.Strs
import HandS.Deep
import HandS.TupAny
import HandS.IsInst
import HandS.SetFor
import HandS.Wide
import HandS.SortInts
import HandS.Conv
import KE.SortData
import KE.KDictPairs
import KE.GoesMore
import KE.DataMinMax
import HandS.More
import HandS.ExcIs
import KE.DatumOrd
import KE.DatumMore
import KE.DatumMoreOrd
import HandS.Style
import KE.KRevSl
import KE.GoesEnum
import PySem.Challenge.RW_fewturned_k24_refused
set_option Elab.async false
set_option linter.all false
set_option maxRecDepth 100000
namespace Pv
open PySem PySem.Spec PyProof.Rows L2
inductive D where
  | non | bl (b : Bool) | int (i : Int) | str (x : Str)
  | tup (l : List D) | ktup (l : List D) | lst (l : List D) | klst (l : List D)
  | dk (ks : List Key) (l : List D) | dt (ks : List (List Key)) (l : List D)
  | adr (a : Addr) | ty (n : String)

/-- a tuple of which the whole object is known: it is no dict's key here, but its methods may be called -/
def KTup (K : PySem.W.Frag) (F : Hp) (a : Addr) (vs : List V) : Prop :=
  (∃ o, F a = some (.frz o (.tup vs)) ∧ o.dict = none) ∨
    ∃ (o : Obj) (its : Array Value) (n : Nat), K.lookup a = some o ∧ o.cls = .type "tuple" ∧ o.dict = none ∧ o.data = .seq its n ∧ its.size ≤ sizeLine ∧ Vals vs its.toList
theorem KTup.mono {K : PySem.W.Frag} {F F' : Hp} {a : Addr} {vs : List V} (e : Same F F') (h : KTup K F a vs) : KTup K F' a vs := by
  rcases h with ⟨o, h, d⟩ | h
  · exact .inl ⟨o, e _ _ h, d⟩
  · exact .inr h
theorem KTup.sqt {K : PySem.W.Frag} {F : Hp} {a : Addr} {vs : List V} (h : KTup K F a vs) : SqT K F a vs := by
  rcases h with ⟨o, h, d⟩ | ⟨o, its, n, h1, h2, h3, h4, h5, h6⟩
  · exact .inl (.inr ⟨o, h⟩)
  · exact .inr ⟨o, its, n, h1, h2, h4, h5, h6⟩
mutual
inductive Rep (K : PySem.W.Frag) (F : Hp) : V → D → Prop
  | non : Rep K F .non .non
  | bl (b : Bool) : Rep K F (.bl b) (.bl b)
  | int (i : Int) : Rep K F (.int i) (.int i)
  | str (x : Str) : Rep K F (.str x) (.str x)
  | tup {a : Addr} {vs : List V} {ds : List D} : F a = some (.tup vs) → vs.length ≤ sizeLine → Reps K F vs ds → Rep K F (.ref a) (.tup ds)
  | ktup {a : Addr} {vs : List V} {ds : List D} : KTup K F a vs → vs.length ≤ sizeLine → Reps K F vs ds → Rep K F (.ref a) (.ktup ds)
  | lst {a : Addr} {vs : List V} {ds : List D} : F a = some (.lst vs) → vs.length ≤ sizeLine → Reps K F vs ds → Rep K F (.ref a) (.lst ds)
  | klst {a : Addr} {vs : List V} {ds : List D} : SqL K F a vs → vs.length ≤ sizeLine → Reps K F vs ds → Rep K F (.ref a) (.klst ds)
  | dk {a : Addr} {kvs : List (Key × V)} {ds : List D} : Rd F a (.dK kvs) → kvs.length ≤ sizeLine → Reps K F (kvs.map (·.2)) ds → Rep K F (.ref a) (.dk (kvs.map (·.1)) ds)
  | dt {a : Addr} {kvs : List (List Key × V)} {ds : List D} : Rd F a (.dT kvs) → kvs.length ≤ sizeLine → Reps K F (kvs.map (·.2)) ds → Rep K F (.ref a) (.dt (kvs.map (·.1)) ds)
  | adr (a : Addr) : Rep K F (.ref a) (.adr a)
  | ty (n : String) : Rep K F (.ty n) (.ty n)
inductive Reps (K : PySem.W.Frag) (F : Hp) : List V → List D → Prop
  | nil : Reps K F [] []
  | cons {v : V} {vs : List V} {d : D} {ds : List D} : Rep K F v d → Reps K F vs ds → Reps K F (v :: vs) (d :: ds)
end

theorem same_rd {H H' : Hp} {a : Addr} {u : HO} (e : Same H H') (h : Rd H a u) : Rd H' a u := by
  rcases h with h | ⟨o, h⟩
  · exact .inl (e _ _ h)
  · exact .inr ⟨o, e _ _ h⟩
theorem same_sqt {K : PySem.W.Frag} {H H' : Hp} {a : Addr} {xs : List V} (e : Same H H') (h : SqT K H a xs) : SqT K H' a xs := by
  rcases h with h | h
  · exact .inl (same_rd e h)
  · exact .inr h
theorem same_sql {K : PySem.W.Frag} {H H' : Hp} {a : Addr} {xs : List V} (e : Same H H') (h : SqL K H a xs) : SqL K H' a xs := by
  rcases h with h | h
  · exact .inl (same_rd e h)
  · exact .inr h
theorem same_nil (H : Hp) : Same (fun _ => none) H := fun _ _ h => nomatch h

mutual
theorem Rep.mono {K : PySem.W.Frag} {F F' : Hp} (e : Same F F') : ∀ {v : V} {d : D}, Rep K F v d → Rep K F' v d
  | _, _, .non => .non
  | _, _, .bl _ => .bl _
  | _, _, .int _ => .int _
  | _, _, .str _ => .str _
  | _, _, .tup a b c => .tup (e _ _ a) b (Reps.mono e c)
  | _, _, .ktup a b c => .ktup (a.mono e) b (Reps.mono e c)
  | _, _, .lst a b c => .lst (e _ _ a) b (Reps.mono e c)
  | _, _, .klst a b c => .klst (same_sql e a) b (Reps.mono e c)
  | _, _, .dk a b c => .dk (same_rd e a) b (Reps.mono e c)
  | _, _, .dt a b c => .dt (same_rd e a) b (Reps.mono e c)
  | _, _, .adr _ => .adr _
  | _, _, .ty _ => .ty _
theorem Reps.mono {K : PySem.W.Frag} {F F' : Hp} (e : Same F F') : ∀ {vs : List V} {ds : List D}, Reps K F vs ds → Reps K F' vs ds
  | _, _, .nil => .nil
  | _, _, .cons a b => .cons (Rep.mono e a) (Reps.mono e b)
end
theorem Reps.length {K : PySem.W.Frag} {F : Hp} : ∀ {vs : List V} {ds : List D}, Reps K F vs ds → vs.length = ds.length
  | _, _, .nil => rfl
  | _, _, .cons _ b => congrArg (· + 1) (Reps.length b)
theorem Reps.append {K : PySem.W.Frag} {F : Hp} : ∀ {vs ws : List V} {ds es : List D}, Reps K F vs ds → Reps K F ws es → Reps K F (vs ++ ws) (ds ++ es)
  | _, _, _, _, .nil, h => h
  | _, _, _, _, .cons a b, h => .cons a (Reps.append b h)
theorem Reps.get {K : PySem.W.Frag} {F : Hp} : ∀ {vs : List V} {ds : List D} {i : Nat} {d : D}, Reps K F vs ds → ds[i]? = some d → ∃ v, vs[i]? = some v ∧ Rep K F v d
  | _, _, _, _, .nil, h => by simp at h
  | _, _, 0, _, .cons a b, h => by simp at h; subst h; exact ⟨_, rfl, a⟩
  | _, _, i + 1, d, .cons a b, h => by
    obtain ⟨v, h1, h2⟩ := Reps.get (i := i) (d := d) b (by simpa using h)
    exact ⟨v, by simpa using h1, h2⟩
theorem Reps.getV {K : PySem.W.Frag} {F : Hp} : ∀ {vs : List V} {ds : List D} {i : Nat} {v : V}, Reps K F vs ds → vs[i]? = some v → ∃ d, ds[i]? = some d ∧ Rep K F v d
  | _, _, _, _, .nil, h => by simp at h
  | _, _, 0, _, .cons a b, h => by simp at h; subst h; exact ⟨_, rfl, a⟩
  | _, _, i + 1, d, .cons a b, h => by
    obtain ⟨v, h1, h2⟩ := Reps.getV (i := i) (v := d) b (by simpa using h)
    exact ⟨v, by simpa using h1, h2⟩
theorem Reps.take {K : PySem.W.Frag} {F : Hp} : ∀ {vs : List V} {ds : List D} (n : Nat), Reps K F vs ds → Reps K F (vs.take n) (ds.take n)
  | _, _, 0, _ => .nil
  | _, _, _ + 1, .nil => .nil
  | _, _, n + 1, .cons a b => .cons a (Reps.take n b)
theorem Reps.drop {K : PySem.W.Frag} {F : Hp} : ∀ {vs : List V} {ds : List D} (n : Nat), Reps K F vs ds → Reps K F (vs.drop n) (ds.drop n)
  | _, _, 0, h => h
  | _, _, _ + 1, .nil => .nil
  | _, _, n + 1, .cons _ b => Reps.drop n b
theorem Reps.set {K : PySem.W.Frag} {F : Hp} {v : V} {d : D} (r : Rep K F v d) : ∀ {vs : List V} {ds : List D} (i : Nat), Reps K F vs ds → Reps K F (vs.set i v) (ds.set i d)
  | _, _, _, .nil => .nil
  | _, _, 0, .cons _ b => .cons r b
  | _, _, i + 1, .cons a b => .cons a (Reps.set r i b)
theorem Reps.eraseIdx {K : PySem.W.Frag} {F : Hp} : ∀ {vs : List V} {ds : List D} (i : Nat), Reps K F vs ds → Reps K F (vs.eraseIdx i) (ds.eraseIdx i)
  | _, _, _, .nil => .nil
  | _, _, 0, .cons _ b => b
  | _, _, i + 1, .cons a b => .cons a (Reps.eraseIdx i b)
theorem Reps.dropLast {K : PySem.W.Frag} {F : Hp} {vs : List V} {ds : List D} (h : Reps K F vs ds) : Reps K F vs.dropLast ds.dropLast := by
  rw [List.dropLast_eq_take, List.dropLast_eq_take, h.length]
  exact h.take _
theorem Reps.ints {K : PySem.W.Frag} {F : Hp} : ∀ ns : List Int, Reps K F (ns.map V.int) (ns.map D.int)
  | [] => .nil
  | _ :: r => .cons (.int _) (Reps.ints r)

inductive Own where
  | li (x : List D) | di (kvs : List (Key × D)) | ti (kvs : List (List Key × D))
def Own.toD : Own → D
  | .li x => .lst x
  | .di kvs => .dk (kvs.map (·.1)) (kvs.map (·.2))
  | .ti kvs => .dt (kvs.map (·.1)) (kvs.map (·.2))
abbrev PR {κ : Type} (K : PySem.W.Frag) (F : Hp) : List (κ × V) → List (κ × D) → Prop := Paired fun p q => p.1 = q.1 ∧ Rep K F p.2 q.2
theorem PR.mono {κ : Type} {K : PySem.W.Frag} {F F' : Hp} (e : Same F F') {x : List (κ × V)} {y : List (κ × D)} (h : PR K F x y) : PR K F' x y := Paired.mapP h fun _ _ z => ⟨z.1, z.2.mono e⟩
theorem PR.keys {κ : Type} {K : PySem.W.Frag} {F : Hp} {x : List (κ × V)} {y : List (κ × D)} (h : PR K F x y) : x.map (·.1) = y.map (·.1) := by
  unfold PR at h
  induction h with
  | nil => rfl
  | cons a b ih => rw [List.map_cons, List.map_cons, ih, a.1]
theorem PR.vals {κ : Type} {K : PySem.W.Frag} {F : Hp} {x : List (κ × V)} {y : List (κ × D)} (h : PR K F x y) : Reps K F (x.map (·.2)) (y.map (·.2)) := by
  unfold PR at h
  induction h with
  | nil => exact .nil
  | cons a b ih => exact .cons a.2 ih
def OwnR (K : PySem.W.Frag) (F : Hp) (ho : HO) : Own → Prop
  | .li l => ∃ vs, ho = .lst vs ∧ vs.length ≤ sizeLine ∧ Reps K F vs l
  | .di l => ∃ kvs, ho = .dK kvs ∧ kvs.length ≤ sizeLine ∧ PR K F kvs l
  | .ti l => ∃ kvs, ho = .dT kvs ∧ kvs.length ≤ sizeLine ∧ PR K F kvs l
theorem OwnR.mono {K : PySem.W.Frag} {F F' : Hp} {ho : HO} (e : Same F F') : ∀ {o : Own}, OwnR K F ho o → OwnR K F' ho o
  | .li _, ⟨vs, h1, h2, h3⟩ => ⟨vs, h1, h2, h3.mono e⟩
  | .di _, ⟨vs, h1, h2, h3⟩ => ⟨vs, h1, h2, h3.mono e⟩
  | .ti _, ⟨vs, h1, h2, h3⟩ => ⟨vs, h1, h2, h3.mono e⟩
theorem OwnR.rep {K : PySem.W.Frag} {F : Hp} {a : Addr} {ho : HO} (h : F a = some ho) : ∀ {o : Own}, OwnR K F ho o → Rep K F (.ref a) o.toD
  | .li _, ⟨vs, h1, h2, h3⟩ => by subst h1; exact .lst h h2 h3
  | .di l, ⟨vs, h1, h2, h3⟩ => by
    subst h1
    show Rep K F (.ref a) (.dk (l.map (·.1)) (l.map (·.2)))
    rw [← h3.keys]
    exact .dk (.inl h) h2 h3.vals
  | .ti l, ⟨vs, h1, h2, h3⟩ => by
    subst h1
    show Rep K F (.ref a) (.dt (l.map (·.1)) (l.map (·.2)))
    rw [← h3.keys]
    exact .dt (.inl h) h2 h3.vals
theorem OwnR.notIns {K : PySem.W.Frag} {F : Hp} {ho : HO} {C dx : Addr} {fs : List (Str × V)} : ∀ {o : Own}, OwnR K F ho o → ho ≠ .ins C dx fs
  | .li _, ⟨vs, h1, h2, h3⟩ => by subst h1; intro z; cases z
  | .di _, ⟨vs, h1, h2, h3⟩ => by subst h1; intro z; cases z
  | .ti _, ⟨vs, h1, h2, h3⟩ => by subst h1; intro z; cases z
theorem OwnR.notTup {K : PySem.W.Frag} {F : Hp} {ho : HO} {ws : List V} : ∀ {o : Own}, OwnR K F ho o → ho ≠ .tup ws
  | .li _, ⟨vs, h1, h2, h3⟩ => by subst h1; intro z; cases z
  | .di _, ⟨vs, h1, h2, h3⟩ => by subst h1; intro z; cases z
  | .ti _, ⟨vs, h1, h2, h3⟩ => by subst h1; intro z; cases z

inductive Slot where
  | un | fz (d : D) | ow (o : Own) | self
def Slot.isOw : Slot → Bool
  | .ow _ => true
  | _ => false
inductive Exc where
  | noWeb | noRow | noNumber | noArrows | tooBig | noText
structure Pr where
  K : PySem.W.Frag
  ec : Exc → Value
  n : Nat
  fns : List Str
  C : Addr
  me : Addr

abbrev Ob := Option (Addr × List (Option V))
def tau (σ : L2.St) : Ob → List (Option V)
  | none => σ
  | some (_, fv) => σ ++ fv
def SlotR (K : PySem.W.Frag) (F H : Hp) (ob : Ob) (a : Addr) (v : Option V) : Slot → Prop
  | .un => True
  | .fz d => ∃ u, v = some u ∧ Rep K F u d
  | .ow o => v = some (.ref a) ∧ ∃ ho, H a = some ho ∧ OwnR K F ho o
  | .self => ∃ p fv, ob = some (p, fv) ∧ v = some (.ref p)
structure ObR (P : Pr) (B F H : Hp) (p : Addr) (fv : List (Option V)) : Prop where
  me : p = P.me
  len : fv.length = P.fns.length
  fp : F p = none
  bp : B p = none
  at_ : ∃ dx fs, H p = some (.ins P.C dx fs) ∧ (∀ (j : Nat) (f : Str), P.fns[j]? = some f → fs.lookup f = (fv[j]? : Option (Option V)).join) ∧ (∀ g, g ∉ P.fns → fs.lookup g = none) ∧ (fs.map (·.1)).Nodup

structure Wf (P : Pr) (B F0 F H : Hp) (σ : L2.St) (ob : Ob) (ρ : List Slot) : Prop where
  fh : Same F H
  bh : Same B H
  ff : Same F0 F
  nw : ∀ b o, F b = some o → F0 b = some o ∨ B b = none ∨ ∃ vs, o = .tup vs
  n : σ.length = P.n
  len : ρ.length = (tau σ ob).length
  sl : ∃ al : Nat → Addr, (∀ (i : Nat) (s : Slot), ρ[i]? = some s → SlotR P.K F H ob (al i) ((tau σ ob)[i]?).join s) ∧
    (∀ (i : Nat) (s : Slot), ρ[i]? = some s → s.isOw = true → F (al i) = none ∧ B (al i) = none) ∧
    (∀ (i j : Nat) (s t : Slot), ρ[i]? = some s → ρ[j]? = some t → s.isOw = true → t.isOw = true → al i = al j → i = j)
  ob : ∀ p fv, ob = some (p, fv) → ObR P B F H p fv
end Pv

set_option Elab.async false
set_option linter.all false
set_option maxRecDepth 100000
namespace Pv
open PySem PySem.Spec PyProof.Rows L2
theorem same_new {H : Hp} {p : Addr} {o : HO} (h : H p = none) : Same H (upd H p o) := fun b x e => by
  rw [upd_ne (ne_of_none e h)]
  exact e
theorem SlotR.imp {K : PySem.W.Frag} {F F' H H' : Hp} {ob : Ob} {a : Addr} {v : Option V} (e : Same F F') : ∀ {s : Slot}, SlotR K F H ob a v s → (∀ ho, s.isOw = true → H a = some ho → H' a = some ho) → SlotR K F' H' ob a v s
  | .un, _, _ => True.intro
  | .fz d, ⟨u, h1, h2⟩, _ => ⟨u, h1, h2.mono e⟩
  | .ow o, ⟨h1, ho, h2, h3⟩, h => ⟨h1, ho, h ho rfl h2, h3.mono e⟩
  | .self, h, _ => h
theorem SlotR.there {K : PySem.W.Frag} {F H : Hp} {ob : Ob} {a : Addr} {v : Option V} : ∀ {s : Slot}, SlotR K F H ob a v s → s.isOw = true → ∃ ho, H a = some ho ∧ (∀ C dx fs, ho ≠ .ins C dx fs) ∧ ∀ vs, ho ≠ .tup vs
  | .ow o, ⟨h1, ho, h2, h3⟩, _ => ⟨ho, h2, (fun _ _ _ => h3.notIns), fun _ => h3.notTup⟩
  | .un, _, h => nomatch h
  | .fz _, _, h => nomatch h
  | .self, _, h => nomatch h

theorem ObR.keep {P : Pr} {B B' F F' H H' : Hp} {p : Addr} {fv : List (Option V)} (x : ObR P B F H p fv) (hf : F p = none → F' p = none) (hb : B p = none → B' p = none) (h : ∀ ho, H p = some ho → H' p = some ho) : ObR P B' F' H' p fv := by
  obtain ⟨me, l, a, b, dx, fs, e, r⟩ := x
  exact ⟨me, l, hf a, hb b, dx, fs, h _ e, r⟩
theorem ObR.ins {P : Pr} {B F H : Hp} {p : Addr} {fv : List (Option V)} (x : ObR P B F H p fv) : ∃ dx fs, H p = some (.ins P.C dx fs) := by
  obtain ⟨me, l, a, b, dx, fs, e, r⟩ := x
  exact ⟨dx, fs, e⟩

section
variable {P : Pr} {B F0 F H : Hp} {σ : L2.St} {ob : Ob} {ρ : List Slot}
/-- a new frozen object -/
theorem Wf.grow (w : Wf P B F0 F H σ ob ρ) {p : Addr} {o : HO} (hp : H p = none) : Wf P B F0 (upd F p o) (upd H p o) σ ob ρ := by
  obtain ⟨fh, bh, ff, nw, n, len, ⟨al, s1, s2, s3⟩, hob⟩ := w
  have fp : F p = none := fh.free hp
  have bp : B p = none := bh.free hp
  have sF : Same F (upd F p o) := same_new fp
  have sH : Same H (upd H p o) := same_new hp
  refine ⟨fun b x e => ?_, bh.trans sH, ff.trans sF, fun b x e => ?_, n, len, ⟨al, fun i s h => (s1 i s h).imp sF fun ho _ e => sH _ _ e, fun i s h ho => ?_, s3⟩, fun q fv e => ?_⟩
  · by_cases hb : b = p
    · subst hb; rw [upd_same] at e ⊢; exact e
    · rw [upd_ne hb] at e ⊢; exact fh _ _ e
  · by_cases hb : b = p
    · subst hb; exact .inr (.inl bp)
    · rw [upd_ne hb] at e; exact nw _ _ e
  · obtain ⟨z, e, _⟩ := (s1 i s h).there ho
    rw [upd_ne (ne_of_none e hp)]
    exact s2 i s h ho
  · have x := hob q fv e
    obtain ⟨dx, fs, e1⟩ := x.ins
    exact x.keep (fun h => by rw [upd_ne (ne_of_none e1 hp)]; exact h) (fun h => h) (fun ho h => sH _ _ h)
/-- a temporary owned object -/
theorem Wf.tmp (w : Wf P B F0 F H σ ob ρ) {p : Addr} {o : HO} (hp : H p = none) : Wf P (upd B p o) F0 F (upd H p o) σ ob ρ := by
  obtain ⟨fh, bh, ff, nw, n, len, ⟨al, s1, s2, s3⟩, hob⟩ := w
  have fp : F p = none := fh.free hp
  have sH : Same H (upd H p o) := same_new hp
  refine ⟨fh.trans sH, fun b x e => ?_, ff, fun b x e => ?_, n, len, ⟨al, fun i s h => (s1 i s h).imp (Same.refl _) fun ho _ e => sH _ _ e, fun i s h ho => ?_, s3⟩, fun q fv e => ?_⟩
  · by_cases hb : b = p
    · subst hb; rw [upd_same] at e ⊢; exact e
    · rw [upd_ne hb] at e ⊢; exact bh _ _ e
  · rcases nw b x e with h | h
    · exact .inl h
    · exact .inr (h.imp_left fun h => by rw [upd_ne (ne_of_none e fp)]; exact h)
  · obtain ⟨z, e, _⟩ := (s1 i s h).there ho
    rw [upd_ne (ne_of_none e hp)]
    exact s2 i s h ho
  · have x := hob q fv e
    obtain ⟨dx, fs, e1⟩ := x.ins
    exact x.keep (fun h => h) (fun h => by rw [upd_ne (ne_of_none e1 hp)]; exact h) (fun ho h => sH _ _ h)
/-- the temporary one changes -/
theorem Wf.tmpUpd {a : Addr} {ho ho' : HO} (w : Wf P (upd B a ho) F0 F H σ ob ρ) (fa : F a = none) : Wf P (upd B a ho') F0 F (upd H a ho') σ ob ρ := by
  obtain ⟨fh, bh, ff, nw, n, len, ⟨al, s1, s2, s3⟩, hob⟩ := w
  have own : ∀ (i : Nat) (s : Slot), ρ[i]? = some s → s.isOw = true → al i ≠ a := fun i s h e z => by
    have := (s2 i s h e).2
    rw [z, upd_same] at this
    cases this
  refine ⟨fun b x e => ?_, fun b x e => ?_, ff, fun b x e => ?_, n, len, ⟨al, fun i s h => (s1 i s h).imp (Same.refl _) fun u hs e => ?_, fun i s h hs => ?_, s3⟩, fun q fv e => ?_⟩
  · rw [upd_ne (ne_of_none e fa)]; exact fh _ _ e
  · by_cases hb : b = a
    · subst hb; rw [upd_same] at e ⊢; exact e
    · rw [upd_ne hb] at e ⊢
      exact bh b x (by rw [upd_ne hb]; exact e)
  · rcases nw b x e with h | h
    · exact .inl h
    · have hb : b ≠ a := ne_of_none e fa
      rw [upd_ne hb] at h
      exact .inr (by rw [upd_ne hb]; exact h)
  · rw [upd_ne (own i s h hs)]; exact e
  · have q := s2 i s h hs
    rw [upd_ne (own i s h hs)] at q ⊢
    exact q
  · have x := hob q fv e
    have hq : q ≠ a := fun z => by
      have := x.bp
      rw [z, upd_same] at this
      cases this
    exact x.keep (fun h => h) (fun h => by rw [upd_ne hq] at h ⊢; exact h) (fun u h => by rw [upd_ne hq]; exact h)
/-- the temporary one is frozen -/
theorem Wf.tmpFrz {a : Addr} {ho : HO} (w : Wf P (upd B a ho) F0 F H σ ob ρ) (fa : F a = none) (ba : B a = none) : Wf P B F0 (upd F a ho) H σ ob ρ := by
  obtain ⟨fh, bh, ff, nw, n, len, ⟨al, s1, s2, s3⟩, hob⟩ := w
  have own : ∀ (i : Nat) (s : Slot), ρ[i]? = some s → s.isOw = true → al i ≠ a := fun i s h e z => by
    have := (s2 i s h e).2
    rw [z, upd_same] at this
    cases this
  have sF : Same F (upd F a ho) := same_new fa
  refine ⟨fun b x e => ?_, fun b x e => bh b x (by rw [upd_ne (ne_of_none e ba)]; exact e), ff.trans sF, fun b x e => ?_, n, len, ⟨al, fun i s h => (s1 i s h).imp sF fun u hs e => e, fun i s h hs => ?_, s3⟩, fun q fv e => ?_⟩
  · by_cases hb : b = a
    · subst hb; rw [upd_same] at e; rw [← e]; exact bh b _ upd_same
    · rw [upd_ne hb] at e; exact fh _ _ e
  · by_cases hb : b = a
    · subst hb; exact .inr (.inl ba)
    · rw [upd_ne hb] at e
      rcases nw b x e with h | h
      · exact .inl h
      · rw [upd_ne hb] at h; exact .inr h
  · have q := s2 i s h hs
    rw [upd_ne (own i s h hs)] at q ⊢
    exact q
  · have x := hob q fv e
    have hq : q ≠ a := fun z => by
      have := x.bp
      rw [z, upd_same] at this
      cases this
    exact x.keep (fun h => by rw [upd_ne hq]; exact h) (fun h => by rw [upd_ne hq] at h; exact h) (fun u h => h)
theorem Wf.getH (w : Wf P (upd B a ho) F0 F H σ ob ρ) : H a = some ho := w.bh a ho upd_same
/-- B may be anything smaller, for what is new -/
theorem Wf.lessB {B' : Hp} (w : Wf P B' F0 F H σ ob ρ) (hb : Same B B') : Wf P B F0 F H σ ob ρ := by
  obtain ⟨fh, bh, ff, nw, n, len, ⟨al, s1, s2, s3⟩, hob⟩ := w
  refine ⟨fh, hb.trans bh, ff, fun b x e => ?_, n, len, ⟨al, s1, fun i s h hs => ⟨(s2 i s h hs).1, hb.free (s2 i s h hs).2⟩, s3⟩, fun q fv e => (hob q fv e).keep (fun h => h) (fun h => hb.free h) fun u h => h⟩
  rcases nw b x e with h | h
  · exact .inl h
  · exact .inr (h.imp_left hb.free)
theorem tau_lt (h : i < σ.length) : (tau σ ob)[i]? = σ[i]? := by
  cases ob with
  | none => rfl
  | some q =>
    obtain ⟨p, fv⟩ := q
    exact List.getElem?_append_left h
theorem tau_set (h : i < σ.length) (v : Option V) : tau (σ.set i v) ob = (tau σ ob).set i v := by
  cases ob with
  | none => rfl
  | some q =>
    obtain ⟨p, fv⟩ := q
    show σ.set i v ++ fv = (σ ++ fv).set i v
    rw [List.set_append_left _ _ h]
theorem tau_len_le : σ.length ≤ (tau σ ob).length := by
  cases ob with
  | none => exact Nat.le_refl _
  | some q =>
    obtain ⟨p, fv⟩ := q
    show σ.length ≤ (σ ++ fv).length
    rw [List.length_append]; omega
/-- a local is stored: something frozen, or the object, or nothing known -/
theorem Wf.set (w : Wf P B F0 F H σ ob ρ) {i : Nat} {v : Option V} {s : Slot} (hi : i < P.n) (hs : s.isOw = false) (hr : ∀ a, SlotR P.K F H ob a v s) : Wf P B F0 F H (σ.set i v) ob (ρ.set i s) := by
  obtain ⟨fh, bh, ff, nw, n, len, ⟨al, s1, s2, s3⟩, hob⟩ := w
  have hi' : i < σ.length := by rw [n]; exact hi
  have hiρ : i < ρ.length := by rw [len]; exact Nat.lt_of_lt_of_le hi' tau_len_le
  have hiτ : i < (tau σ ob).length := by rw [← len]; exact hiρ
  refine ⟨fh, bh, ff, nw, by rw [List.length_set]; exact n, by rw [tau_set hi', List.length_set, List.length_set]; exact len, ⟨al, fun j t h => ?_, fun j t h ht => ?_, fun j k t u h h' ht hu => ?_⟩, hob⟩
  · rw [tau_set hi']
    by_cases hj : i = j
    · subst hj
      rw [List.getElem?_set_self hiρ] at h
      cases h
      rw [List.getElem?_set_self hiτ]
      exact hr _
    · rw [List.getElem?_set_ne hj] at h ⊢
      exact s1 j t h
  · by_cases hj : i = j
    · subst hj
      rw [List.getElem?_set_self hiρ] at h
      cases h
      rw [hs] at ht; cases ht
    · rw [List.getElem?_set_ne hj] at h
      exact s2 j t h ht
  · by_cases hj : i = j
    · subst hj
      rw [List.getElem?_set_self hiρ] at h
      cases h
      rw [hs] at ht; cases ht
    · by_cases hk : i = k
      · subst hk
        rw [List.getElem?_set_self hiρ] at h'
        cases h'
        rw [hs] at hu; cases hu
      · rw [List.getElem?_set_ne hj] at h
        rw [List.getElem?_set_ne hk] at h'
        exact s3 j k t u h h' ht hu
/-- a local takes the temporary object -/
theorem Wf.setOw {a : Addr} {ho : HO} {o : Own} (w : Wf P (upd B a ho) F0 F H σ ob ρ) {i : Nat} (hi : i < P.n) (fa : F a = none) (ba : B a = none) (hr : OwnR P.K F ho o) : Wf P B F0 F H (σ.set i (some (.ref a))) ob (ρ.set i (.ow o)) := by
  have eH := w.getH
  obtain ⟨fh, bh, ff, nw, n, len, ⟨al, s1, s2, s3⟩, hob⟩ := w.lessB (same_new ba)
  obtain ⟨_, _, _, _, _, _, ⟨bl, t1, t2, t3⟩, hob'⟩ := w
  have own : ∀ (i : Nat) (s : Slot), ρ[i]? = some s → s.isOw = true → bl i ≠ a := fun i s h e z => by
    have := (t2 i s h e).2
    rw [z, upd_same] at this
    cases this
  have hi' : i < σ.length := by rw [n]; exact hi
  have hiρ : i < ρ.length := by rw [len]; exact Nat.lt_of_lt_of_le hi' tau_len_le
  have hiτ : i < (tau σ ob).length := by rw [← len]; exact hiρ
  refine ⟨fh, bh, ff, nw, by rw [List.length_set]; exact n, by rw [tau_set hi', List.length_set, List.length_set]; exact len, ⟨fun j => if j = i then a else bl j, fun j t h => ?_, fun j t h ht => ?_, fun j k t u h h' ht hu => ?_⟩, hob⟩
  · rw [tau_set hi']
    by_cases hj : i = j
    · subst hj
      rw [List.getElem?_set_self hiρ] at h
      cases h
      rw [List.getElem?_set_self hiτ]
      dsimp only
      rw [if_pos rfl]
      exact ⟨rfl, ho, eH, hr⟩
    · rw [List.getElem?_set_ne hj] at h ⊢
      dsimp only
      rw [if_neg (fun z => hj z.symm)]
      exact t1 j t h
  · by_cases hj : i = j
    · subst hj
      dsimp only
      rw [if_pos rfl]
      exact ⟨fa, ba⟩
    · rw [List.getElem?_set_ne hj] at h
      dsimp only
      rw [if_neg (fun z => hj z.symm)]
      have q := t2 j t h ht
      rw [upd_ne (own j t h ht)] at q
      exact q
  · by_cases hj : i = j
    · by_cases hk : i = k
      · omega
      · subst hj
        rw [List.getElem?_set_ne hk] at h'
        dsimp only
        rw [if_pos rfl, if_neg (fun z => hk z.symm)]
        intro z
        exact absurd z.symm (own k u h' hu)
    · by_cases hk : i = k
      · subst hk
        rw [List.getElem?_set_ne hj] at h
        dsimp only
        rw [if_pos rfl, if_neg (fun z => hj z.symm)]
        intro z
        exact absurd z (own j t h ht)
      · rw [List.getElem?_set_ne hj] at h
        rw [List.getElem?_set_ne hk] at h'
        dsimp only
        rw [if_neg (fun z => hj z.symm), if_neg (fun z => hk z.symm)]
        exact t3 j k t u h h' ht hu
/-- an owned slot, read -/
theorem Wf.owned (w : Wf P B F0 F H σ ob ρ) {i : Nat} {o : Own} (h : ρ[i]? = some (.ow o)) : ∃ a ho, (tau σ ob)[i]? = some (some (.ref a)) ∧ H a = some ho ∧ OwnR P.K F ho o ∧ F a = none ∧ B a = none ∧
    (∀ ho' o', OwnR P.K F ho' o' → Wf P B F0 F (upd H a ho') σ ob (ρ.set i (.ow o'))) ∧ Wf P B F0 (upd F a ho) H σ ob (ρ.set i (.fz o.toD)) := by
  obtain ⟨fh, bh, ff, nw, n, len, ⟨al, s1, s2, s3⟩, hob⟩ := w
  obtain ⟨e1, ho, e2, e3⟩ := s1 i _ h
  obtain ⟨fa, ba⟩ := s2 i _ h rfl
  have hiρ : i < ρ.length := (List.getElem?_eq_some_iff.mp h).1
  have hiτ : i < (tau σ ob).length := by rw [← len]; exact hiρ
  have e0 : (tau σ ob)[i]? = some (some (.ref (al i))) := by
    rw [List.getElem?_eq_getElem hiτ] at e1 ⊢
    rw [show (tau σ ob)[i] = some (.ref (al i)) from e1]
  refine ⟨al i, ho, e0, e2, e3, fa, ba, fun ho' o' hr => ?_, ?_⟩
  · have ne : ∀ (j : Nat) (s : Slot), ρ[j]? = some s → s.isOw = true → i ≠ j → al j ≠ al i := fun j s hj hs hij z => hij (s3 j i s _ hj h hs rfl z).symm
    refine ⟨fun b x e => ?_, fun b x e => ?_, ff, nw, n, by rw [List.length_set]; exact len, ⟨al, fun j t hj => ?_, fun j t hj ht => ?_, fun j k t u hj hk ht hu => ?_⟩, fun q fv e => ?_⟩
    · rw [upd_ne (ne_of_none e fa)]; exact fh _ _ e
    · rw [upd_ne (ne_of_none e ba)]; exact bh _ _ e
    · by_cases hij : i = j
      · subst hij
        rw [List.getElem?_set_self hiρ] at hj
        cases hj
        exact ⟨e1, ho', upd_same, hr⟩
      · rw [List.getElem?_set_ne hij] at hj
        exact (s1 j t hj).imp (Same.refl _) fun u hu e => by rw [upd_ne (ne j t hj hu hij)]; exact e
    · by_cases hij : i = j
      · subst hij; exact ⟨fa, ba⟩
      · rw [List.getElem?_set_ne hij] at hj
        exact s2 j t hj ht
    · intro z
      have g : ∀ (j : Nat) (t : Slot), (ρ.set i (.ow o'))[j]? = some t → t.isOw = true → ∃ s : Slot, ρ[j]? = some s ∧ s.isOw = true := fun j t hj ht => by
        by_cases hij : i = j
        · subst hij; exact ⟨_, h, rfl⟩
        · rw [List.getElem?_set_ne hij] at hj
          exact ⟨t, hj, ht⟩
      obtain ⟨s, a1, a2⟩ := g j t hj ht
      obtain ⟨s', b1, b2⟩ := g k u hk hu
      exact s3 j k s s' a1 b1 a2 b2 z
    · have x := hob q fv e
      obtain ⟨dx, fs, ei⟩ := x.ins
      have hq : q ≠ al i := ne_of ei e2 fun z => e3.notIns z.symm
      exact x.keep (fun h => h) (fun h => h) fun u hu => by rw [upd_ne hq]; exact hu
  · have sF : Same F (upd F (al i) ho) := same_new fa
    refine ⟨fun b x e => ?_, bh, ff.trans sF, fun b x e => ?_, n, by rw [List.length_set]; exact len, ⟨al, fun j t hj => ?_, fun j t hj ht => ?_, fun j k t u hj hk ht hu => ?_⟩, fun q fv e => ?_⟩
    · by_cases hb : b = al i
      · subst hb; rw [upd_same] at e; cases e; exact e2
      · rw [upd_ne hb] at e; exact fh _ _ e
    · by_cases hb : b = al i
      · subst hb; exact .inr (.inl ba)
      · rw [upd_ne hb] at e; exact nw _ _ e
    · by_cases hij : i = j
      · subst hij
        rw [List.getElem?_set_self hiρ] at hj
        cases hj
        exact ⟨_, e1, (e3.mono sF).rep upd_same⟩
      · rw [List.getElem?_set_ne hij] at hj
        exact (s1 j t hj).imp sF fun u hu e => e
    · by_cases hij : i = j
      · subst hij
        rw [List.getElem?_set_self hiρ] at hj
        cases hj
        cases ht
      · rw [List.getElem?_set_ne hij] at hj
        rw [upd_ne (fun z => hij (s3 j i t _ hj h ht rfl z).symm)]
        exact s2 j t hj ht
    · have g : ∀ (j : Nat) (t : Slot), (ρ.set i (.fz o.toD))[j]? = some t → t.isOw = true → ρ[j]? = some t := fun j t hj ht => by
        by_cases hij : i = j
        · subst hij
          rw [List.getElem?_set_self hiρ] at hj
          cases hj
          cases ht
        · rw [List.getElem?_set_ne hij] at hj
          exact hj
      exact s3 j k t u (g j t hj ht) (g k u hk hu) ht hu
    · have x := hob q fv e
      obtain ⟨dx, fs, ei⟩ := x.ins
      have hq : q ≠ al i := ne_of ei e2 fun z => e3.notIns z.symm
      exact x.keep (fun h => by rw [upd_ne hq]; exact h) (fun h => h) fun u hu => hu
end
end Pv

set_option Elab.async false
set_option linter.all false
set_option maxRecDepth 100000
namespace Pv
open PySem PySem.Spec PyProof.Rows L2
abbrev Envi := List Slot
inductive R (α : Type) where
  | ok (a : α) (ρ : Envi) | exc (c : Exc) (ρ : Envi) | stuck
def R.bind {α β : Type} (r : R α) (k : α → Envi → R β) : R β :=
  match r with
  | .ok a ρ => k a ρ
  | .exc c ρ => .exc c ρ
  | .stuck => .stuck
inductive Hd where
  | dat (d : D) | pl (i : Nat) | fl (i : Nat) | tm (o : Own) | obj
def deref (ρ : Envi) : Hd → Option D
  | .dat d => some d
  | .pl i => match ρ[i]? with
    | some (.fz d) => some d
    | some (.ow o) => some o.toD
    | _ => none
  | .fl i => match ρ[i]? with
    | some (.fz d) => some d
    | some (.ow o) => some o.toD
    | _ => none
  | .tm _ => none
  | .obj => none
def mat (ρ : Envi) : Hd → Option (D × Envi)
  | .dat d => some (d, ρ)
  | .pl i => match ρ[i]? with
    | some (.fz d) => some (d, ρ)
    | some (.ow o) => some (o.toD, ρ.set i (.fz o.toD))
    | _ => none
  | .fl i => match ρ[i]? with
    | some (.fz d) => some (d, ρ)
    | some (.ow o) => some (o.toD, ρ.set i (.fz o.toD))
    | _ => none
  | .tm _ => none
  | .obj => none
def matAll (ρ : Envi) : List Hd → Option (List D × Envi)
  | [] => some ([], ρ)
  | h :: hs => match mat ρ h with
    | some (d, ρ1) => match matAll ρ1 hs with
      | some (ds, ρ2) => some (d :: ds, ρ2)
      | none => none
    | none => none
def derefAll (ρ : Envi) : List Hd → Option (List D)
  | [] => some []
  | h :: hs => match deref ρ h, derefAll ρ hs with
    | some d, some ds => some (d :: ds)
    | _, _ => none
def R.frz : R Hd → R Hd
  | .ok (.tm o) ρ => .ok (.dat o.toD) ρ
  | r => r

def HR1 (P : Pr) (F : Hp) (σ : L2.St) (ob : Ob) (v : V) : Hd → Prop
  | .dat d => Rep P.K F v d
  | .pl i => i < P.n ∧ σ[i]? = some (some v)
  | .fl i => P.n ≤ i ∧ (tau σ ob)[i]? = some (some v)
  | .tm _ => False
  | .obj => ∃ p fv, ob = some (p, fv) ∧ v = .ref p
def HR (P : Pr) (B B' F : Hp) (σ : L2.St) (ob : Ob) (v : V) : Hd → Prop
  | .tm o => ∃ a ho, v = .ref a ∧ B' = upd B a ho ∧ B a = none ∧ F a = none ∧ OwnR P.K F ho o
  | h => B' = B ∧ HR1 P F σ ob v h
def Post {α β : Type} (P : Pr) (B F0 F : Hp) (σ : L2.St) (ob : Ob) (m : Bool) (W : WX) (Rel : Hp → Hp → Ob → β → α → Prop) (Q : β → Hp → Prop) : R α → Prop
  | .ok a ρ' => ∀ B' F' H' ob' v, Wf P B' F0 F' H' σ ob' ρ' → Same F F' → (m = false → ob' = ob) → Rel B' F' ob' v a → Q v H'
  | .exc c ρ' => ∀ F' H' ob', Wf P B F0 F' H' σ ob' ρ' → Same F F' → W (P.ec c) none σ H'
  | .stuck => False
abbrev RelE (P : Pr) (B : Hp) (σ : L2.St) : Hp → Hp → Ob → V → Hd → Prop := fun B' F' ob' v h => HR P B B' F' σ ob' v h
abbrev RelF (P : Pr) (B : Hp) (σ : L2.St) : Hp → Hp → Ob → V → Hd → Prop := fun B' F' ob' v h => B' = B ∧ HR1 P F' σ ob' v h
def HRs (P : Pr) (F : Hp) (σ : L2.St) (ob : Ob) : List V → List Hd → Prop
  | [], [] => True
  | v :: vs, h :: hs => HR1 P F σ ob v h ∧ HRs P F σ ob vs hs
  | _, _ => False
abbrev RelA (P : Pr) (B : Hp) (σ : L2.St) : Hp → Hp → Ob → List V → List Hd → Prop := fun B' F' ob' vs hs => B' = B ∧ HRs P F' σ ob' vs hs
abbrev RelT (B : Hp) : Hp → Hp → Ob → Bool → Bool → Prop := fun B' _ _ b c => B' = B ∧ b = c
def SndE (P : Pr) (m : Bool) (W : WX) (te : TE) (f : Envi → R Hd) : Prop :=
  ∀ B F0 F H σ ob ρ Q, Wf P B F0 F H σ ob ρ → Post P B F0 F σ ob m W (RelE P B σ) Q (f ρ) → te σ H Q
def SndF (P : Pr) (m : Bool) (W : WX) (te : TE) (f : Envi → R Hd) : Prop :=
  ∀ B F0 F H σ ob ρ Q, Wf P B F0 F H σ ob ρ → Post P B F0 F σ ob m W (RelF P B σ) Q (f ρ) → te σ H Q
def SndA (P : Pr) (m : Bool) (W : WX) (n : Nat) (ta : TA) (f : Envi → R (List Hd)) : Prop :=
  ∀ B F0 F H σ ob ρ Q, Wf P B F0 F H σ ob ρ → Post P B F0 F σ ob m W (fun B' F' ob' vs hs => RelA P B σ B' F' ob' vs hs ∧ vs.length = n) Q (f ρ) → ta σ H Q
def SndT (P : Pr) (m : Bool) (W : WX) (tt : TT) (f : Envi → R Bool) : Prop :=
  ∀ B F0 F H σ ob ρ Q, Wf P B F0 F H σ ob ρ → Post P B F0 F σ ob m W (RelT B) Q (f ρ) → tt σ H Q

section
variable {P : Pr} {B F0 F H : Hp} {σ : L2.St} {ob : Ob} {ρ : Envi}
theorem HR1.mono {v : V} {F' : Hp} {ob' : Ob} (e : Same F F') (ho : ob' = ob) : ∀ {h : Hd}, HR1 P F σ ob v h → HR1 P F' σ ob' v h
  | .dat d, h => Rep.mono e h
  | .pl i, h => h
  | .fl i, h => by rw [ho]; exact h
  | .tm _, h => h
  | .obj, h => by rw [ho]; exact h
theorem HRs.mono {F' : Hp} {ob' : Ob} (e : Same F F') (ho : ob' = ob) : ∀ {vs : List V} {hs : List Hd}, HRs P F σ ob vs hs → HRs P F' σ ob' vs hs
  | [], [], h => h
  | v :: vs, h :: hs, ⟨a, b⟩ => ⟨a.mono e ho, HRs.mono e ho b⟩
  | [], _ :: _, h => h.elim
  | _ :: _, [], h => h.elim
theorem Post.up {α β : Type} {m : Bool} {W : WX} {Rel : Hp → Hp → Ob → β → α → Prop} {Q : β → Hp → Prop} : ∀ {r : R α}, Post P B F0 F σ ob m W Rel Q r → Post P B F0 F σ ob false W Rel Q r
  | .ok a ρ', h => fun B' F' H' ob' v w s i r => h B' F' H' ob' v w s (fun _ => i rfl) r
  | .exc c ρ', h => h
  | .stuck, h => h
theorem SndE.up {m : Bool} {W : WX} {te : TE} {f : Envi → R Hd} (h : SndE P false W te f) : SndE P m W te f := fun B F0 F H σ ob ρ Q w q => h B F0 F H σ ob ρ Q w q.up
theorem SndE.frz {m : Bool} {W : WX} {te : TE} {f : Envi → R Hd} (h : SndE P m W te f) : SndF P m W te (fun ρ => (f ρ).frz) := fun B F0 F H σ ob ρ Q w q => by
  refine h B F0 F H σ ob ρ Q w ?_
  dsimp only at q
  cases e : f ρ with
  | stuck => rw [e] at q; exact q
  | exc c ρ' => rw [e] at q; exact q
  | ok h ρ' =>
    rw [e] at q
    cases h with
    | tm o =>
      intro B' F' H' ob' v w' s i r
      obtain ⟨a, ho, e1, e2, e3, e4, e5⟩ := r
      subst e2
      refine q B (upd F' a ho) H' ob' v (w'.tmpFrz e4 e3) (s.trans (same_new e4)) i ⟨rfl, ?_⟩
      rw [e1]
      exact (e5.mono (same_new e4)).rep upd_same
    | dat d => exact q
    | pl d => exact q
    | fl d => exact q
    | obj => exact q
/-- the continuation behind a first part -/
theorem Post.shift {α β : Type} {m : Bool} {W : WX} {F1 : Hp} {ob1 : Ob} {Rel : Hp → Hp → Ob → β → α → Prop} {Q : β → Hp → Prop} (e : Same F F1) (ho : m = false → ob1 = ob) : ∀ {r : R α}, Post P B F0 F σ ob m W Rel Q r → Post P B F0 F1 σ ob1 m W Rel Q r
  | .ok a ρ', h => fun B' F' H' ob' v w s i r => h B' F' H' ob' v w (e.trans s) (fun z => (i z).trans (ho z)) r
  | .exc c ρ', h => fun F' H' ob' w s => h F' H' ob' w (e.trans s)
  | .stuck, h => h
/-- from one part's result to the whole's -/
theorem Post.of_bind {α β γ δ : Type} {m m' : Bool} {W : WX} {Rel : Hp → Hp → Ob → γ → α → Prop} {Rel' : Hp → Hp → Ob → δ → β → Prop} {Q : γ → Hp → Prop} {Q' : δ → Hp → Prop} {k : α → Envi → R β} {r : R α}
    (h : Post P B F0 F σ ob m W Rel' Q' (r.bind k))
    (step : ∀ a ρ' B' F' H' ob' v, Wf P B' F0 F' H' σ ob' ρ' → Same F F' → (m' = false → ob' = ob) → Rel B' F' ob' v a → Post P B F0 F σ ob m W Rel' Q' (k a ρ') → Q v H') : Post P B F0 F σ ob m' W Rel Q r := by
  cases r with
  | ok a ρ' => exact fun B' F' H' ob' v w s i r => step a ρ' B' F' H' ob' v w s i r h
  | exc c ρ' => exact h
  | stuck => exact h

def BRep (K : PySem.W.Frag) (F H : Hp) (v : V) (d : D) : Prop := Rep K F v d ∨ ∃ a ho o, v = .ref a ∧ H a = some ho ∧ OwnR K F ho o ∧ d = o.toD
theorem Wf.deref (w : Wf P B F0 F H σ ob ρ) {v : V} {h : Hd} {d : D} (r : HR1 P F σ ob v h) (e : deref ρ h = some d) : BRep P.K F H v d := by
  have key : ∀ i : Nat, (tau σ ob)[i]? = some (some v) → (match ρ[i]? with | some (.fz d) => some d | some (.ow o) => some o.toD | _ => none) = some d → BRep P.K F H v d := fun i hi e => by
    obtain ⟨al, s1, s2, s3⟩ := w.sl
    cases q : ρ[i]? with
    | none => rw [q] at e; cases e
    | some s =>
      have x := s1 i s q
      rw [hi] at x
      rw [q] at e
      cases s with
      | un => cases e
      | self => cases e
      | fz d' =>
        cases e
        obtain ⟨u, e1, e2⟩ := x
        cases e1
        exact .inl e2
      | ow o =>
        cases e
        obtain ⟨e1, ho, e2, e3⟩ := x
        cases e1
        exact .inr ⟨_, ho, o, rfl, e2, e3, rfl⟩
  cases h with
  | dat d' => cases e; exact .inl r
  | pl i => exact key i (by rw [tau_lt (by rw [w.n]; exact r.1)]; exact r.2) e
  | fl i => exact key i r.2 e
  | tm o => exact r.elim
  | obj => cases e
theorem Wf.mat (w : Wf P B F0 F H σ ob ρ) {v : V} {h : Hd} {d : D} {ρ' : Envi} (r : HR1 P F σ ob v h) (e : mat ρ h = some (d, ρ')) : ∃ F', Wf P B F0 F' H σ ob ρ' ∧ Same F F' ∧ Rep P.K F' v d := by
  have key : ∀ i : Nat, (tau σ ob)[i]? = some (some v) → (match ρ[i]? with | some (.fz d) => some (d, ρ) | some (.ow o) => some (o.toD, ρ.set i (.fz o.toD)) | _ => none) = some (d, ρ') → ∃ F', Wf P B F0 F' H σ ob ρ' ∧ Same F F' ∧ Rep P.K F' v d := fun i hi e => by
    cases q : ρ[i]? with
    | none => rw [q] at e; cases e
    | some s =>
      rw [q] at e
      cases s with
      | un => cases e
      | self => cases e
      | fz d' =>
        cases e
        obtain ⟨al, s1, s2, s3⟩ := w.sl
        have x := s1 i _ q
        rw [hi] at x
        obtain ⟨u, e1, e2⟩ := x
        cases e1
        exact ⟨F, w, Same.refl _, e2⟩
      | ow o =>
        cases e
        obtain ⟨a, ho, e1, e2, e3, fa, ba, _, w'⟩ := w.owned q
        rw [hi] at e1
        cases e1
        exact ⟨_, w', same_new fa, (e3.mono (same_new fa)).rep upd_same⟩
  cases h with
  | dat d' => cases e; exact ⟨F, w, Same.refl _, r⟩
  | pl i => exact key i (by rw [tau_lt (by rw [w.n]; exact r.1)]; exact r.2) e
  | fl i => exact key i r.2 e
  | tm o => exact r.elim
  | obj => cases e
theorem Wf.matAll : ∀ {hs : List Hd} {F : Hp} {ρ : Envi} {vs : List V} {ds : List D} {ρ' : Envi}, Wf P B F0 F H σ ob ρ → HRs P F σ ob vs hs → matAll ρ hs = some (ds, ρ') → ∃ F', Wf P B F0 F' H σ ob ρ' ∧ Same F F' ∧ Reps P.K F' vs ds
  | [], F, ρ, [], ds, ρ', w, r, e => by cases e; exact ⟨F, w, Same.refl _, .nil⟩
  | [], F, ρ, _ :: _, ds, ρ', w, r, e => r.elim
  | h :: hs, F, ρ, [], ds, ρ', w, r, e => r.elim
  | h :: hs, F, ρ, v :: vs, ds, ρ', w, ⟨r, rs⟩, e => by
    unfold Pv.matAll at e
    cases q : Pv.mat ρ h with
    | none => rw [q] at e; cases e
    | some x =>
      obtain ⟨d, ρ1⟩ := x
      rw [q] at e
      obtain ⟨F1, w1, s1, r1⟩ := w.mat r q
      dsimp only at e
      cases q2 : Pv.matAll ρ1 hs with
      | none => rw [q2] at e; cases e
      | some x =>
        obtain ⟨ds', ρ2⟩ := x
        rw [q2] at e
        cases e
        obtain ⟨F2, w2, s2, r2⟩ := Wf.matAll w1 (rs.mono s1 rfl) q2
        exact ⟨F2, w2, s1.trans s2, .cons (Rep.mono s2 r1) r2⟩
inductive BReps (K : PySem.W.Frag) (F H : Hp) : List V → List D → Prop
  | nil : BReps K F H [] []
  | cons {v : V} {vs : List V} {d : D} {ds : List D} : BRep K F H v d → BReps K F H vs ds → BReps K F H (v :: vs) (d :: ds)
theorem Wf.derefAll (w : Wf P B F0 F H σ ob ρ) : ∀ {hs : List Hd} {vs : List V} {ds : List D}, HRs P F σ ob vs hs → derefAll ρ hs = some ds → BReps P.K F H vs ds
  | [], [], ds, r, e => by cases e; exact .nil
  | [], _ :: _, ds, r, e => r.elim
  | h :: hs, [], ds, r, e => r.elim
  | h :: hs, v :: vs, ds, ⟨r, rs⟩, e => by
    unfold Pv.derefAll at e
    cases q : Pv.deref ρ h with
    | none => rw [q] at e; cases e
    | some d =>
      cases q2 : Pv.derefAll ρ hs with
      | none => rw [q, q2] at e; cases e
      | some ds' =>
        rw [q, q2] at e
        cases e
        exact .cons (w.deref r q) (w.derefAll rs q2)
inductive Grow : Hp → Hp → Hp → Hp → Prop
  | refl (F H : Hp) : Grow F H F H
  | new {F H F1 H1 : Hp} {p : Addr} {o : HO} : Grow F H F1 H1 → H1 p = none → Grow F H (upd F1 p o) (upd H1 p o)
  | known {F H F1 H1 : Hp} {p : Addr} {vs : List V} : Grow F H F1 H1 → H1 p = some (.tup vs) → Grow F H (upd F1 p (.tup vs)) H1
/-- a tuple that stands there may be known -/
theorem Wf.growT (w : Wf P B F0 F H σ ob ρ) {p : Addr} {vs : List V} (hp : H p = some (.tup vs)) : Wf P B F0 (upd F p (.tup vs)) H σ ob ρ ∧ Same F (upd F p (.tup vs)) := by
  obtain ⟨fh, bh, ff, nw, n, len, ⟨al, s1, s2, s3⟩, hob⟩ := w
  have sF : Same F (upd F p (.tup vs)) := fun b x e => by
    by_cases hb : b = p
    · subst hb
      have := fh _ _ e
      rw [hp] at this
      rw [upd_same]; exact this
    · rw [upd_ne hb]; exact e
  refine ⟨⟨fun b x e => ?_, bh, ff.trans sF, fun b x e => ?_, n, len, ⟨al, fun i s h => (s1 i s h).imp sF fun ho _ e => e, fun i s h ho => ?_, s3⟩, fun q fv e => ?_⟩, sF⟩
  · by_cases hb : b = p
    · subst hb; rw [upd_same] at e; rw [← e]; exact hp
    · rw [upd_ne hb] at e; exact fh _ _ e
  · by_cases hb : b = p
    · subst hb; rw [upd_same] at e; cases e; exact .inr (.inr ⟨_, rfl⟩)
    · rw [upd_ne hb] at e; exact nw _ _ e
  · obtain ⟨z, e, _, hz⟩ := (s1 i s h).there ho
    have hne : al i ≠ p := fun g => by
      rw [g, hp] at e
      exact hz vs (Option.some.inj e).symm
    rw [upd_ne hne]
    exact s2 i s h ho
  · have x := hob q fv e
    obtain ⟨dx, fs, e1⟩ := x.ins
    have hne : q ≠ p := fun g => by
      rw [g, hp] at e1
      cases e1
    exact x.keep (fun h => by rw [upd_ne hne]; exact h) (fun h => h) (fun ho h => h)
theorem Wf.growN {F' H' : Hp} (w : Wf P B F0 F H σ ob ρ) (g : Grow F H F' H') : Wf P B F0 F' H' σ ob ρ ∧ Same F F' := by
  induction g with
  | refl => exact ⟨w, Same.refl _⟩
  | @new F1 H1 p o g hp ih =>
    obtain ⟨w1, s1⟩ := ih
    exact ⟨w1.grow hp, s1.trans (same_new (w1.fh.free hp))⟩
  | @known F1 H1 p vs g hp ih =>
    obtain ⟨w1, s1⟩ := ih
    have w2 := w1.growT hp
    exact ⟨w2.1, s1.trans w2.2⟩
end
end Pv

set_option Elab.async false
set_option linter.all false
set_option maxRecDepth 100000
namespace Pv
open PySem PySem.Spec PyProof.Rows L2
def eVar (i : Nat) : Envi → R Hd := fun ρ => match ρ[i]? with
  | some (.fz d) => .ok (.dat d) ρ
  | some (.ow _) => .ok (.pl i) ρ
  | some .self => .ok .obj ρ
  | _ => .stuck
def eC (d : D) : Envi → R Hd := fun ρ => .ok (.dat d) ρ
def eMat (f : Envi → R Hd) : Envi → R Hd := fun ρ => (f ρ).frz.bind fun h ρ1 => match mat ρ1 h with
  | some (d, ρ2) => .ok (.dat d) ρ2
  | none => .stuck
def opt1 (ρ : Envi) : Option D → R Hd
  | some d => .ok (.dat d) ρ
  | none => .stuck
def on1 (op : D → Option D) (ρ : Envi) (h : Hd) : R Hd := match deref ρ h with
  | some a => opt1 ρ (op a)
  | none => .stuck
def on2 (op : D → D → Option D) (ρ : Envi) (h k : Hd) : R Hd := match deref ρ h, deref ρ k with
  | some a, some b => opt1 ρ (op a b)
  | _, _ => .stuck
def eBin (op : D → D → Option D) (f g : Envi → R Hd) : Envi → R Hd := fun ρ => (f ρ).frz.bind fun h ρ1 => (g ρ1).frz.bind fun k ρ2 => on2 op ρ2 h k
def eUn (op : D → Option D) (f : Envi → R Hd) : Envi → R Hd := fun ρ => (f ρ).frz.bind fun h ρ1 => on1 op ρ1 h
def aNil : Envi → R (List Hd) := fun ρ => .ok [] ρ
def aCons (f : Envi → R Hd) (g : Envi → R (List Hd)) : Envi → R (List Hd) := fun ρ => (f ρ).frz.bind fun h ρ1 => (g ρ1).bind fun hs ρ2 => .ok (h :: hs) ρ2
def eTup (g : Envi → R (List Hd)) : Envi → R Hd := fun ρ => (g ρ).bind fun hs ρ1 => match matAll ρ1 hs with
  | some (ds, ρ2) => .ok (.dat (.tup ds)) ρ2
  | none => .stuck
def eLst (g : Envi → R (List Hd)) : Envi → R Hd := fun ρ => (g ρ).bind fun hs ρ1 => match matAll ρ1 hs with
  | some (ds, ρ2) => .ok (.tm (.li ds)) ρ2
  | none => .stuck
/-- what a def gives -/
inductive Rf where
  | fz (d : D) | ow (o : Own) | exc (c : Exc) | stuck
def ofRf (ρ : Envi) : Rf → R Hd
  | .fz d => .ok (.dat d) ρ
  | .ow o => .ok (.tm o) ρ
  | .exc c => .exc c ρ
  | .stuck => .stuck
def eCall (fs : List D → Rf) (g : Envi → R (List Hd)) : Envi → R Hd := fun ρ => (g ρ).bind fun hs ρ1 => match matAll ρ1 hs with
  | some (ds, ρ2) => ofRf ρ2 (fs ds)
  | none => .stuck
/-- a built-in's call: its arguments are looked at only -/
def eCB (fs : List D → Rf) (g : Envi → R (List Hd)) : Envi → R Hd := fun ρ => (g ρ).bind fun hs ρ1 => match derefAll ρ1 hs with
  | some ds => ofRf ρ1 (fs ds)
  | none => .stuck
def ofBl (ρ : Envi) : Option D → R Bool
  | some (.bl b) => .ok b ρ
  | _ => .stuck
def tsE (f : Envi → R Hd) : Envi → R Bool := fun ρ => (f ρ).frz.bind fun h ρ1 => ofBl ρ1 (deref ρ1 h)
def tsAnd (f g : Envi → R Bool) : Envi → R Bool := fun ρ => (f ρ).bind fun b ρ1 => if b = true then g ρ1 else .ok false ρ1
def tsOr (f g : Envi → R Bool) : Envi → R Bool := fun ρ => (f ρ).bind fun b ρ1 => if b = true then .ok true ρ1 else g ρ1
def tsNot (f : Envi → R Bool) : Envi → R Bool := fun ρ => (f ρ).bind fun b ρ1 => .ok (!b) ρ1
/-- a test's answer as a value -/
def eOfT (f : Envi → R Bool) : Envi → R Hd := fun ρ => (f ρ).bind fun b ρ1 => .ok (.dat (.bl b)) ρ1
def eIf (c : Envi → R Bool) (f g : Envi → R Hd) : Envi → R Hd := fun ρ => (c ρ).bind fun b ρ1 => if b = true then f ρ1 else g ρ1

def OpS (K : PySem.W.Frag) (r : R2) (op : D → D → Option D) : Prop :=
  ∀ F H x y a b c Q, Same F H → BRep K F H x a → BRep K F H y b → op a b = some c → (∀ F' H' v, Grow F H F' H' → Rep K F' v c → Q v H') → r x y H Q
def UnS (K : PySem.W.Frag) (r : V → Hp → VK → Prop) (op : D → Option D) : Prop :=
  ∀ F H x a c Q, Same F H → BRep K F H x a → op a = some c → (∀ F' H' v, Grow F H F' H' → Rep K F' v c → Q v H') → r x H Q
/-- a built-in's answer -/
def PostB (K : PySem.W.Frag) (F H : Hp) (Q : VK) : Rf → Prop
  | .fz d => ∀ F' H' v, Grow F H F' H' → Rep K F' v d → Q v H'
  | .ow o => ∀ F' H' a ho, Grow F H F' H' → H' a = none → OwnR K F' ho o → Q (.ref a) (upd H' a ho)
  | .exc _ => False
  | .stuck => False
def CallS (K : PySem.W.Frag) (r : List V → Hp → VK → Prop) (fs : List D → Rf) : Prop :=
  ∀ F H xs ds Q, Same F H → BReps K F H xs ds → PostB K F H Q (fs ds) → r xs H Q
/-- a def's promise by a pure function -/
def PostF (K : PySem.W.Frag) (ec : Exc → Value) (F H : Hp) (Q : VK) (E : XK) : Rf → Prop
  | .fz d => ∀ F' H' v, Same F F' → Same F' H' → Same H H' → (∀ b o, F' b = some o → F b = some o ∨ H b = none ∨ ∃ vs, o = .tup vs) → Rep K F' v d → Q v H'
  | .ow o => ∀ F' H' a ho, Same F F' → Same F' H' → Same H H' → (∀ b o, F' b = some o → F b = some o ∨ H b = none ∨ ∃ vs, o = .tup vs) → H' a = some ho → F' a = none → H a = none → OwnR K F' ho o → Q (.ref a) H'
  | .exc c => ∀ H', Same H H' → E (ec c) none H'
  | .stuck => False
def spF (K : PySem.W.Frag) (ec : Exc → Value) (n : Nat) (fs : List D → Rf) : Sp := fun vs H Q E => vs.length = n ∧ ∃ F ds, Same F H ∧ Reps K F vs ds ∧ PostF K ec F H Q E (fs ds)

section
variable {P : Pr} {m : Bool} {W : WX} {te ta tb : TE} {f g : Envi → R Hd} {F H : Hp}
theorem snd_var {i : Nat} (hi : i < P.n) : SndE P m W (tVar i) (eVar i) := fun B F0 F H σ ob ρ Q w q => by
  unfold eVar at q
  cases e : ρ[i]? with
  | none => rw [e] at q; exact q.elim
  | some s =>
    rw [e] at q
    obtain ⟨al, s1, s2, s3⟩ := w.sl
    have x := s1 i s e
    have hi' : i < σ.length := by rw [w.n]; exact hi
    rw [tau_lt hi'] at x
    have e1 : ∀ u, (σ[i]?).join = some u → σ[i]? = some (some u) := fun u h => by
      rw [List.getElem?_eq_getElem hi'] at h ⊢
      rw [show σ[i] = some u from h]
    cases s with
    | un => exact q.elim
    | fz d =>
      obtain ⟨u, h1, h2⟩ := x
      exact ⟨u, e1 u h1, q B F H ob u w (Same.refl _) (fun _ => rfl) ⟨rfl, h2⟩⟩
    | ow o =>
      obtain ⟨h1, _⟩ := x
      exact ⟨_, e1 _ h1, q B F H ob _ w (Same.refl _) (fun _ => rfl) ⟨rfl, hi, e1 _ h1⟩⟩
    | self =>
      obtain ⟨p, fv, h1, h2⟩ := x
      exact ⟨_, e1 _ h2, q B F H ob _ w (Same.refl _) (fun _ => rfl) ⟨rfl, p, fv, h1, rfl⟩⟩
theorem snd_con {v : V} {d : D} (r : ∀ F, Rep P.K F v d) : SndE P m W (tC v) (eC d) := fun B F0 F H σ ob ρ Q w q => q B F H ob v w (Same.refl _) (fun _ => rfl) ⟨rfl, r F⟩
theorem snd_int {i : Int} : SndE P m W (tC (.int i)) (eC (.int i)) := snd_con fun _ => .int i
theorem snd_bl {b : Bool} : SndE P m W (tC (.bl b)) (eC (.bl b)) := snd_con fun _ => .bl b
theorem snd_str {x : Str} : SndE P m W (tC (.str x)) (eC (.str x)) := snd_con fun _ => .str x
theorem snd_non : SndE P m W (tC .non) (eC .non) := snd_con fun _ => .non
theorem snd_ty {n : String} : SndE P m W (tC (.ty n)) (eC (.ty n)) := snd_con fun _ => .ty n
theorem snd_adr {a : Addr} : SndE P m W (tC (.ref a)) (eC (.adr a)) := snd_con fun _ => .adr a
theorem snd_ktup {a : Addr} {vs : List V} {ds : List D} (h : KTup P.K (fun _ => none) a vs) (hl : vs.length ≤ sizeLine) (r : Reps P.K (fun _ => none) vs ds) : SndE P m W (tC (.ref a)) (eC (.ktup ds)) :=
  snd_con fun F => .ktup (h.mono (same_nil F)) hl (Reps.mono (same_nil F) r)
theorem snd_mat (h : SndE P m W te f) : SndE P m W te (eMat f) := fun B F0 F H σ ob ρ Q w q => by
  refine h.frz B F0 F H σ ob ρ Q w (Post.of_bind (k := fun h ρ1 => match mat ρ1 h with | some (d, ρ2) => R.ok (Hd.dat d) ρ2 | none => R.stuck) q ?_)
  rintro a ρ' B' F' H' ob' v w' s i ⟨rfl, r⟩ q
  cases e : mat ρ' a with
  | none => rw [e] at q; exact q.elim
  | some x =>
    obtain ⟨d, ρ2⟩ := x
    rw [e] at q
    obtain ⟨F2, w2, s2, r2⟩ := w'.mat r e
    exact q B' F2 H' ob' v w2 (s.trans s2) i ⟨rfl, r2⟩
theorem opt_post {B F0 : Hp} {σ : L2.St} {ob ob' : Ob} {F' H' : Hp} {ρ' : Envi} {Q : VK} {c : Option D} (w : Wf P B F0 F' H' σ ob' ρ') (s : Same F F') (i : m = false → ob' = ob)
    (q : Post P B F0 F σ ob m W (RelE P B σ) Q (opt1 ρ' c)) {r : VK → Prop} (hr : ∀ d, c = some d → (∀ F2 H2 v, Grow F' H' F2 H2 → Rep P.K F2 v d → Q v H2) → r Q) : r Q := by
  cases c with
  | none => exact q.elim
  | some d =>
    refine hr d rfl fun F2 H2 v g r2 => ?_
    obtain ⟨w2, s2⟩ := w.growN g
    exact q B F2 H2 ob' v w2 (s.trans s2) i ⟨rfl, r2⟩
theorem snd_bin0 {r : R2} {op : D → D → Option D} (ho : OpS P.K r op) (ha : SndE P m W ta f) (hb : SndE P m W tb g) (hm : m = false ∨ ∀ ρ h ρ', (f ρ).frz = .ok h ρ' → ∃ d, h = .dat d) : SndE P m W (tOp r ta tb) (eBin op f g) := fun B F0 F H σ ob ρ Q w q => by
  show ta σ H _
  have keep : ∀ h ρ', (f ρ).frz = .ok h ρ' → ∀ {F1 F2 : Hp} {ob1 ob2 : Ob} {x : V}, Same F1 F2 → (m = false → ob2 = ob1) → HR1 P F1 σ ob1 x h → HR1 P F2 σ ob2 x h := fun h ρ' e => by
    intro F1 F2 ob1 ob2 x s hob r
    rcases hm with z | z
    · exact r.mono s (hob z)
    · obtain ⟨d, rfl⟩ := z ρ h ρ' e
      exact Rep.mono s r
  refine ha.frz B F0 F H σ ob ρ _ w ?_
  dsimp only
  cases e : (f ρ).frz with
  | stuck =>
    unfold eBin at q
    rw [e] at q; exact q
  | exc c ρ' =>
    unfold eBin at q
    rw [e] at q; exact q
  | ok h ρ1 =>
    unfold eBin at q
    rw [e] at q
    have q : Post P B F0 F σ ob m W (RelE P B σ) Q ((g ρ1).frz.bind fun k ρ2 => on2 op ρ2 h k) := q
    rintro B' F1 H1 ob1 x w1 s1 i1 ⟨rfl, r1⟩
    refine hb.frz _ F0 F1 H1 σ ob1 ρ1 _ w1 (Post.of_bind (q.shift s1 i1) ?_)
    rintro k ρ2 B' F2 H2 ob2 y w2 s2 i2 ⟨rfl, r2⟩ q
    have r1' := keep h ρ1 e s2 i2 r1
    unfold on2 at q
    cases d1 : deref ρ2 h with
    | none => rw [d1] at q; exact q.elim
    | some a =>
      cases d2 : deref ρ2 k with
      | none => rw [d1, d2] at q; exact q.elim
      | some b =>
        rw [d1, d2] at q
        exact opt_post (r := fun Q => r x y H2 Q) w2 s2 i2 q fun c e hq => ho F2 H2 x y a b c Q w2.fh (w2.deref r1' d1) (w2.deref r2 d2) e hq
theorem snd_bin {r : R2} {op : D → D → Option D} (ho : OpS P.K r op) (ha : SndE P false W ta f) (hb : SndE P false W tb g) : SndE P m W (tOp r ta tb) (eBin op f g) := (snd_bin0 ho ha hb (.inl rfl)).up
theorem eMat_dat {ρ : Envi} {h : Hd} {ρ' : Envi} (e : (eMat f ρ).frz = .ok h ρ') : ∃ d, h = .dat d := by
  unfold eMat at e
  cases q : (f ρ).frz with
  | stuck => rw [q] at e; cases e
  | exc c ρ' => rw [q] at e; cases e
  | ok k ρ1 =>
    rw [q] at e
    have e : R.frz (match mat ρ1 k with | some (d, ρ2) => R.ok (.dat d) ρ2 | none => .stuck) = .ok h ρ' := e
    cases q2 : mat ρ1 k with
    | none => rw [q2] at e; cases e
    | some x =>
      obtain ⟨d, ρ2⟩ := x
      rw [q2] at e
      cases e
      exact ⟨d, rfl⟩
theorem snd_binM {r : R2} {op : D → D → Option D} (ho : OpS P.K r op) (ha : SndE P m W ta f) (hb : SndE P m W tb g) : SndE P m W (tOp r ta tb) (eBin op (eMat f) g) :=
  snd_bin0 ho (snd_mat ha) hb (.inr fun _ _ _ e => eMat_dat e)
theorem snd_un {r : V → Hp → VK → Prop} {op : D → Option D} (ho : UnS P.K r op) (ha : SndE P m W ta f) : SndE P m W (tUn r ta) (eUn op f) := fun B F0 F H σ ob ρ Q w q => by
  refine ha.frz B F0 F H σ ob ρ _ w (Post.of_bind q ?_)
  rintro k ρ2 B' F2 H2 ob2 y w2 s2 i2 ⟨rfl, r2⟩ q
  unfold on1 at q
  cases d1 : deref ρ2 k with
  | none => rw [d1] at q; exact q.elim
  | some a =>
    rw [d1] at q
    exact opt_post (r := fun Q => r y H2 Q) w2 s2 i2 q fun c e hq => ho F2 H2 y a c Q w2.fh (w2.deref r2 d1) e hq
variable {fa : Envi → R (List Hd)} {tr : TA} {n : Nat}
theorem snd_nil : SndA P m W 0 tNil aNil := fun B F0 F H σ ob ρ Q w q => q B F H ob [] w (Same.refl _) (fun _ => rfl) ⟨⟨rfl, True.intro⟩, rfl⟩
theorem SndA.up (h : SndA P false W n tr fa) : SndA P m W n tr fa := fun B F0 F H σ ob ρ Q w q => h B F0 F H σ ob ρ Q w q.up
theorem snd_cons0 (ha : SndE P m W ta f) (hr : SndA P m W n tr fa) (hm : m = false ∨ ∀ ρ h ρ', (f ρ).frz = .ok h ρ' → ∃ d, h = .dat d) : SndA P m W (n + 1) (tCons ta tr) (aCons f fa) := fun B F0 F H σ ob ρ Q w q => by
  show ta σ H _
  have keep : ∀ h ρ', (f ρ).frz = .ok h ρ' → ∀ {F1 F2 : Hp} {ob1 ob2 : Ob} {x : V}, Same F1 F2 → (m = false → ob2 = ob1) → HR1 P F1 σ ob1 x h → HR1 P F2 σ ob2 x h := fun h ρ' e => by
    intro F1 F2 ob1 ob2 x s hob r
    rcases hm with z | z
    · exact r.mono s (hob z)
    · obtain ⟨d, rfl⟩ := z ρ h ρ' e
      exact Rep.mono s r
  refine ha.frz B F0 F H σ ob ρ _ w ?_
  dsimp only
  cases e : (f ρ).frz with
  | stuck =>
    unfold aCons at q
    rw [e] at q; exact q
  | exc c ρ' =>
    unfold aCons at q
    rw [e] at q; exact q
  | ok h ρ1 =>
    unfold aCons at q
    rw [e] at q
    have q : Post P B F0 F σ ob m W (fun B' F' ob' vs hs => RelA P B σ B' F' ob' vs hs ∧ vs.length = n + 1) Q ((fa ρ1).bind fun hs ρ2 => .ok (h :: hs) ρ2) := q
    rintro B' F1 H1 ob1 x w1 s1 i1 ⟨rfl, r1⟩
    refine hr _ F0 F1 H1 σ ob1 ρ1 _ w1 (Post.of_bind (q.shift s1 i1) ?_)
    rintro hs ρ2 B' F2 H2 ob2 ys w2 s2 i2 ⟨⟨rfl, r2⟩, hl⟩ q
    exact q _ F2 H2 ob2 (x :: ys) w2 s2 i2 ⟨⟨rfl, keep h ρ1 e s2 i2 r1, r2⟩, congrArg (· + 1) hl⟩
theorem snd_cons (ha : SndE P false W ta f) (hr : SndA P false W n tr fa) : SndA P m W (n + 1) (tCons ta tr) (aCons f fa) := (snd_cons0 ha hr (.inl rfl)).up
theorem snd_consM (ha : SndE P m W ta f) (hr : SndA P m W n tr fa) : SndA P m W (n + 1) (tCons ta tr) (aCons (eMat f) fa) := snd_cons0 (snd_mat ha) hr (.inr fun _ _ _ e => eMat_dat e)
theorem small_line {n : Nat} (h : n ≤ 1000) : n ≤ sizeLine := Nat.le_of_lt (small1000 h)
theorem snd_tup (h : SndA P m W n tr fa) (hn : n ≤ 1000 := by decide) : SndE P m W (tTup tr) (eTup fa) := fun B F0 F H σ ob ρ Q w q => by
  refine h B F0 F H σ ob ρ _ w (Post.of_bind (k := fun hs ρ1 => match matAll ρ1 hs with | some (ds, ρ2) => R.ok (Hd.dat (.tup ds)) ρ2 | none => R.stuck) q ?_)
  rintro hs ρ2 B' F2 H2 ob2 ys w2 s2 i2 ⟨⟨rfl, r2⟩, hl⟩ q
  have hl' : ys.length ≤ sizeLine := by rw [hl]; exact small_line hn
  refine ⟨hl', fun p hp => ?_⟩
  cases e : matAll ρ2 hs with
  | none => rw [e] at q; exact q.elim
  | some x =>
    obtain ⟨ds, ρ3⟩ := x
    rw [e] at q
    obtain ⟨F3, w3, s3, r3⟩ := w2.matAll r2 e
    have w4 := w3.grow (o := .tup ys) hp
    have s4 : Same F3 (upd F3 p (.tup ys)) := same_new (w3.fh.free hp)
    exact q B' _ _ ob2 _ w4 ((s2.trans s3).trans s4) i2 ⟨rfl, .tup upd_same hl' (Reps.mono s4 r3)⟩
theorem snd_lst (h : SndA P m W n tr fa) (hn : n ≤ 1000 := by decide) : SndE P m W (tLst tr) (eLst fa) := fun B F0 F H σ ob ρ Q w q => by
  refine h B F0 F H σ ob ρ _ w (Post.of_bind (k := fun hs ρ1 => match matAll ρ1 hs with | some (ds, ρ2) => R.ok (Hd.tm (.li ds)) ρ2 | none => R.stuck) q ?_)
  rintro hs ρ2 B' F2 H2 ob2 ys w2 s2 i2 ⟨⟨rfl, r2⟩, hl⟩ q
  have hl' : ys.length ≤ sizeLine := by rw [hl]; exact small_line hn
  refine ⟨hl', fun p hp => ?_⟩
  cases e : matAll ρ2 hs with
  | none => rw [e] at q; exact q.elim
  | some x =>
    obtain ⟨ds, ρ3⟩ := x
    rw [e] at q
    obtain ⟨F3, w3, s3, r3⟩ := w2.matAll r2 e
    exact q (upd B' p (.lst ys)) F3 _ ob2 _ (w3.tmp hp) (s2.trans s3) i2 ⟨p, _, rfl, rfl, w3.bh.free hp, w3.fh.free hp, ys, rfl, hl', r3⟩
theorem Wf.call {B F0 : Hp} {σ : L2.St} {ob : Ob} {ρ : Envi} {F' H' : Hp} (w : Wf P B F0 F H σ ob ρ) (h1 : Same F F') (h2 : Same F' H') (h3 : Same H H') (h4 : ∀ b o, F' b = some o → F b = some o ∨ H b = none ∨ ∃ vs, o = .tup vs) : Wf P B F0 F' H' σ ob ρ := by
  obtain ⟨fh, bh, ff, nw, n, len, ⟨al, s1, s2, s3⟩, hob⟩ := w
  have out : ∀ {a : Addr} {u : HO}, H a = some u → (∀ vs, u ≠ .tup vs) → F a = none → F' a = none := fun {a u} ha hu hf => by
    cases e : F' a with
    | none => rfl
    | some o =>
      rcases h4 a o e with z | z | ⟨vs, rfl⟩
      · rw [hf] at z; cases z
      · rw [ha] at z; cases z
      · have q := h2 _ _ e
        rw [h3 _ _ ha] at q
        exact absurd (Option.some.inj q) (hu vs)
  refine ⟨h2, bh.trans h3, ff.trans h1, fun b o e => ?_, n, len, ⟨al, fun i s h => (s1 i s h).imp h1 fun ho _ e => h3 _ _ e, fun i s h hs => ?_, s3⟩, fun q fv e => ?_⟩
  · rcases h4 b o e with z | z
    · exact nw b o z
    · exact .inr (z.imp_left bh.free)
  · obtain ⟨z, e, _, hz⟩ := (s1 i s h).there hs
    exact ⟨out e hz (s2 i s h hs).1, (s2 i s h hs).2⟩
  · have x := hob q fv e
    obtain ⟨dx, fs, ei⟩ := x.ins
    exact x.keep (fun z => out ei (fun _ => nofun) z) (fun z => z) fun u hu => h3 _ _ hu
theorem Wf.callOw {B F0 : Hp} {σ : L2.St} {ob : Ob} {ρ : Envi} {F' H' : Hp} {a : Addr} {ho : HO} (w : Wf P B F0 F H σ ob ρ) (h1 : Same F F') (h2 : Same F' H') (h3 : Same H H') (h4 : ∀ b o, F' b = some o → F b = some o ∨ H b = none ∨ ∃ vs, o = .tup vs) (ha : H' a = some ho) (fa : F' a = none) (na : H a = none) :
    Wf P (upd B a ho) F0 F' H' σ ob ρ := by
  have w' := w.call h1 h2 h3 h4
  have ba : B a = none := w.bh.free na
  have f0 : F a = none := w.fh.free na
  obtain ⟨fh, bh, ff, nw, n, len, ⟨al, s1, s2, s3⟩, hob⟩ := w
  have out : ∀ {a : Addr} {u : HO}, H a = some u → (∀ vs, u ≠ .tup vs) → F a = none → F' a = none := fun {a u} ha hu hf => by
    cases e : F' a with
    | none => rfl
    | some o =>
      rcases h4 a o e with z | z | ⟨vs, rfl⟩
      · rw [hf] at z; cases z
      · rw [ha] at z; cases z
      · have q := h2 _ _ e
        rw [h3 _ _ ha] at q
        exact absurd (Option.some.inj q) (hu vs)
  refine ⟨h2, fun b o e => ?_, ff.trans h1, fun b o e => ?_, n, len, ⟨al, fun i s h => (s1 i s h).imp h1 fun ho _ e => h3 _ _ e, fun i s h hs => ?_, s3⟩, fun q fv e => ?_⟩
  · by_cases hb : b = a
    · subst hb; rw [upd_same] at e; rw [← e]; exact ha
    · rw [upd_ne hb] at e; exact h3 _ _ (bh _ _ e)
  · have hb : b ≠ a := ne_of_none e fa
    rw [upd_ne hb]
    rcases h4 b o e with z | z
    · exact nw b o z
    · exact .inr (z.imp_left bh.free)
  · obtain ⟨z, e, _, hz⟩ := (s1 i s h).there hs
    rw [upd_ne (ne_of_none e na)]
    exact ⟨out e hz (s2 i s h hs).1, (s2 i s h hs).2⟩
  · have x := hob q fv e
    obtain ⟨dx, fs, ei⟩ := x.ins
    exact x.keep (fun z => out ei (fun _ => nofun) z) (fun z => by rw [upd_ne (ne_of_none ei na)]; exact z) fun u hu => h3 _ _ hu
theorem snd_call {fs : List D → Rf} (h : SndA P m W n tr fa) : SndE P m W (tCallS (spF P.K P.ec n fs) (WE W) tr) (eCall fs fa) := fun B F0 F H σ ob ρ Q w q => by
  refine h B F0 F H σ ob ρ _ w (Post.of_bind (k := fun hs ρ1 => match matAll ρ1 hs with | some (ds, ρ2) => ofRf ρ2 (fs ds) | none => .stuck) q ?_)
  rintro hs ρ2 B' F2 H2 ob2 ys w2 s2 i2 ⟨⟨rfl, r2⟩, hl⟩ q
  refine ⟨hl, ?_⟩
  cases e : matAll ρ2 hs with
  | none => rw [e] at q; exact q.elim
  | some x =>
    obtain ⟨ds, ρ3⟩ := x
    rw [e] at q
    obtain ⟨F3, w3, s3, r3⟩ := w2.matAll r2 e
    refine ⟨F3, ds, w3.fh, r3, ?_⟩
    have q : Post P B' F0 F σ ob m W (RelE P B' σ) Q (ofRf ρ3 (fs ds)) := q
    cases e2 : fs ds with
    | stuck => rw [e2] at q; exact q
    | exc c =>
      rw [e2] at q
      intro H' s
      exact q F3 H' ob2 (w3.call (Same.refl _) (w3.fh.trans s) s fun b o z => .inl z) (s2.trans s3)
    | fz d =>
      rw [e2] at q
      intro F' H' v h1 h2 h3 h4 r
      exact q B' F' H' ob2 v (w3.call h1 h2 h3 h4) ((s2.trans s3).trans h1) i2 ⟨rfl, r⟩
    | ow o =>
      rw [e2] at q
      intro F' H' a ho h1 h2 h3 h4 ha fa na r
      exact q (upd B' a ho) F' H' ob2 _ (w3.callOw h1 h2 h3 h4 ha fa na) ((s2.trans s3).trans h1) i2 ⟨a, ho, rfl, rfl, w3.bh.free na, fa, r⟩
theorem ofRf_post {B F0 : Hp} {σ : L2.St} {ob ob' : Ob} {F' H' : Hp} {ρ' : Envi} {Q : VK} {c : Rf} (hx : ∀ e, c ≠ .exc e) (w : Wf P B F0 F' H' σ ob' ρ') (s : Same F F') (i : m = false → ob' = ob)
    (q : Post P B F0 F σ ob m W (RelE P B σ) Q (ofRf ρ' c)) : PostB P.K F' H' Q c := by
  cases c with
  | stuck => exact q
  | exc c => exact absurd rfl (hx c)
  | fz d =>
    intro F2 H2 v g r
    obtain ⟨w2, s2⟩ := w.growN g
    exact q B F2 H2 ob' v w2 (s.trans s2) i ⟨rfl, r⟩
  | ow o =>
    intro F2 H2 a ho g ha r
    obtain ⟨w2, s2⟩ := w.growN g
    exact q (upd B a ho) F2 (upd H2 a ho) ob' _ (w2.tmp ha) (s.trans s2) i ⟨a, ho, rfl, rfl, w2.bh.free ha, w2.fh.free ha, r⟩
theorem snd_cb {fs : List D → Rf} {r : List V → Hp → VK → Prop} (hc : CallS P.K r fs) (hx : ∀ ds e, fs ds ≠ .exc e) (h : SndA P m W n tr fa) : SndE P m W (tCB r tr) (eCB fs fa) := fun B F0 F H σ ob ρ Q w q => by
  refine h B F0 F H σ ob ρ _ w (Post.of_bind (k := fun hs ρ1 => match derefAll ρ1 hs with | some ds => ofRf ρ1 (fs ds) | none => .stuck) q ?_)
  rintro hs ρ2 B' F2 H2 ob2 ys w2 s2 i2 ⟨⟨rfl, r2⟩, hl⟩ q
  cases e : derefAll ρ2 hs with
  | none => rw [e] at q; exact q.elim
  | some ds =>
    rw [e] at q
    exact hc F2 H2 ys ds Q w2.fh (w2.derefAll r2 e) (ofRf_post (hx ds) w2 s2 i2 q)
variable {tt tu : TT} {ft fu : Envi → R Bool}
theorem BRep.bl {K : PySem.W.Frag} {v : V} {b : Bool} (h : BRep K F H v (.bl b)) : v = .bl b := by
  rcases h with h | ⟨a, ho, o, _, _, _, e⟩
  · cases h; rfl
  · cases o <;> cases e
theorem snd_ts (h : SndE P m W te f) : SndT P m W (tTest te) (tsE f) := fun B F0 F H σ ob ρ Q w q => by
  refine h.frz B F0 F H σ ob ρ _ w (Post.of_bind q ?_)
  rintro k ρ2 B' F2 H2 ob2 y w2 s2 i2 ⟨rfl, r2⟩ q
  cases e : deref ρ2 k with
  | none => rw [e] at q; exact q.elim
  | some d =>
    rw [e] at q
    have x := w2.deref r2 e
    cases d with
    | bl b => exact ⟨b, x.bl, q B' F2 H2 ob2 b w2 s2 i2 ⟨rfl, rfl⟩⟩
    | _ => exact q.elim
theorem snd_tand (h1 : SndT P m W tt ft) (h2 : SndT P m W tu fu) : SndT P m W (tAnd tt tu) (tsAnd ft fu) := fun B F0 F H σ ob ρ Q w q => by
  refine h1 B F0 F H σ ob ρ _ w (Post.of_bind q ?_)
  rintro k ρ2 B' F2 H2 ob2 y w2 s2 i2 ⟨rfl, rfl⟩ q
  cases y with
  | true => exact h2 _ F0 F2 H2 σ ob2 ρ2 Q w2 (q.shift s2 i2)
  | false => exact q _ F2 H2 ob2 false w2 s2 i2 ⟨rfl, rfl⟩
theorem snd_tor (h1 : SndT P m W tt ft) (h2 : SndT P m W tu fu) : SndT P m W (tOr tt tu) (tsOr ft fu) := fun B F0 F H σ ob ρ Q w q => by
  refine h1 B F0 F H σ ob ρ _ w (Post.of_bind q ?_)
  rintro k ρ2 B' F2 H2 ob2 y w2 s2 i2 ⟨rfl, rfl⟩ q
  cases y with
  | false => exact h2 _ F0 F2 H2 σ ob2 ρ2 Q w2 (q.shift s2 i2)
  | true => exact q _ F2 H2 ob2 true w2 s2 i2 ⟨rfl, rfl⟩
theorem snd_tnot (h1 : SndT P m W tt ft) : SndT P m W (tNot tt) (tsNot ft) := fun B F0 F H σ ob ρ Q w q => by
  refine h1 B F0 F H σ ob ρ _ w (Post.of_bind q ?_)
  rintro k ρ2 B' F2 H2 ob2 y w2 s2 i2 ⟨rfl, rfl⟩ q
  exact q _ F2 H2 ob2 (!y) w2 s2 i2 ⟨rfl, rfl⟩
/-- and, or, not as values of bools -/
theorem snd_andV (h1 : SndE P m W ta f) (h2 : SndE P m W tb g) : SndE P m W (tAndV ta tb) (eIf (tsE f) g (eC (.bl false))) := fun B F0 F H σ ob ρ Q w q => by
  show ta σ H _
  have z : tTest ta σ H (fun c H1 => if c = true then tb σ H1 Q else Q (.bl false) H1) := by
    refine snd_ts h1 B F0 F H σ ob ρ _ w (Post.of_bind q ?_)
    rintro k ρ2 B' F2 H2 ob2 y w2 s2 i2 ⟨rfl, rfl⟩ q
    cases y with
    | true => exact h2 _ F0 F2 H2 σ ob2 ρ2 Q w2 (q.shift s2 i2)
    | false => exact q _ F2 H2 ob2 _ w2 s2 i2 ⟨rfl, .bl false⟩
  exact z
theorem snd_notV (h1 : SndE P m W ta f) : SndE P m W (tNotV ta) (eOfT (tsNot (tsE f))) := fun B F0 F H σ ob ρ Q w q => by
  show ta σ H _
  have z : tTest ta σ H (fun c H1 => Q (.bl (!c)) H1) := by
    refine snd_ts h1 B F0 F H σ ob ρ _ w ?_
    unfold eOfT tsNot at q
    cases e : tsE f ρ with
    | stuck => rw [e] at q; exact q
    | exc c ρ' => rw [e] at q; exact q
    | ok b ρ' =>
      rw [e] at q
      rintro B' F2 H2 ob2 y w2 s2 i2 ⟨rfl, rfl⟩
      exact q _ F2 H2 ob2 (.bl (!y)) w2 s2 i2 ⟨rfl, .bl _⟩
  exact z
end
end Pv

set_option Elab.async false
set_option linter.all false
set_option maxRecDepth 100000
namespace Pv
open PySem PySem.Spec PyProof.Rows L2
inductive Rv where
  | fz (d : D) | ow (o : Own)
inductive Fl where
  | nx (ρ : Envi) | ret (v : Rv) (ρ : Envi) | bk (ρ : Envi) | ct (ρ : Envi) | exc (c : Exc) (ρ : Envi) | stuck
def R.toFl {α : Type} (r : R α) (k : α → Envi → Fl) : Fl :=
  match r with
  | .ok a ρ => k a ρ
  | .exc c ρ => .exc c ρ
  | .stuck => .stuck
abbrev Sem := Envi → Fl
def sNext : Sem := fun ρ => .nx ρ
def sSeq (g h : Sem) : Sem := fun ρ => match g ρ with
  | .nx ρ1 => h ρ1
  | r => r
def sIf (c : Envi → R Bool) (g h : Sem) : Sem := fun ρ => (c ρ).toFl fun b ρ1 => if b = true then g ρ1 else h ρ1
def retH (ρ : Envi) : Hd → Fl
  | .tm o => .ret (.ow o) ρ
  | h => match mat ρ h with
    | some (d, ρ2) => .ret (.fz d) ρ2
    | none => .stuck
def sRet (f : Envi → R Hd) : Sem := fun ρ => (f ρ).toFl fun h ρ1 => retH ρ1 h
def sRetN : Sem := fun ρ => .ret (.fz .non) ρ
def sDrop (f : Envi → R Hd) : Sem := fun ρ => (f ρ).frz.toFl fun _ ρ1 => .nx ρ1
def setH (i : Nat) (ρ : Envi) : Hd → Fl
  | .tm o => .nx (ρ.set i (.ow o))
  | .obj => .nx (ρ.set i .self)
  | h => match mat ρ h with
    | some (d, ρ2) => .nx (ρ2.set i (.fz d))
    | none => .stuck
def sSet (i : Nat) (f : Envi → R Hd) : Sem := fun ρ => (f ρ).toFl fun h ρ1 => setH i ρ1 h
def sRaise (c : Exc) : Sem := fun ρ => .exc c ρ
def sBreak : Sem := fun ρ => .bk ρ
def sCont : Sem := fun ρ => .ct ρ
abbrev Bnd := D → Envi → Option Envi
def bN (i : Nat) : Bnd := fun d ρ => some (ρ.set i (.fz d))
abbrev Bnds := List D → Envi → Option Envi
def bsNil : Bnds := fun ds ρ => match ds with
  | [] => some ρ
  | _ => none
def bsCons (b : Bnd) (bs : Bnds) : Bnds := fun ds ρ => match ds with
  | d :: r => match b d ρ with
    | some ρ1 => bs r ρ1
    | none => none
  | [] => none
def bT (n : Nat) (bs : Bnds) : Bnd := fun d ρ => match d with
  | .tup ds => if ds.length = n then bs ds ρ else none
  | .ktup ds => if ds.length = n then bs ds ρ else none
  | _ => none
def bL (n : Nat) (bs : Bnds) : Bnd := fun d ρ => match d with
  | .lst ds => if ds.length = n then bs ds ρ else none
  | _ => none
def bindFl (b : Bnd) (h : Hd) (ρ : Envi) (k : Envi → Fl) : Fl := match h with
  | .dat d => match b d ρ with
    | some ρ1 => k ρ1
    | none => .stuck
  | _ => .stuck
def sAsg (f : Envi → R Hd) (b : Bnd) : Sem := fun ρ => (eMat f ρ).toFl fun h ρ1 => bindFl b h ρ1 .nx
/-- a for over given items -/
def runFor (b : Bnd) (g : Sem) : List D → Envi → Fl
  | [], ρ => .nx ρ
  | d :: ds, ρ => match b d ρ with
    | none => .stuck
    | some ρ1 => match g ρ1 with
      | .nx ρ2 => runFor b g ds ρ2
      | .ct ρ2 => runFor b g ds ρ2
      | .bk ρ2 => .nx ρ2
      | r => r
def sFor (it : Envi → R (List D)) (b : Bnd) (g : Sem) : Sem := fun ρ => (it ρ).toFl fun ds ρ1 => runFor b g ds ρ1
/-- a while, by so many turns -/
def runW (c : Envi → R Bool) (g : Sem) : Nat → Envi → Fl
  | 0, _ => .stuck
  | n + 1, ρ => (c ρ).toFl fun b ρ1 => if b = true then (match g ρ1 with
      | .nx ρ2 => runW c g n ρ2
      | .ct ρ2 => runW c g n ρ2
      | .bk ρ2 => .nx ρ2
      | r => r) else .nx ρ1
open Classical in
noncomputable def sWhile (c : Envi → R Bool) (g : Sem) : Sem := fun ρ => if h : ∃ n, runW c g n ρ ≠ .stuck then runW c g h.choose ρ else .stuck

def RetR (P : Pr) (B B' F : Hp) (u : V) : Rv → Prop
  | .fz d => B' = B ∧ Rep P.K F u d
  | .ow o => ∃ a ho, u = .ref a ∧ B' = upd B a ho ∧ B a = none ∧ F a = none ∧ OwnR P.K F ho o
def PostS (P : Pr) (B F0 F : Hp) (W : WX) (D : Ends) : Fl → Prop
  | .nx ρ' => ∀ F' H' σ' ob', Wf P B F0 F' H' σ' ob' ρ' → Same F F' → D.nx σ' H'
  | .bk ρ' => ∀ F' H' σ' ob', Wf P B F0 F' H' σ' ob' ρ' → Same F F' → D.bk σ' H'
  | .ct ρ' => ∀ F' H' σ' ob', Wf P B F0 F' H' σ' ob' ρ' → Same F F' → D.ct σ' H'
  | .ret v ρ' => ∀ B' F' H' σ' ob' u, Wf P B' F0 F' H' σ' ob' ρ' → Same F F' → RetR P B B' F' u v → D.rt u H'
  | .exc c ρ' => ∀ F' H' σ' ob', Wf P B F0 F' H' σ' ob' ρ' → Same F F' → W (P.ec c) none σ' H'
  | .stuck => False
def SndS (P : Pr) (W : WX) (ts : TS) (g : Sem) : Prop :=
  ∀ B F0 F H σ ob ρ D, Wf P B F0 F H σ ob ρ → PostS P B F0 F W D (g ρ) → ts D σ H
def SndG (P : Pr) (us : List Nat) (tg : TG) (b : Bnd) : Prop :=
  ∀ B F0 F H σ ob ρ v d ρ' Q, Wf P B F0 F H σ ob ρ → Rep P.K F v d → b d ρ = some ρ' → (∀ σ', Wf P B F0 F H σ' ob ρ' → (∀ vs, (∀ u ∈ us, u ∈ vs) → wipe σ' vs = wipe σ vs) → Q σ' H) → tg v σ H Q
def SndGs (P : Pr) (us : List Nat) (tg : TGs) (b : Bnds) : Prop :=
  ∀ B F0 F H σ ob ρ vs ds ρ' Q, Wf P B F0 F H σ ob ρ → Reps P.K F vs ds → b ds ρ = some ρ' → (∀ σ', Wf P B F0 F H σ' ob ρ' → (∀ vs, (∀ u ∈ us, u ∈ vs) → wipe σ' vs = wipe σ vs) → Q σ' H) → tg vs σ H Q
/-- an iterator that will yield these -/
def ItOk (K : PySem.W.Frag) (J : It) (F : Hp) (ds : List D) : Prop :=
  ∀ F2 H2, Same F F2 → Same F2 H2 → (∀ i d, ds[i]? = some d → J.go i H2 ∧ ∀ x H3, J.yld i H2 x H3 → ∃ F3, Grow F2 H2 F3 H3 ∧ Rep K F3 x d) ∧ (∀ i, ds.length ≤ i → J.stop i H2)
def SndI (P : Pr) (m : Bool) (W : WX) (ti : TI) (f : Envi → R (List D)) : Prop :=
  ∀ B F0 F H σ ob ρ Q, Wf P B F0 F H σ ob ρ → Post P B F0 F σ ob m W (fun B' F' _ J ds => B' = B ∧ ItOk P.K J F' ds ∧ ds.length ≤ sizeLine) Q (f ρ) → ti σ H Q

section
variable {P : Pr} {m : Bool} {W : WX} {te ta tb : TE} {f : Envi → R Hd} {B F0 F H : Hp} {D : Ends} {ts tu : TS} {g h : Sem}
theorem PostS.shift {F1 : Hp} (e : Same F F1) : ∀ {r : Fl}, PostS P B F0 F W D r → PostS P B F0 F1 W D r
  | .nx _, h => fun F' H' σ' ob' w s => h F' H' σ' ob' w (e.trans s)
  | .bk _, h => fun F' H' σ' ob' w s => h F' H' σ' ob' w (e.trans s)
  | .ct _, h => fun F' H' σ' ob' w s => h F' H' σ' ob' w (e.trans s)
  | .ret _ _, h => fun B' F' H' σ' ob' u w s r => h B' F' H' σ' ob' u w (e.trans s) r
  | .exc _ _, h => fun F' H' σ' ob' w s => h F' H' σ' ob' w (e.trans s)
  | .stuck, h => h
theorem Post.of_toFl {α β : Type} {m' : Bool} {σ : L2.St} {ob : Ob} {Rel : Hp → Hp → Ob → β → α → Prop} {Q : β → Hp → Prop} {k : α → Envi → Fl} {r : R α} {H : Hp} {ρ : Envi} (h : PostS P B F0 F W D (r.toFl k))
    (step : ∀ a ρ' B' F' H' ob' v, Wf P B' F0 F' H' σ ob' ρ' → Same F F' → (m' = false → ob' = ob) → Rel B' F' ob' v a → PostS P B F0 F W D (k a ρ') → Q v H') : Post P B F0 F σ ob m' W Rel Q r := by
  cases r with
  | ok a ρ' => exact fun B' F' H' ob' v w s i r => step a ρ' B' F' H' ob' v w s i r h
  | exc c ρ' => exact fun F' H' ob' w s => h F' H' σ ob' w s
  | stuck => exact h
theorem snd_next : SndS P W tNext sNext := fun B F0 F H σ ob ρ D w q => q F H σ ob w (Same.refl _)
theorem snd_seq (h1 : SndS P W ts g) (h2 : SndS P W tu h) : SndS P W (tSeq ts tu) (sSeq g h) := fun B F0 F H σ ob ρ D w q => by
  refine h1 B F0 F H σ ob ρ _ w ?_
  unfold sSeq at q
  cases e : g ρ with
  | nx ρ' =>
    rw [e] at q
    intro F' H' σ' ob' w' s
    exact h2 B F0 F' H' σ' ob' ρ' D w' (q.shift s)
  | ret v ρ' => rw [e] at q; exact q
  | bk ρ' => rw [e] at q; exact q
  | ct ρ' => rw [e] at q; exact q
  | exc c ρ' => rw [e] at q; exact q
  | stuck => rw [e] at q; exact q
theorem snd_if {tt : TT} {c : Envi → R Bool} (hc : SndT P true W tt c) (h1 : SndS P W ts g) (h2 : SndS P W tu h) : SndS P W (tIfS tt ts tu) (sIf c g h) := fun B F0 F H σ ob ρ D w q => by
  refine hc B F0 F H σ ob ρ _ w (Post.of_toFl (H := H) (ρ := ρ) q ?_)
  rintro b ρ' B' F' H' ob' v w' s i ⟨rfl, rfl⟩ q
  cases v with
  | true => exact h1 _ F0 F' H' σ ob' ρ' D w' (q.shift s)
  | false => exact h2 _ F0 F' H' σ ob' ρ' D w' (q.shift s)
theorem mat_post {σ : L2.St} {ob : Ob} {ρ : Envi} {v : V} {a : Hd} {kk : Option (Pv.D × Envi) → Fl} (w : Wf P B F0 F H σ ob ρ) (r : HR1 P F σ ob v a) (q : PostS P B F0 F W D (kk (mat ρ a))) (hs : kk none = .stuck) :
    ∃ d ρ2 F2, mat ρ a = some (d, ρ2) ∧ Wf P B F0 F2 H σ ob ρ2 ∧ Same F F2 ∧ Rep P.K F2 v d ∧ PostS P B F0 F2 W D (kk (some (d, ρ2))) := by
  cases e : mat ρ a with
  | none => rw [e, hs] at q; exact q.elim
  | some x =>
    obtain ⟨d, ρ2⟩ := x
    rw [e] at q
    obtain ⟨F2, w2, s2, r2⟩ := w.mat r e
    exact ⟨d, ρ2, F2, rfl, w2, s2, r2, q.shift s2⟩
theorem snd_ret (h : SndE P m W te f) : SndS P W (tRet te) (sRet f) := fun B F0 F H σ ob ρ D w q => by
  refine h B F0 F H σ ob ρ _ w (Post.of_toFl (H := H) (ρ := ρ) q ?_)
  intro a ρ' B' F' H' ob' v w' s i r q
  cases a with
  | tm o => exact q B' F' H' σ ob' v w' s r
  | dat d =>
    obtain ⟨rfl, r⟩ := r
    exact q _ F' H' σ ob' v w' s ⟨rfl, r⟩
  | pl j =>
    obtain ⟨rfl, r⟩ := r
    obtain ⟨d, ρ2, F2, e, w2, s2, r2, q2⟩ := mat_post (kk := fun x => match x with | some (d, ρ2) => .ret (.fz d) ρ2 | none => .stuck) w' r (q.shift s) rfl
    exact q2 _ F2 H' σ ob' v w2 (Same.refl _) ⟨rfl, r2⟩
  | fl j =>
    obtain ⟨rfl, r⟩ := r
    obtain ⟨d, ρ2, F2, e, w2, s2, r2, q2⟩ := mat_post (kk := fun x => match x with | some (d, ρ2) => .ret (.fz d) ρ2 | none => .stuck) w' r (q.shift s) rfl
    exact q2 _ F2 H' σ ob' v w2 (Same.refl _) ⟨rfl, r2⟩
  | obj => exact q.elim
theorem snd_drop (h : SndE P m W te f) : SndS P W (tDrop te) (sDrop f) := fun B F0 F H σ ob ρ D w q => by
  refine h.frz B F0 F H σ ob ρ _ w (Post.of_toFl (H := H) (ρ := ρ) q ?_)
  rintro a ρ' B' F' H' ob' v w' s i ⟨rfl, r⟩ q
  exact q F' H' σ ob' w' s
theorem snd_set {i : Nat} (hi : i < P.n) (h : SndE P m W te f) : SndS P W (tAsg te (gName i)) (sSet i f) := fun B F0 F H σ ob ρ D w q => by
  refine h B F0 F H σ ob ρ _ w (Post.of_toFl (H := H) (ρ := ρ) q ?_)
  intro a ρ' B' F' H' ob' v w' s i' r q
  show D.nx (σ.set i (some v)) H'
  cases a with
  | tm o =>
    obtain ⟨a, ho, rfl, rfl, e3, e4, e5⟩ := r
    exact q F' H' _ ob' (w'.setOw hi e4 e3 e5) s
  | dat d =>
    obtain ⟨rfl, r⟩ := r
    exact q F' H' _ ob' (w'.set hi rfl fun _ => ⟨v, rfl, r⟩) s
  | pl j =>
    obtain ⟨rfl, r⟩ := r
    obtain ⟨d, ρ2, F2, e, w2, s2, r2, q2⟩ := mat_post (kk := fun x => match x with | some (d, ρ2) => .nx (ρ2.set i (.fz d)) | none => .stuck) w' r (q.shift s) rfl
    exact q2 F2 H' _ ob' (w2.set hi rfl fun _ => ⟨v, rfl, r2⟩) (Same.refl _)
  | fl j =>
    obtain ⟨rfl, r⟩ := r
    obtain ⟨d, ρ2, F2, e, w2, s2, r2, q2⟩ := mat_post (kk := fun x => match x with | some (d, ρ2) => .nx (ρ2.set i (.fz d)) | none => .stuck) w' r (q.shift s) rfl
    exact q2 F2 H' _ ob' (w2.set hi rfl fun _ => ⟨v, rfl, r2⟩) (Same.refl _)
  | obj =>
    obtain ⟨rfl, p, fv, e1, e2⟩ := r
    exact q F' H' _ ob' (w'.set hi rfl fun _ => ⟨p, fv, e1, by rw [e2]⟩) s
theorem wipe_set {σ : L2.St} {i : Nat} {v : Option V} : ∀ {vs : List Nat}, i ∈ vs → wipe (σ.set i v) vs = wipe σ vs
  | [], h => nomatch h
  | u :: vs, h => by
    unfold wipe
    by_cases hm : i ∈ vs
    · rw [wipe_set hm]
    · have e : i = u := by
        rcases List.mem_cons.mp h with e | e
        · exact e
        · exact absurd e hm
      subst e
      have key : ∀ (vs : List Nat), i ∉ vs → wipe (σ.set i v) vs = (wipe σ vs).set i v := by
        intro vs
        induction vs with
        | nil => intro _; rfl
        | cons u vs ih =>
          intro hn
          unfold wipe
          rw [ih (fun z => hn (List.mem_cons_of_mem _ z)), List.set_comm _ _ (fun z => hn (by rw [z]; exact List.mem_cons_self))]
      rw [key vs hm, List.set_set]
theorem sg_name {i : Nat} (hi : i < P.n) : SndG P [i] (gName i) (bN i) := fun B F0 F H σ ob ρ v d ρ' Q w r e q => by
  cases e
  exact q _ (w.set hi rfl fun _ => ⟨v, rfl, r⟩) fun vs h => wipe_set (h i List.mem_cons_self)
theorem sgs_nil : SndGs P [] gNil bsNil := fun B F0 F H σ ob ρ vs ds ρ' Q w r e q => by
  cases ds with
  | nil =>
    cases e
    cases r
    exact ⟨rfl, q _ w fun _ _ => rfl⟩
  | cons d r => cases e
theorem sgs_cons {us us' : List Nat} {tg : TG} {tgs : TGs} {b : Bnd} {bs : Bnds} (h1 : SndG P us tg b) (h2 : SndGs P us' tgs bs) : SndGs P (us ++ us') (gCons tg tgs) (bsCons b bs) := fun B F0 F H σ ob ρ vs ds ρ' Q w r e q => by
  cases ds with
  | nil => cases e
  | cons d dr =>
    cases r with
    | @cons v vs _ _ r1 r2 =>
      unfold bsCons at e
      dsimp only at e
      cases e1 : b d ρ with
      | none => rw [e1] at e; cases e
      | some ρ1 =>
        rw [e1] at e
        exact ⟨_, _, rfl, h1 B F0 F H σ ob ρ v d ρ1 _ w r1 e1 fun σ' w' e1 => h2 B F0 F H σ' ob ρ1 vs dr ρ' Q w' r2 e fun σ2 w2 e2 => q σ2 w2 fun vs hv =>
          (e2 vs fun u hu => hv u (List.mem_append_right _ hu)).trans (e1 vs fun u hu => hv u (List.mem_append_left _ hu))⟩
theorem sg_tup {us : List Nat} {n : Nat} {tgs : TGs} {bs : Bnds} (h : SndGs P us tgs bs) : SndG P us (gTup P.K n tgs) (bT n bs) := fun B F0 F H σ ob ρ v d ρ' Q w r e q => by
  cases r with
  | @tup a vs ds h1 h2 h3 =>
    have e : (if ds.length = n then bs ds ρ else none) = some ρ' := e
    split at e
    · rename_i hl
      exact ⟨a, vs, rfl, .inl (.inl (w.fh _ _ h1)), h3.length.trans hl, h B F0 F H σ ob ρ vs ds ρ' Q w h3 e q⟩
    · cases e
  | @ktup a vs ds h1 h2 h3 =>
    have e : (if ds.length = n then bs ds ρ else none) = some ρ' := e
    split at e
    · rename_i hl
      exact ⟨a, vs, rfl, same_sqt w.fh h1.sqt, h3.length.trans hl, h B F0 F H σ ob ρ vs ds ρ' Q w h3 e q⟩
    · cases e
  | _ => cases e
theorem snd_for {ti : TI} {it : Envi → R (List Pv.D)} {us : List Nat} {tg : TG} {b : Bnd} (hi : SndI P m W ti it) (hg : SndG P us tg b) (hb : SndS P W ts g) : SndS P W (tFor ti tg ts) (sFor it b g) := fun B F0 F H σ ob ρ D w q => by
  refine hi B F0 F H σ ob ρ _ w (Post.of_toFl (H := H) (ρ := ρ) q ?_)
  rintro ds ρ' B' F' H' ob' J w' s i' ⟨rfl, hJ, hsz⟩ q
  refine ⟨fun i mm σ2 H2 => ∃ F2 ob2 ρ2, mm = ds.length - i ∧ Wf P B' F0 F2 H2 σ2 ob2 ρ2 ∧ Same F' F2 ∧ PostS P B' F0 F2 W D (runFor b g (ds.drop i) ρ2),
    ⟨ds.length, F', ob', ρ', rfl, w', Same.refl _, q.shift s⟩, ?_⟩
  rintro i mm σ2 H2 ⟨F2, ob2, ρ2, rfl, w2, s2, q2⟩
  obtain ⟨j1, j2⟩ := hJ F2 H2 s2 w2.fh
  by_cases hlt : i < ds.length
  · refine .inr ⟨(j1 i ds[i] (List.getElem?_eq_getElem hlt)).1, fun σ3 H3 => ∃ F3 ob3 ρ3, Wf P B' F0 F3 H3 σ3 ob3 ρ3 ∧ Same F' F3 ∧ PostS P B' F0 F3 W D (runFor b g (ds.drop (i + 1)) ρ3), fun σ3 H3 ⟨F3, ob3, ρ3, w3, s3, q3⟩ => ⟨ds.length - (i + 1), by omega, F3, ob3, ρ3, rfl, w3, s3, q3⟩, fun x H3 y => ?_⟩
    obtain ⟨F3, gr, r3⟩ := (j1 i ds[i] (List.getElem?_eq_getElem hlt)).2 x H3 y
    obtain ⟨w3, s3⟩ := w2.growN gr
    rw [List.drop_eq_getElem_cons hlt] at q2
    unfold runFor at q2
    cases e : b ds[i] ρ2 with
    | none => rw [e] at q2; exact q2.elim
    | some ρ3 =>
      rw [e] at q2
      refine hg B' F0 F3 H3 σ2 ob2 ρ2 x _ ρ3 _ w3 r3 e fun σ3 w4 _ => ?_
      refine hb B' F0 F3 H3 σ3 ob2 ρ3 _ w4 ?_
      have q3 := q2.shift s3
      dsimp only at q3
      cases e2 : g ρ3 with
      | nx ρ4 => rw [e2] at q3; exact fun F5 H5 σ5 ob5 w5 s5 => ⟨F5, ob5, ρ4, w5, (s2.trans s3).trans s5, q3.shift s5⟩
      | ct ρ4 => rw [e2] at q3; exact fun F5 H5 σ5 ob5 w5 s5 => ⟨F5, ob5, ρ4, w5, (s2.trans s3).trans s5, q3.shift s5⟩
      | bk ρ4 => rw [e2] at q3; exact q3
      | ret v ρ4 => rw [e2] at q3; exact q3
      | exc c ρ4 => rw [e2] at q3; exact q3
      | stuck => rw [e2] at q3; exact q3
  · refine .inl ⟨j2 i (by omega), ?_⟩
    rw [List.drop_eq_nil_of_le (by omega)] at q2
    exact q2 F2 H2 σ2 ob2 w2 (Same.refl _)
theorem runW_mono {c : Envi → R Bool} {g : Sem} : ∀ {n k : Nat} {ρ : Envi} {r : Fl}, runW c g n ρ = r → r ≠ .stuck → n ≤ k → runW c g k ρ = r
  | 0, _, _, _, e, h, _ => absurd e.symm h
  | n + 1, 0, _, _, _, _, hk => absurd hk (by omega)
  | n + 1, k + 1, ρ, r, e, h, hk => by
    unfold runW at e ⊢
    cases ec : c ρ with
    | stuck => rw [ec] at e; exact absurd e.symm h
    | exc x ρ' => rw [ec] at e; exact e
    | ok b ρ1 =>
      rw [ec] at e
      simp only [R.toFl] at e ⊢
      cases b with
      | false => exact e
      | true =>
        simp only [if_true] at e ⊢
        cases eg : g ρ1 with
        | nx ρ2 => rw [eg] at e; exact runW_mono e h (by omega)
        | ct ρ2 => rw [eg] at e; exact runW_mono e h (by omega)
        | bk ρ2 => rw [eg] at e; exact e
        | ret v ρ2 => rw [eg] at e; exact e
        | exc x ρ2 => rw [eg] at e; exact e
        | stuck => rw [eg] at e; exact e
theorem sWhile_of {c : Envi → R Bool} {g : Sem} {n : Nat} {ρ : Envi} {r : Fl} (e : runW c g n ρ = r) (h : r ≠ .stuck) : sWhile c g ρ = r := by
  have ex : ∃ n, runW c g n ρ ≠ .stuck := ⟨n, by rw [e]; exact h⟩
  unfold sWhile
  rw [dif_pos ex]
  have h1 := ex.choose_spec
  rcases Nat.le_total n ex.choose with hk | hk
  · exact runW_mono e h hk
  · have := runW_mono (r := runW c g ex.choose ρ) rfl h1 hk
    rw [← this, e]
theorem sWhile_run {c : Envi → R Bool} {g : Sem} {ρ : Envi} (h : sWhile c g ρ ≠ .stuck) : ∃ n, runW c g n ρ = sWhile c g ρ := by
  unfold sWhile at h ⊢
  split
  · exact ⟨_, rfl⟩
  · rename_i hn
    rw [dif_neg hn] at h
    exact absurd rfl h
theorem snd_while {tt : TT} {c : Envi → R Bool} (hc : SndT P true W tt c) (hb : SndS P W ts g) : SndS P W (tWhile tt ts) (sWhile c g) := fun B F0 F H σ ob ρ D w q => by
  have hn : sWhile c g ρ ≠ .stuck := fun z => by rw [z] at q; exact q
  obtain ⟨n, e⟩ := sWhile_run hn
  rw [← e] at q
  refine ⟨fun k σ2 H2 => ∃ F2 ob2 ρ2, Wf P B F0 F2 H2 σ2 ob2 ρ2 ∧ Same F F2 ∧ PostS P B F0 F2 W D (runW c g k ρ2), ⟨n, F, ob, ρ, w, Same.refl _, q⟩, ?_⟩
  rintro k σ2 H2 ⟨F2, ob2, ρ2, w2, s2, q2⟩
  cases k with
  | zero => exact q2.elim
  | succ k =>
    unfold runW at q2
    refine hc B F0 F2 H2 σ2 ob2 ρ2 _ w2 (Post.of_toFl (H := H) (ρ := ρ) q2 ?_)
    rintro b ρ3 B' F3 H3 ob3 v w3 s3 i3 ⟨rfl, rfl⟩ q3
    cases v with
    | false => exact q3 F3 H3 σ2 ob3 w3 s3
    | true =>
      simp only [if_true] at q3 ⊢
      refine ⟨fun σ4 H4 => ∃ F4 ob4 ρ4, Wf P B' F0 F4 H4 σ4 ob4 ρ4 ∧ Same F F4 ∧ PostS P B' F0 F4 W D (runW c g k ρ4), fun σ4 H4 z => ⟨k, Nat.lt_succ_self k, z⟩, ?_⟩
      refine hb _ F0 F3 H3 σ2 ob3 ρ3 _ w3 ?_
      have q4 := q3.shift s3
      cases e2 : g ρ3 with
      | nx ρ4 => rw [e2] at q4; exact fun F5 H5 σ5 ob5 w5 s5 => ⟨F5, ob5, ρ4, w5, (s2.trans s3).trans s5, q4.shift s5⟩
      | ct ρ4 => rw [e2] at q4; exact fun F5 H5 σ5 ob5 w5 s5 => ⟨F5, ob5, ρ4, w5, (s2.trans s3).trans s5, q4.shift s5⟩
      | bk ρ4 => rw [e2] at q4; exact q4
      | ret v ρ4 => rw [e2] at q4; exact q4
      | exc c ρ4 => rw [e2] at q4; exact q4
      | stuck => rw [e2] at q4; exact q4
theorem snd_raise {c : Exc} : SndS P W (fun D σ H => (fun (H : Hp) (Q : XK) => Q (P.ec c) none H) H fun cls d H' => W cls d σ H') (sRaise c) := fun B F0 F H σ ob ρ D w q => q F H σ ob w (Same.refl _)
end
end Pv

set_option Elab.async false
set_option linter.all false
set_option maxRecDepth 100000
namespace Pv
open PySem PySem.Spec PyProof.Rows L2
def initE (n : Nat) (ds : List D) : Envi := ds.map Slot.fz ++ List.replicate (n - ds.length) .un
def toRf : Fl → Rf
  | .nx _ => .fz .non
  | .ret (.fz d) _ => .fz d
  | .ret (.ow o) _ => .ow o
  | .exc c _ => .exc c
  | _ => .stuck
theorem Wf.init {K : PySem.W.Frag} {ec : Exc → Value} {N : List Str} {F H : Hp} {vs : List V} {ds : List D} (hn : vs.length ≤ N.length) (s : Same F H) (r : Reps K F vs ds) :
    Wf ⟨K, ec, N.length, [], 0, 0⟩ H F F H (L2.start N vs) none (initE N.length ds) := by
  have hl := r.length
  have l1 : (L2.start N vs).length = N.length := by
    unfold L2.start
    rw [List.length_append, List.length_map, List.length_replicate]; omega
  refine ⟨s, Same.refl _, Same.refl _, fun b o e => .inl e, l1, ?_, ⟨fun _ => 0, fun i t h => ?_, fun i t h ht => ?_, fun i j t u h h' ht hu => ?_⟩, fun p fv e => nomatch e⟩
  · show (initE N.length ds).length = (L2.start N vs).length
    unfold initE
    rw [l1, List.length_append, List.length_map, List.length_replicate]; omega
  · unfold initE at h
    show SlotR K F H none 0 ((L2.start N vs)[i]?).join t
    by_cases hi : i < ds.length
    · rw [List.getElem?_append_left (by simpa using hi), List.getElem?_map] at h
      cases e : ds[i]? with
      | none => rw [e] at h; cases h
      | some d =>
        rw [e] at h
        cases h
        obtain ⟨v, h1, h2⟩ := r.get e
        refine ⟨v, ?_, h2⟩
        unfold L2.start
        rw [List.getElem?_append_left (by simp; omega), List.getElem?_map, h1]
        rfl
    · rw [List.getElem?_append_right (by simpa using Nat.le_of_not_lt hi), List.getElem?_replicate] at h
      split at h
      · cases h; exact True.intro
      · cases h
  all_goals
    unfold initE at h
    exfalso
    by_cases hi : i < ds.length
    · rw [List.getElem?_append_left (by simpa using hi), List.getElem?_map] at h
      cases e : ds[i]? with
      | none => rw [e] at h; cases h
      | some d => rw [e] at h; cases h; cases ht
    · rw [List.getElem?_append_right (by simpa using Nat.le_of_not_lt hi), List.getElem?_replicate] at h
      split at h
      · cases h; cases ht
      · cases h
/-- the reading of a def's body does what the promise wants -/
theorem fin_of {K : PySem.W.Frag} {ec : Exc → Value} {N : List Str} {n : Nat} {ts : TS} {g : Sem} {fs : List D → Rf} {vs : List V} {H : Hp} {Q : VK} {E : XK} (hs : SndS ⟨K, ec, N.length, [], 0, 0⟩ (fun cls d _ H => E cls d H) ts g) (hn : n ≤ N.length)
    (pure : ∀ ds, ds.length = n → fs ds ≠ .stuck → toRf (g (initE N.length ds)) = fs ds) (h : spF K ec n fs vs H Q E) : ts { nx := fun _ H' => Q .non H', rt := Q } (L2.start N vs) H := by
  obtain ⟨hl, F, ds, s, r, q⟩ := h
  have hd : fs ds ≠ .stuck := fun z => by rw [z] at q; exact q
  have e := pure ds (by rw [← r.length]; exact hl) hd
  refine hs H F F H _ none _ _ (Wf.init (by rw [hl]; exact hn) s r) ?_
  have out : ∀ {B' F' H' σ' ob' ρ'}, Wf (⟨K, ec, N.length, [], 0, 0⟩ : Pr) B' F F' H' σ' ob' ρ' → Same H B' → (∀ b o, F' b = some o → F b = some o ∨ H b = none ∨ ∃ vs, o = .tup vs) := fun {B' F' H' σ' ob' ρ'} w hb b o z => by
    rcases w.nw b o z with x | x
    · exact .inl x
    · exact .inr (x.imp_left hb.free)
  cases eg : g (initE N.length ds) with
  | nx ρ' =>
    rw [eg] at e
    rw [← e] at q
    exact fun F' H' σ' ob' w s' => q F' H' .non s' w.fh w.bh (out w (Same.refl _)) .non
  | ret v ρ' =>
    rw [eg] at e
    cases v with
    | fz d =>
      rw [← e] at q
      rintro B' F' H' σ' ob' u w s' ⟨rfl, r'⟩
      exact q F' H' u s' w.fh w.bh (out w (Same.refl _)) r'
    | ow o =>
      rw [← e] at q
      rintro B' F' H' σ' ob' u w s' ⟨a, ho, rfl, rfl, e3, e4, e5⟩
      exact q F' H' a ho s' w.fh ((same_new e3).trans w.bh) (out w (same_new e3)) w.getH e4 e3 e5
  | exc c ρ' =>
    rw [eg] at e
    rw [← e] at q
    exact fun F' H' σ' ob' w s' => q H' w.bh
  | bk ρ' => rw [eg] at e; exact absurd e.symm hd
  | ct ρ' => rw [eg] at e; exact absurd e.symm hd
  | stuck => rw [eg] at e; exact absurd e.symm hd

def itemsOf : D → Option (List D)
  | .tup ds => some ds
  | .ktup ds => some ds
  | .lst ds => some ds
  | .klst ds => some ds
  | _ => none
def lstOf : D → Option (List D)
  | .lst ds => some ds
  | .klst ds => some ds
  | _ => none
def tupOf : D → Option (List D)
  | .tup ds => some ds
  | .ktup ds => some ds
  | _ => none
def opt2 {α : Type} (ρ : Envi) : Option α → R α
  | some d => .ok d ρ
  | none => .stuck
def itBy (op : D → Option (List D)) (f : Envi → R Hd) : Envi → R (List D) := fun ρ => (eMat f ρ).bind fun h ρ1 => match h with
  | .dat d => opt2 ρ1 (op d)
  | _ => .stuck
def rangeD (lo : Int) (n : Nat) : List D := (List.range n).map fun (i : Nat) => D.int (lo + i)
def itRng1 (g : Envi → R (List Hd)) : Envi → R (List D) := fun ρ => (g ρ).bind fun hs ρ1 => match derefAll ρ1 hs with
  | some [.int j] => if -16777216 < j ∧ j < 16777216 then .ok (rangeD 0 j.toNat) ρ1 else .stuck
  | _ => .stuck
def itRng2 (g : Envi → R (List Hd)) : Envi → R (List D) := fun ρ => (g ρ).bind fun hs ρ1 => match derefAll ρ1 hs with
  | some [.int i, .int j] => if -16777216 < i ∧ i < 16777216 ∧ j < 16777216 ∧ -16777216 < j ∧ j - i ≤ 16777216 then .ok (rangeD i (j - i).toNat) ρ1 else .stuck
  | _ => .stuck
section
variable {P : Pr} {m : Bool} {W : WX} {te ta tb : TE} {f : Envi → R Hd} {B F0 F H : Hp} {tr : TA} {n : Nat} {fa : Envi → R (List Hd)}
theorem itOk_list {K : PySem.W.Frag} {a : Addr} {vs : List V} {ds : List D} (h : SqL K F a vs) (r : Reps K F vs ds) (inj : ∀ F2 H2, Same F F2 → Same F2 H2 → ∀ xs, SqL K H2 a xs → True) : ItOk K (Itl K a) F ds := fun F2 H2 s1 s2 => by
  have h2 := same_sql s2 (same_sql s1 h)
  refine ⟨fun i d e => ?_, fun i hi => ⟨vs, h2, by rw [r.length]; exact hi⟩⟩
  obtain ⟨v, e1, e2⟩ := r.get e
  refine ⟨⟨vs, v, h2, e1⟩, fun x H3 y => ?_⟩
  obtain ⟨rfl, y⟩ := y
  have := y vs h2
  rw [e1] at this
  cases this
  exact ⟨F2, .refl _ _, Rep.mono s1 e2⟩
theorem itOk_tup {K : PySem.W.Frag} {a : Addr} {vs : List V} {ds : List D} (h : SqT K F a vs) (r : Reps K F vs ds) : ItOk K (Itt K a) F ds := fun F2 H2 s1 s2 => by
  have h2 := same_sqt s2 (same_sqt s1 h)
  refine ⟨fun i d e => ?_, fun i hi => ⟨vs, h2, by rw [r.length]; exact hi⟩⟩
  obtain ⟨v, e1, e2⟩ := r.get e
  refine ⟨⟨vs, v, h2, e1⟩, fun x H3 y => ?_⟩
  obtain ⟨rfl, y⟩ := y
  have := y vs h2
  rw [e1] at this
  cases this
  exact ⟨F2, .refl _ _, Rep.mono s1 e2⟩
theorem rep_lstOf {K : PySem.W.Frag} {v : V} {d : D} {ds : List D} (r : Rep K F v d) (e : lstOf d = some ds) : ∃ a vs, v = .ref a ∧ SqL K F a vs ∧ vs.length ≤ sizeLine ∧ Reps K F vs ds := by
  cases r with
  | @lst a vs ds' h1 h2 h3 => cases e; exact ⟨a, vs, rfl, .inl (.inl h1), h2, h3⟩
  | @klst a vs ds' h1 h2 h3 => cases e; exact ⟨a, vs, rfl, h1, h2, h3⟩
  | _ => cases e
theorem rep_tupOf {K : PySem.W.Frag} {v : V} {d : D} {ds : List D} (r : Rep K F v d) (e : tupOf d = some ds) : ∃ a vs, v = .ref a ∧ SqT K F a vs ∧ vs.length ≤ sizeLine ∧ Reps K F vs ds := by
  cases r with
  | @tup a vs ds' h1 h2 h3 => cases e; exact ⟨a, vs, rfl, .inl (.inl h1), h2, h3⟩
  | @ktup a vs ds' h1 h2 h3 => cases e; exact ⟨a, vs, rfl, h1.sqt, h2, h3⟩
  | _ => cases e
theorem si_list (h : SndE P m W te f) : SndI P m W (iList P.K te) (itBy lstOf f) := fun B F0 F H σ ob ρ Q w q => by
  refine snd_mat h B F0 F H σ ob ρ _ w (Post.of_bind q ?_)
  intro a ρ' B' F' H' ob' v w' s i r q
  cases a with
  | dat d =>
    obtain ⟨rfl, r⟩ := r
    cases e : lstOf d with
    | none => simp only [e, opt2] at q; exact q.elim
    | some ds =>
      simp only [e, opt2] at q
      obtain ⟨a, vs, rfl, h1, h2, h3⟩ := rep_lstOf r e
      refine ⟨a, rfl, ⟨vs, same_sql w'.fh h1⟩, q _ F' H' ob' _ w' s i ⟨rfl, itOk_list h1 h3 (fun _ _ _ _ _ _ => trivial), by rw [← h3.length]; exact h2⟩⟩
  | _ => exact q.elim
theorem si_tup (h : SndE P m W te f) : SndI P m W (iTup P.K te) (itBy tupOf f) := fun B F0 F H σ ob ρ Q w q => by
  refine snd_mat h B F0 F H σ ob ρ _ w (Post.of_bind q ?_)
  intro a ρ' B' F' H' ob' v w' s i r q
  cases a with
  | dat d =>
    obtain ⟨rfl, r⟩ := r
    cases e : tupOf d with
    | none => simp only [e, opt2] at q; exact q.elim
    | some ds =>
      simp only [e, opt2] at q
      obtain ⟨a, vs, rfl, h1, h2, h3⟩ := rep_tupOf r e
      refine ⟨a, rfl, ⟨vs, same_sqt w'.fh h1⟩, q _ F' H' ob' _ w' s i ⟨rfl, itOk_tup h1 h3, by rw [← h3.length]; exact h2⟩⟩
  | _ => exact q.elim
theorem rangeD_get (lo : Int) (n i : Nat) : (rangeD lo n)[i]? = if i < n then some (.int (lo + i)) else none := by
  unfold rangeD
  rw [List.getElem?_map]
  by_cases h : i < n
  · rw [if_pos h, List.getElem?_range h]
    rfl
  · rw [if_neg h, List.getElem?_eq_none (by simpa using Nat.le_of_not_lt h)]
    rfl
theorem rangeD_length (lo : Int) (n : Nat) : (rangeD lo n).length = n := by unfold rangeD; simp
theorem itOk_rng {K : PySem.W.Frag} (lo : Int) (n : Nat) : ItOk K (Itr lo n) F (rangeD lo n) := fun F2 H2 s1 s2 => by
  refine ⟨fun i d e => ?_, fun i hi => by rw [rangeD_length] at hi; exact hi⟩
  rw [rangeD_get] at e
  split at e
  · rename_i h
    cases e
    refine ⟨h, fun x H3 y => ?_⟩
    obtain ⟨rfl, rfl⟩ := y
    exact ⟨F2, .refl _ _, .int _⟩
  · cases e
theorem BRep.int {K : PySem.W.Frag} {v : V} {b : Int} (h : BRep K F H v (.int b)) : v = .int b := by
  rcases h with h | ⟨a, ho, o, _, _, _, e⟩
  · cases h; rfl
  · cases o <;> cases e
theorem breps_one {K : PySem.W.Frag} {vs : List V} {d : D} (h : BReps K F H vs [d]) : ∃ v, vs = [v] ∧ BRep K F H v d := by
  cases h with
  | cons a b => cases b; exact ⟨_, rfl, a⟩
theorem breps_two {K : PySem.W.Frag} {vs : List V} {d e : D} (h : BReps K F H vs [d, e]) : ∃ v u, vs = [v, u] ∧ BRep K F H v d ∧ BRep K F H u e := by
  cases h with
  | cons a b =>
    cases b with
    | cons c z => cases z; exact ⟨_, _, rfl, a, c⟩
theorem si_rng1 (h : SndA P m W n tr fa) : SndI P m W (iRng1 tr) (itRng1 fa) := fun B F0 F H σ ob ρ Q w q => by
  refine h B F0 F H σ ob ρ _ w (Post.of_bind q ?_)
  rintro hs ρ2 B' F2 H2 ob2 ys w2 s2 i2 ⟨⟨rfl, r2⟩, hl⟩ q
  cases e : derefAll ρ2 hs with
  | none => simp only [e] at q; exact q.elim
  | some ds =>
    simp only [e] at q
    have br := w2.derefAll r2 e
    split at q
    · rename_i j e1
      cases e1
      split at q
      · rename_i hj
        obtain ⟨v, rfl, b1⟩ := breps_one br
        cases b1.int
        exact ⟨j, rfl, by omega, by omega, q _ F2 H2 ob2 _ w2 s2 i2 ⟨rfl, itOk_rng 0 _, by rw [rangeD_length, sizeLine_eq]; omega⟩⟩
      · exact q.elim
    · exact q.elim
end
end Pv

set_option Elab.async false
set_option linter.all false
set_option maxRecDepth 100000
namespace Pv
open PySem PySem.Spec PyProof.Rows L2
def wipeE (ρ : Envi) : List Nat → Envi
  | [] => ρ
  | v :: vs => (wipeE ρ vs).set v .un
def runComp (b : Bnd) (c : Envi → R Bool) (e : Envi → R Hd) (vs : List Nat) : List D → Envi → Option (List D × Envi)
  | [], ρ => some ([], ρ)
  | d :: ds, ρ => match b d ρ with
    | none => none
    | some ρ1 => match c ρ1 with
      | .ok true ρ2 => match eMat e ρ2 with
        | .ok (.dat d') ρ3 => match runComp b c e vs ds (wipeE ρ3 vs) with
          | some (r, ρ4) => some (d' :: r, ρ4)
          | none => none
        | _ => none
      | .ok false ρ2 => runComp b c e vs ds (wipeE ρ2 vs)
      | _ => none
def opt3 : Option (List D × Envi) → R Hd
  | some (r, ρ) => .ok (.tm (.li r)) ρ
  | none => .stuck
def eComp (it : Envi → R (List D)) (b : Bnd) (c : Envi → R Bool) (e : Envi → R Hd) (vs : List Nat) : Envi → R Hd := fun ρ => (it ρ).bind fun ds ρ1 => opt3 (runComp b c e vs ds (wipeE ρ1 vs))
def tTrue : Envi → R Bool := fun ρ => .ok true ρ
section
variable {P : Pr} {m : Bool} {W : WX} {te ta tb : TE} {f : Envi → R Hd} {B F0 F H : Hp} {σ : L2.St} {ob : Ob} {ρ : Envi}
theorem Wf.forget (w : Wf P B F0 F H σ ob ρ) (i : Nat) : Wf P B F0 F H σ ob (ρ.set i .un) := by
  obtain ⟨fh, bh, ff, nw, n, len, ⟨al, s1, s2, s3⟩, hob⟩ := w
  have back : ∀ (j : Nat) (t : Slot), (ρ.set i .un)[j]? = some t → t = .un ∨ ρ[j]? = some t := fun j t h => by
    by_cases hj : i = j
    · subst hj
      by_cases hl : i < ρ.length
      · rw [List.getElem?_set_self hl] at h; cases h; exact .inl rfl
      · rw [List.getElem?_eq_none (by simpa using Nat.le_of_not_lt hl)] at h; cases h
    · rw [List.getElem?_set_ne hj] at h; exact .inr h
  refine ⟨fh, bh, ff, nw, n, by rw [List.length_set]; exact len, ⟨al, fun j t h => ?_, fun j t h ht => ?_, fun j k t u h h' ht hu => ?_⟩, hob⟩
  · rcases back j t h with e | e
    · subst e; exact True.intro
    · exact s1 j t e
  · rcases back j t h with e | e
    · subst e; cases ht
    · exact s2 j t e ht
  · rcases back j t h with e | e
    · subst e; cases ht
    · rcases back k u h' with e' | e'
      · subst e'; cases hu
      · exact s3 j k t u e e' ht hu
theorem Wf.wipeE (w : Wf P B F0 F H σ ob ρ) : ∀ vs : List Nat, Wf P B F0 F H σ ob (wipeE ρ vs)
  | [] => w
  | v :: vs => (w.wipeE vs).forget v
/-- other values at slots of which nothing is known -/
theorem Wf.reslot {σ' : L2.St} (w : Wf P B F0 F H σ ob ρ) (hl : σ'.length = σ.length) (h : ∀ (i : Nat) (s : Slot), ρ[i]? = some s → s ≠ .un → σ'[i]? = σ[i]?) : Wf P B F0 F H σ' ob ρ := by
  obtain ⟨fh, bh, ff, nw, n, len, ⟨al, s1, s2, s3⟩, hob⟩ := w
  refine ⟨fh, bh, ff, nw, hl.trans n, ?_, ⟨al, fun j t e => ?_, s2, s3⟩, hob⟩
  · rw [len]
    cases ob with
    | none => exact hl.symm
    | some x =>
      obtain ⟨p, fv⟩ := x
      show (σ ++ fv).length = (σ' ++ fv).length
      rw [List.length_append, List.length_append, hl]
  · have x := s1 j t e
    by_cases ht : t = .un
    · subst ht; exact True.intro
    · have e2 := h j _ e ht
      have q : (tau σ' ob)[j]? = (tau σ ob)[j]? := by
        cases ob with
        | none => exact e2
        | some pf =>
          obtain ⟨p, fv⟩ := pf
          show (σ' ++ fv)[j]? = (σ ++ fv)[j]?
          by_cases hj : j < σ.length
          · rw [List.getElem?_append_left hj, List.getElem?_append_left (by omega)]; exact e2
          · rw [List.getElem?_append_right (by omega), List.getElem?_append_right (by omega), hl]
      rw [q]; exact x
theorem wipeE_un : ∀ {vs : List Nat} {i : Nat} {s : Slot}, (Pv.wipeE ρ vs)[i]? = some s → s ≠ .un → i ∉ vs
  | [], _, _, _, _ => by simp
  | v :: vs, i, s, h, hs => by
    unfold Pv.wipeE at h
    by_cases hv : v = i
    · subst hv
      by_cases hl : v < (Pv.wipeE ρ vs).length
      · rw [List.getElem?_set_self hl] at h; cases h; exact absurd rfl hs
      · rw [List.getElem?_eq_none (by simpa using Nat.le_of_not_lt hl)] at h; cases h
    · rw [List.getElem?_set_ne hv] at h
      have := wipeE_un h hs
      simp only [List.mem_cons, not_or]
      exact ⟨fun e => hv e.symm, this⟩
theorem wipe_outS : ∀ {σ : L2.St} {vs : List Nat} {i : Nat}, i ∉ vs → (wipe σ vs)[i]? = σ[i]? := fun {σ vs i} h => by
  induction vs with
  | nil => rfl
  | cons v vs ih =>
    unfold wipe
    rw [List.getElem?_set_ne (fun e => h (by rw [e]; exact List.mem_cons_self))]
    exact ih fun z => h (List.mem_cons_of_mem _ z)
theorem wipe_in {σ : L2.St} : ∀ {vs : List Nat} {i : Nat}, i ∈ vs → i < σ.length → (wipe σ vs)[i]? = some none := fun {vs i} h hl => by
  induction vs with
  | nil => exact nomatch h
  | cons v vs ih =>
    unfold wipe
    by_cases hv : v = i
    · subst hv
      rw [List.getElem?_set_self (by rw [wipe_length]; exact hl)]
    · rw [List.getElem?_set_ne hv]
      rcases List.mem_cons.mp h with z | z
      · exact absurd z.symm hv
      · exact ih z
theorem wipe_idem (σ : L2.St) (vs : List Nat) : wipe (wipe σ vs) vs = wipe σ vs := by
  refine List.ext_getElem? fun i => ?_
  by_cases h : i ∈ vs
  · by_cases hl : i < σ.length
    · rw [wipe_in h (by rw [wipe_length]; exact hl), wipe_in h hl]
    · rw [List.getElem?_eq_none (by rw [wipe_length, wipe_length]; omega), List.getElem?_eq_none (by rw [wipe_length]; omega)]
  · exact wipe_outS h
abbrev W0 : WX := fun _ _ _ _ => False
theorem snd_pts0 : SndT P m W tYes tTrue := fun B F0 F H σ ob ρ Q w q => q B F H ob true w (Same.refl _) (fun _ => rfl) ⟨rfl, rfl⟩
theorem snd_comp {us vs : List Nat} {ti : TI} {it : Envi → R (List Pv.D)} {tg : TG} {b : Bnd} {tt : TT} {c : Envi → R Bool} {e : Envi → R Hd} (hi : SndI P m W ti it) (hg : SndG P us tg b) (hc : SndT P m W0 tt c) (he : SndE P m W0 te e) (hu : ∀ u ∈ us, u ∈ vs := by decide) :
    SndE P m W (tLc ti tg tt te vs) (eComp it b c e vs) := fun B F0 F H σ ob ρ Q w q => by
  refine hi B F0 F H σ ob ρ _ w (Post.of_bind q ?_)
  rintro ds ρ' B' F' H' ob' J w' s i' ⟨rfl, hJ, hsz⟩ q D hD
  have fD : F' D = none := w'.fh.free hD
  have bD : B' D = none := w'.bh.free hD
  have f0D : F0 D = none := w'.ff.free fD
  refine ⟨fun i mm H2 => ∃ F2 ob2 ρ2 av acc, mm = ds.length - i ∧ i ≤ ds.length ∧ Wf P (upd B' D (.lst av)) F0 F2 H2 σ ob2 (Pv.wipeE ρ2 vs) ∧ Same F' F2 ∧ F2 D = none ∧ (m = false → ob2 = ob') ∧ Reps P.K F2 av acc ∧ acc.length ≤ i ∧
      Post P B' F0 F σ ob m W (RelE P B' σ) Q (opt3 ((runComp b c e vs (ds.drop i) (Pv.wipeE ρ2 vs)).map fun x => (acc ++ x.1, x.2))),
    ⟨ds.length, F', ob', ρ', [], [], rfl, Nat.zero_le _, (w'.wipeE vs).tmp hD, Same.refl _, fD, fun _ => rfl, .nil, Nat.le_refl _, ?_⟩, ?_⟩
  · have q : Post P B' F0 F σ ob m W (RelE P B' σ) Q (opt3 (runComp b c e vs ds (Pv.wipeE ρ' vs))) := q
    rw [List.drop_zero]
    cases e1 : runComp b c e vs ds (Pv.wipeE ρ' vs) with
    | none => rw [e1] at q; exact q
    | some x => rw [e1] at q; exact q
  rintro i mm H2 ⟨F2, ob2, ρ2, av, acc, rfl, hle, w2, s2, f2D, i2, r2, hacc, q2⟩
  obtain ⟨j1, j2⟩ := hJ F2 H2 s2 w2.fh
  by_cases hlt : i < ds.length
  · refine .inr ⟨(j1 i ds[i] (List.getElem?_eq_getElem hlt)).1, fun H3 => ∃ F3 ob3 ρ3 av acc, Wf P (upd B' D (.lst av)) F0 F3 H3 σ ob3 (Pv.wipeE ρ3 vs) ∧ Same F' F3 ∧ F3 D = none ∧ (m = false → ob3 = ob') ∧ Reps P.K F3 av acc ∧ acc.length ≤ i + 1 ∧
      Post P B' F0 F σ ob m W (RelE P B' σ) Q (opt3 ((runComp b c e vs (ds.drop (i + 1)) (Pv.wipeE ρ3 vs)).map fun x => (acc ++ x.1, x.2))),
      fun H3 ⟨F3, ob3, ρ3, av, acc, w3, s3, f3, i3, r3, h3, q3⟩ => ⟨ds.length - (i + 1), by omega, F3, ob3, ρ3, av, acc, rfl, hlt, w3, s3, f3, i3, r3, h3, q3⟩, fun x H3 y => ?_⟩
    obtain ⟨F3, gr, r3⟩ := (j1 i ds[i] (List.getElem?_eq_getElem hlt)).2 x H3 y
    obtain ⟨w3, s3⟩ := w2.growN gr
    rw [List.drop_eq_getElem_cons hlt] at q2
    unfold runComp at q2
    have w3' : Wf P (upd B' D (.lst av)) F0 F3 H3 (wipe σ vs) ob2 (Pv.wipeE ρ2 vs) := w3.reslot (wipe_length σ vs) fun i s h hs => wipe_outS (wipeE_un h hs)
    cases e1 : b ds[i] (Pv.wipeE ρ2 vs) with
    | none => rw [e1] at q2; exact q2.elim
    | some ρ3 =>
      rw [e1] at q2
      dsimp only at q2
      refine hg _ F0 F3 H3 (wipe σ vs) ob2 _ x _ ρ3 _ w3' r3 e1 fun σ3 w4 hw4 => ⟨(hw4 vs hu).trans ?_, ?_⟩
      · exact wipe_idem σ vs
      -- behind a turn: back at σ
      have back : ∀ {Bx Fx Hx : Hp} {obx : Ob} {ρx : Envi}, Wf P Bx F0 Fx Hx σ3 obx ρx → Wf P Bx F0 Fx Hx σ obx (Pv.wipeE ρx vs) := fun {Bx Fx Hx obx ρx} wx => by
        refine (wx.wipeE vs).reslot ?_ fun i s h hs => ?_
        · have := w4.n
          rw [this, w.n]
        · have hn := wipeE_un h hs
          have := congrArg (fun l => l[i]?) (hw4 vs hu)
          rw [wipe_outS hn] at this
          rw [this]
          have h2 : (wipe (wipe σ vs) vs)[i]? = (wipe σ vs)[i]? := wipe_outS hn
          rw [h2, wipe_outS hn]
      refine hc _ F0 F3 H3 σ3 ob2 ρ3 _ w4 ?_
      cases e2 : c ρ3 with
      | stuck => rw [e2] at q2; exact q2.elim
      | exc x ρ4 => rw [e2] at q2; exact q2.elim
      | ok bb ρ4 =>
        rw [e2] at q2
        rintro _ F4 H4 ob4 v w5 s4 i4 ⟨rfl, rfl⟩
        have f4D : F4 D = none := by
          cases z : F4 D with
          | none => rfl
          | some o =>
            rcases w5.nw D o z with h | h | ⟨us, rfl⟩
            · rw [f0D] at h; cases h
            · rw [upd_same] at h; cases h
            · have h := w5.fh _ _ z
              rw [w5.getH] at h; cases h
        cases v with
        | false =>
          dsimp only at q2
          rw [if_neg Bool.false_ne_true]
          exact ⟨F4, ob4, ρ4, av, acc, back w5, (s2.trans s3).trans s4, f4D, fun z => (i4 z).trans (i2 z), r2.mono (s3.trans s4), by omega, q2⟩
        | true =>
          dsimp only at q2
          rw [if_pos rfl]
          refine snd_mat he _ F0 F4 H4 σ3 ob4 ρ4 _ w5 ?_
          cases e3 : eMat e ρ4 with
          | stuck => rw [e3] at q2; exact q2.elim
          | exc x ρ5 => rw [e3] at q2; exact q2.elim
          | ok hd ρ5 =>
            rw [e3] at q2
            cases hd with
            | dat d' =>
              rintro _ F5 H5 ob5 y w6 s5 i5 ⟨rfl, r5⟩
              have f5D : F5 D = none := by
                cases z : F5 D with
                | none => rfl
                | some o =>
                  rcases w6.nw D o z with h | h | ⟨us, rfl⟩
                  · rw [f0D] at h; cases h
                  · rw [upd_same] at h; cases h
                  · have h := w6.fh _ _ z
                    rw [w6.getH] at h; cases h
              have hl : av.length = acc.length := r2.length
              refine ⟨av, w6.getH, by omega, F5, ob5, ρ5, av ++ [y], acc ++ [d'], back (w6.tmpUpd f5D), ((s2.trans s3).trans s4).trans s5, f5D, fun z => ((i5 z).trans (i4 z)).trans (i2 z), (r2.mono ((s3.trans s4).trans s5)).append (.cons r5 .nil), by rw [List.length_append]; show acc.length + 1 ≤ i + 1; omega, ?_⟩
              dsimp only at q2
              cases e4 : runComp b c e vs (ds.drop (i + 1)) (Pv.wipeE ρ5 vs) with
              | none => rw [e4] at q2; exact q2
              | some x =>
                rw [e4] at q2
                have q2 : Post P B' F0 F σ ob m W (RelE P B' σ) Q (opt3 (some (acc ++ (d' :: x.1), x.2))) := q2
                rw [show acc ++ (d' :: x.1) = (acc ++ [d']) ++ x.1 by simp] at q2
                exact q2
            | _ => exact q2.elim
  · refine .inl ⟨j2 i (by omega), ?_⟩
    rw [List.drop_eq_nil_of_le (by omega)] at q2
    have q2 : Post P B' F0 F σ ob m W (RelE P B' σ) Q (.ok (.tm (.li (acc ++ []))) (Pv.wipeE ρ2 vs)) := q2
    rw [List.append_nil] at q2
    exact q2 (upd B' D (.lst av)) F2 H2 ob2 _ w2 (s.trans s2) (fun z => (i2 z).trans (i' z)) ⟨D, _, rfl, rfl, bD, f2D, av, rfl, by rw [r2.length]; omega, r2⟩
end
end Pv

set_option Elab.async false
set_option linter.all false
set_option maxRecDepth 100000
namespace Pv
open PySem PySem.Spec PyProof.Rows L2
theorem frz_ok {P : Program} {w : World} {H : Hp} {h : Heap} {a : Addr} {xs : List V} {its : List Value} (hz : xs.length ≤ sizeLine) (r : Vals xs its) (e : h.get? a = some { cls := .type "tuple", data := .seq its.toArray }) :
    ObjOk P w H h a (.frz { cls := .type "tuple", data := .seq its.toArray } (.tup xs)) := ⟨e, hz, its, r, ⟨_, e, rfl, _, rfl⟩⟩
def tTupF (t : TA) : TE := fun σ H Q => t σ H fun xs H1 => xs.length ≤ sizeLine ∧ ∀ p o, H1 p = none → o.dict = none → Q (.ref p) (upd H1 p (.frz o (.tup xs)))
section
variable {X : Cx}
theorem pe_tupF {es : List Expr} {t : TA} {pos : Pos} {x1} (h : PA X es t) : PE X (.Tuple es x1 pos) (tTupF t) := by
  refine ⟨fun pins s σ H Q I hq => ?_⟩
  refine wpAny_Tuple_spliced (thn (h.run pos pins s σ H _ I hq) fun us s1 ⟨xs, H1, I1, r, z, q⟩ => ⟨by rw [← r.length]; exact z, ?_⟩)
  have hf : H1 s1.heap.objs.size = none := I1.hok.fresh (Nat.le_refl _)
  refine ⟨.ref s1.heap.objs.size, _, I1.laid (t' := s1.toks) (o := .frz { cls := .type "tuple", data := .seq us.toArray } (.tup xs)) (fun b u e => Heap.get?_push_of_some _ e) (Nat.le_refl _) ?_, rfl, q _ _ hf rfl⟩
  exact frz_ok z r (Heap.get?_push_size _ rfl)
def rCatF (K : PySem.W.Frag) : R2 := fun x y H Q => ∃ a b xs ys, x = .ref a ∧ y = .ref b ∧ SqT K H a xs ∧ SqT K H b ys ∧ xs.length + ys.length ≤ sizeLine ∧
  (xs = [] → Q (.ref b) H) ∧ (xs ≠ [] → ys = [] → Q (.ref a) H) ∧ (xs ≠ [] → ys ≠ [] → ∀ p o, H p = none → o.dict = none → Q (.ref p) (upd H p (.frz o (.tup (xs ++ ys)))))
theorem op_catF : OpR X (binaryOp .Add) (rCatF X.K) := by
  intro pins s σ H x y v u Q I rx ry h
  obtain ⟨a, b, xs, ys, rfl, rfl, ha, hb, hz, q0, q1, q2⟩ := h
  cases rx
  cases ry
  obtain ⟨its, r1, p1, _⟩ := I.tuple ha
  obtain ⟨its2, r2, p2, _⟩ := I.tuple hb
  by_cases hx : xs = []
  · subst hx
    cases r1
    exact cat_tup0 p1 p2 ⟨.ref b, H, I, rfl, q0 rfl⟩
  · refine HT.cat_tup p1 p2 (fun z => hx (r1.nil_iff.mp z)) (fun z => ⟨.ref a, H, I, rfl, q1 hx (r2.nil_iff.mp z)⟩) (fun z => ?_) (by rw [← r1.length, ← r2.length]; exact hz)
    refine ⟨.ref s.heap.objs.size, _, I.laid (t' := s.toks) (o := .frz { cls := .type "tuple", data := .seq (its ++ its2).toArray } (.tup (xs ++ ys))) (fun b ob q => Heap.get?_push_of_some _ q) (Nat.le_refl _) ?_, rfl, q2 hx (fun w => z (r2.nil_iff.mpr w)) _ _ (I.hok.fresh (Nat.le_refl _)) rfl⟩
    exact frz_ok (by rw [List.length_append]; exact hz) (r1.append r2) (Heap.get?_push_size _ rfl)
def rSlF (K : PySem.W.Frag) : V → Option Int → Option Int → Hp → VK → Prop := fun x lo hi H Q => ∃ a xs, x = .ref a ∧ SqT K H a xs ∧
  (HT.sIx xs.length 0 lo = 0 ∧ HT.sIx xs.length xs.length hi = xs.length → Q (.ref a) H) ∧ (¬ (HT.sIx xs.length 0 lo = 0 ∧ HT.sIx xs.length xs.length hi = xs.length) → ∀ p o, H p = none → o.dict = none → Q (.ref p) (upd H p (.frz o (.tup (cutV xs lo hi)))))
theorem sl_tupF : SlR X (rSlF X.K) := by
  intro pins s σ H x v vl vu lo hi sl Q I rx hs pl pu h
  obtain ⟨a, xs, rfl, hx, q1, q2⟩ := h
  cases rx
  obtain ⟨its, r, ht, hz⟩ := I.tuple hx
  have hlen : its.toArray.size = xs.length := by rw [List.size_toArray]; exact r.length.symm
  by_cases hw : HT.sIx xs.length 0 lo = 0 ∧ HT.sIx xs.length xs.length hi = xs.length
  · refine ⟨"tuple", _, PyProof.Rows.slot_tuple_getitem.lookup, ht.typeIs, ?_⟩
    exact getItem_tuple_whole ht hs pl pu (by rw [hlen]; exact hw) ⟨.ref a, H, I, rfl, q1 hw⟩
  · refine ⟨"tuple", _, PyProof.Rows.slot_tuple_getitem.lookup, ht.typeIs, ?_⟩
    refine HT.getItem_tuple_cut ht hs pl pu (by rw [hlen]; exact hw) ?_ (by rw [hlen]; exact hz)
    rw [hlen]
    refine ⟨.ref s.heap.objs.size, _, I.laid (t' := s.toks) (o := .frz { cls := .type "tuple", data := .seq (((its.drop (HT.sIx xs.length 0 lo)).take (HT.sIx xs.length xs.length hi - HT.sIx xs.length 0 lo)).toArray) } (.tup (cutV xs lo hi))) (fun b ob q => Heap.get?_push_of_some _ q) (Nat.le_refl _) ?_, rfl, q2 hw _ _ (I.hok.fresh (Nat.le_refl _)) rfl⟩
    exact frz_ok (Nat.le_trans (cutV_length xs lo hi) hz) ((r.drop (HT.sIx xs.length 0 lo)).take (HT.sIx xs.length xs.length hi - HT.sIx xs.length 0 lo)) (Heap.get?_push_size _ rfl)
theorem call_tuple_ofF : CallR X (.type "tuple") (fun xs H Q => ∃ p ys, xs = [.ref p] ∧ ((SqL X.K H p ys ∧ ∀ l o, H l = none → o.dict = none → Q (.ref l) (upd H l (.frz o (.tup ys)))) ∨ (SqT X.K H p ys ∧ Q (.ref p) H))) := by
  intro pins s σ H xs us Q I r h
  obtain ⟨p, ys, rfl, h⟩ := h
  obtain ⟨u, rfl, rx⟩ := vals1 r
  cases rx
  rcases h with ⟨hq, q⟩ | ⟨hq, q⟩
  · obtain ⟨its, r', pl, hz⟩ := I.list hq
    have hlen := r'.length
    refine call_tuple_list pl.isList (fun h' kp => ?_) (by simp only [List.size_toArray] <;> omega)
    have I1 : Inv X pins σ H { s with heap := h' } := I.kept (t' := s.toks) kp
    have I2 : Inv X pins σ (upd H h'.objs.size (.frz { cls := .type "tuple", data := .seq its.toArray } (.tup ys))) { s with heap := h'.push { cls := .type "tuple", data := .seq its.toArray } } :=
      I1.laid (t' := s.toks) (fun b o e => Heap.get?_push_of_some _ e) (Nat.le_refl _) (frz_ok hz r' (Heap.get?_push_size _ rfl))
    exact ⟨.ref h'.objs.size, _, I2, rfl, q _ _ (I1.hok.fresh (Nat.le_refl _)) rfl⟩
  · obtain ⟨its, r', pl, hz⟩ := I.tuple hq
    exact call_tuple_same pl ⟨.ref p, H, I, rfl, q⟩
/-- t.m(e) of a tuple of which the object is known -/
def tTM (K : PySem.W.Frag) (r : V → List V → Hp → VK → Prop) (to : TE) (t : TA) : TE := fun σ H Q => to σ H fun x H1 => (∃ p vs, x = .ref p ∧ KTup K H1 p vs) ∧ t σ H1 fun xs H2 => r x xs H2 Q
/-- t.index(x): the first place of an equal one -/
def rIndexT (K : PySem.W.Frag) : V → List V → Hp → VK → Prop := fun x xs H Q => ∃ (a : Addr) (y : V) (d : PyData) (ds : List PyData) (j : Nat) (z : PyData), x = V.ref a ∧ xs = [y] ∧ Dp K H (V.ref a) (.tuple ds) ∧ Dp K H y d ∧
  SeqAt.shaped (.tuple ds) = true ∧ SeqAt.shaped d = true ∧ ds[j]? = some z ∧ PyData.eqv z d = true ∧ (∀ (m : Nat) (z' : PyData), m < j → ds[m]? = some z' → PyData.eqv z' d = false) ∧ Q (.int (j : Nat)) H
/-- l.count(x) -/
def rCountD (K : PySem.W.Frag) : V → List V → Hp → VK → Prop := fun x xs H Q => ∃ (a : Addr) (y : V) (d : PyData) (ds : List PyData), x = V.ref a ∧ xs = [y] ∧ Dp K H (V.ref a) (.list ds) ∧ Dp K H y d ∧
  SeqAt.shaped (.list ds) = true ∧ SeqAt.shaped d = true ∧ Q (.int ((ds.countP fun z => PyData.eqv z d) : Nat)) H
theorem mt_countD (hu : X.A.units + 65 < cLine) : MtR X "list.count" (rCountD X.K) := by
  intro pins s σ H x xs v us Q I rx rxs h
  obtain ⟨a, y, d, ds, rfl, rfl, hl, hy, sl, sd, q⟩ := h
  cases rx
  cases rxs with
  | cons ry rt =>
    rename_i uy ut
    cases rt
    obtain ⟨bs, r1⟩ := Dp.reads I d y uy hy ry
    have hxs : PyData.canLayAll0 ds = true := SeqAt.canLay_of_shaped sl
    have hroom : X.A.units + 1 + min (PyData.depthAll ds) d.depth < cLine := room_in_shaped sd hu
    cases hl with
    | lst hs ha =>
      obtain ⟨its, rv, ⟨⟨cls, dd, data, sls⟩, n, ho, hc, hdn, hdt⟩, hlen⟩ := I.list hs
      simp only at hc hdt
      subst hc hdt
      obtain ⟨as, h4⟩ := Dp.readsAll I ds _ its ha rv
      have hmap : its.map (SeqAt.readOf s.heap) = ds := SeqAt.readsAll_map ds its as hxs h4
      refine call_meets PySem.F.slot_list_count ⟨_, ho, rfl⟩ PySem.F.entry_list_count (PySem.F.args_list_count_2 _ _)
        (SeqAt.list_countAt a its.toArray n dd sls uy (fun u => PyData.eqv (SeqAt.readOf s.heap u) d)) ⟨ho, SeqAt.items_eqAt (vs := its.toArray) (show ReadsAll s.heap its.toArray.toList ds as from h4) r1 hxs (SeqAt.canLay_of_shaped sd) hroom, ?_⟩
      have ec : its.toArray.toList.countP (fun u => PyData.eqv (SeqAt.readOf s.heap u) d) = ds.countP fun z => PyData.eqv z d := by
        rw [← hmap, List.countP_map]
        rfl
      refine ⟨.int ((ds.countP fun z => PyData.eqv z d) : Nat), H, I.tok _, ⟨s.toks, ?_⟩, q⟩
      show Value.int ((its.toArray.toList.countP (fun u => PyData.eqv (SeqAt.readOf s.heap u) d) : Nat) : Int) s.toks = _
      rw [ec]
end
end Pv

set_option Elab.async false
set_option linter.all false
set_option maxRecDepth 100000
namespace Pv
open PySem PySem.Spec PyProof.Rows L2
mutual
def toPy : D → Option PyData
  | .non => some .none
  | .bl b => some (.bool b)
  | .int i => some (.int i)
  | .str x => some (.str x)
  | .tup l => (toPys l).map .tuple
  | .ktup l => (toPys l).map .tuple
  | .lst l => (toPys l).map .list
  | .klst l => (toPys l).map .list
  | .dk _ _ => none
  | .dt _ _ => none
  | .adr _ => none
  | .ty _ => none
def toPys : List D → Option (List PyData)
  | [] => some []
  | d :: ds => match toPy d, toPys ds with
    | some p, some ps => some (p :: ps)
    | _, _ => none
end
section
variable {K : PySem.W.Frag} {H : Hp}
mutual
theorem Rep.dp : ∀ {v : V} {d : D} {p : PyData}, Rep K H v d → toPy d = some p → Dp K H v p
  | _, _, _, .non, e => by simp only [toPy, Option.some.injEq] at e; subst e; exact .non
  | _, _, _, .bl _, e => by simp only [toPy, Option.some.injEq] at e; subst e; exact .bl _
  | _, _, _, .int _, e => by simp only [toPy, Option.some.injEq] at e; subst e; exact .int _
  | _, _, _, .str _, e => by simp only [toPy, Option.some.injEq] at e; subst e; exact .str _
  | _, _, _, .tup a b c, e => by
    simp only [toPy, Option.map_eq_some_iff] at e
    obtain ⟨ps, e1, rfl⟩ := e
    exact .tup (.inl (.inl a)) (Reps.dp c e1)
  | _, _, _, .ktup a b c, e => by
    simp only [toPy, Option.map_eq_some_iff] at e
    obtain ⟨ps, e1, rfl⟩ := e
    exact .tup a.sqt (Reps.dp c e1)
  | _, _, _, .lst a b c, e => by
    simp only [toPy, Option.map_eq_some_iff] at e
    obtain ⟨ps, e1, rfl⟩ := e
    exact .lst (.inl (.inl a)) (Reps.dp c e1)
  | _, _, _, .klst a b c, e => by
    simp only [toPy, Option.map_eq_some_iff] at e
    obtain ⟨ps, e1, rfl⟩ := e
    exact .lst a (Reps.dp c e1)
  | _, _, _, .dk _ _ _, e => by simp only [toPy] at e; cases e
  | _, _, _, .dt _ _ _, e => by simp only [toPy] at e; cases e
  | _, _, _, .adr _, e => by simp only [toPy] at e; cases e
  | _, _, _, .ty _, e => by simp only [toPy] at e; cases e
theorem Reps.dp : ∀ {vs : List V} {ds : List D} {ps : List PyData}, Reps K H vs ds → toPys ds = some ps → DpAll K H vs ps
  | _, _, _, .nil, e => by simp only [toPys, Option.some.injEq] at e; subst e; exact .nil
  | _, _, _, .cons (d := d) (ds := ds) a b, e => by
    unfold toPys at e
    cases e1 : toPy d with
    | none => rw [e1] at e; cases e
    | some p =>
      cases e2 : toPys ds with
      | none => rw [e1, e2] at e; cases e
      | some ps =>
        rw [e1, e2] at e
        cases e
        exact .cons (Rep.dp a e1) (Reps.dp b e2)
end
end
section
variable {K : PySem.W.Frag} {F H : Hp}
theorem BRep.up (s : Same F H) {v : V} {d : D} (h : BRep K F H v d) : Rep K H v d := by
  rcases h with h | ⟨a, ho, o, rfl, h1, h2, rfl⟩
  · exact h.mono s
  · exact (h2.mono s).rep h1
theorem BRep.dp (s : Same F H) {v : V} {d : D} {p : PyData} (h : BRep K F H v d) (e : toPy d = some p) : Dp K H v p := (h.up s).dp e
/-- items of a borrowed list -/
theorem BRep.list {v : V} {d : D} {ds : List D} (s : Same F H) (h : BRep K F H v d) (e : lstOf d = some ds) : ∃ a vs, v = .ref a ∧ SqL K H a vs ∧ vs.length ≤ sizeLine ∧ Reps K F vs ds := by
  rcases h with h | ⟨a, ho, o, rfl, h1, h2, rfl⟩
  · obtain ⟨a, vs, e1, e2, e3, e4⟩ := rep_lstOf h e
    exact ⟨a, vs, e1, same_sql s e2, e3, e4⟩
  · cases o with
    | li l =>
      cases e
      obtain ⟨vs, rfl, h3, h4⟩ := h2
      exact ⟨a, vs, rfl, .inl (.inl h1), h3, h4⟩
    | _ => cases e
/-- of a list that stands by itself -/
theorem BRep.dlist {v : V} {ds : List D} (s : Same F H) (h : BRep K F H v (.lst ds)) : ∃ a vs, v = .ref a ∧ H a = some (.lst vs) ∧ vs.length ≤ sizeLine ∧ Reps K F vs ds := by
  rcases h with h | ⟨a, ho, o, rfl, h1, h2, e⟩
  · cases h with | lst h1 h2 h3 => exact ⟨_, _, rfl, s _ _ h1, h2, h3⟩
  · cases o with
    | li l =>
      cases e
      obtain ⟨vs, rfl, h3, h4⟩ := h2
      exact ⟨a, vs, rfl, h1, h3, h4⟩
    | _ => cases e
theorem BRep.tuple {v : V} {d : D} {ds : List D} (s : Same F H) (h : BRep K F H v d) (e : tupOf d = some ds) : ∃ a vs, v = .ref a ∧ SqT K H a vs ∧ vs.length ≤ sizeLine ∧ Reps K F vs ds := by
  rcases h with h | ⟨a, ho, o, rfl, h1, h2, rfl⟩
  · obtain ⟨a, vs, e1, e2, e3, e4⟩ := rep_tupOf h e
    exact ⟨a, vs, e1, same_sqt s e2, e3, e4⟩
  · cases o <;> cases e
theorem BRep.str {v : V} {x : Str} (h : BRep K F H v (.str x)) : v = .str x := by
  rcases h with h | ⟨a, ho, o, _, _, _, e⟩
  · cases h; rfl
  · cases o <;> cases e
theorem BRep.non {v : V} (h : BRep K F H v .non) : v = .non := by
  rcases h with h | ⟨a, ho, o, _, _, _, e⟩
  · cases h; rfl
  · cases o <;> cases e
end

def eqD (a b : D) : Option Bool := match toPy a, toPy b with
  | some p, some q => if (SeqAt.shaped p && SeqAt.shaped q) = true then some (PyData.eqv p q) else none
  | _, _ => none
def opEq (a b : D) : Option D := (eqD a b).map .bl
def opNe (a b : D) : Option D := (eqD a b).map fun x => .bl (!x)
theorem os_eq {K : PySem.W.Frag} : OpS K (rEqD K) opEq := fun F H x y a b c Q s ra rb e q => by
  unfold opEq eqD at e
  cases e1 : toPy a with
  | none => rw [e1] at e; cases e
  | some p =>
    cases e2 : toPy b with
    | none => rw [e1, e2] at e; cases e
    | some r =>
      rw [e1, e2] at e
      dsimp only at e
      split at e
      · rename_i h
        rw [Bool.and_eq_true] at h
        cases e
        exact ⟨p, r, ra.dp s e1, rb.dp s e2, h.1, h.2, q F H _ (.refl _ _) (.bl _)⟩
      · cases e
theorem os_ne {K : PySem.W.Frag} : OpS K (rNeD K) opNe := fun F H x y a b c Q s ra rb e q => by
  unfold opNe eqD at e
  cases e1 : toPy a with
  | none => rw [e1] at e; cases e
  | some p =>
    cases e2 : toPy b with
    | none => rw [e1, e2] at e; cases e
    | some r =>
      rw [e1, e2] at e
      dsimp only at e
      split at e
      · rename_i h
        rw [Bool.and_eq_true] at h
        cases e
        exact ⟨p, r, ra.dp s e1, rb.dp s e2, h.1, h.2, q F H _ (.refl _ _) (.bl _)⟩
      · cases e
def int2 (g : Int → Int → Option D) (a b : D) : Option D := match a, b with
  | .int i, .int j => g i j
  | _, _ => none
theorem int2_some {g : Int → Int → Option D} {a b c : D} (e : int2 g a b = some c) : ∃ i j, a = .int i ∧ b = .int j ∧ g i j = some c := by
  unfold int2 at e
  split at e
  · exact ⟨_, _, rfl, rfl, e⟩
  · cases e
def opLt : D → D → Option D := int2 fun i j => some (.bl (decide (i < j)))
def opLe : D → D → Option D := int2 fun i j => some (.bl (decide (i ≤ j)))
def opGt : D → D → Option D := int2 fun i j => some (.bl (decide (j < i)))
def opGe : D → D → Option D := int2 fun i j => some (.bl (decide (j ≤ i)))
def opSub : D → D → Option D := int2 fun i j => some (.int (i - j))
theorem os_int2 {K : PySem.W.Frag} {g : Int → Int → D} {u : Int → Int → V} (hu : ∀ i j F, Rep K F (u i j) (g i j)) : OpS K (rI0 u) (int2 fun i j => some (g i j)) := fun F H x y a b c Q s ra rb e q => by
  obtain ⟨i, j, rfl, rfl, e⟩ := int2_some e
  cases e
  exact ⟨i, j, ra.int, rb.int, q F H _ (.refl _ _) (hu _ _ _)⟩
theorem os_le {K : PySem.W.Frag} : OpS K (rI0 fun i j => .bl (decide (i ≤ j))) opLe := os_int2 fun _ _ _ => .bl _
theorem os_gt {K : PySem.W.Frag} : OpS K (rI0 fun i j => .bl (decide (j < i))) opGt := os_int2 fun _ _ _ => .bl _
theorem os_sub {K : PySem.W.Frag} : OpS K (rI0 fun i j => .int (i - j)) opSub := os_int2 fun _ _ _ => .int _
instance (i j : Int) : Decidable (L2.CMul i j) := by unfold L2.CMul; infer_instance
instance (i j : Int) : Decidable (L2.CMulW i j) := by unfold L2.CMulW; infer_instance
end Pv

set_option Elab.async false
set_option linter.all false
set_option maxRecDepth 100000
namespace Pv
open PySem PySem.Spec PyProof.Rows L2
def big : Nat := 16777216
theorem big_line : big = sizeLine := sizeLine_eq.symm
def intsOf : List D → Option (List Int)
  | [] => some []
  | .int i :: ds => (intsOf ds).map (i :: ·)
  | _ :: _ => none
theorem intsOf_eq : ∀ {ds : List D} {ns : List Int}, intsOf ds = some ns → ds = ns.map .int
  | [], _, e => by cases e; rfl
  | d :: ds, _, e => by
    unfold intsOf at e
    split at e
    · rename_i h; cases h
    · rename_i i ds' h
      cases h
      obtain ⟨ns, e1, rfl⟩ := Option.map_eq_some_iff.mp e
      rw [intsOf_eq e1]; rfl
    · cases e
theorem Reps.ints_inv {K : PySem.W.Frag} {F : Hp} : ∀ {vs : List V} {ns : List Int}, Reps K F vs (ns.map D.int) → vs = ns.map V.int
  | _, [], h => by cases h; rfl
  | _, n :: ns, h => by
    cases h with
    | cons a b => cases a; rw [Reps.ints_inv b]; rfl
def addD (a b : D) : Option D := match tupOf a, tupOf b with
  | some xs, some ys => if xs.length + ys.length ≤ big then some (if xs = [] then b else if ys = [] then a else .ktup (xs ++ ys)) else none
  | _, _ => none
def opAdd (a b : D) : Option D := match a, b with
  | .int i, .int j => some (.int (i + j))
  | .str x, .str y => if x.length + y.length ≤ big then some (.str (x ++ y)) else none
  | .lst xs, .lst ys => if xs.length + ys.length ≤ big then some (.lst (xs ++ ys)) else none
  | .tup xs, .tup ys => if xs.length + ys.length ≤ big then some (match xs, ys with | [], _ => .tup ys | _, [] => .tup xs | _, _ => .ktup (xs ++ ys)) else none
  | .ktup xs, .tup ys => if xs.length + ys.length ≤ big then some (match xs, ys with | [], _ => .tup ys | _, [] => .ktup xs | _, _ => .ktup (xs ++ ys)) else none
  | .tup xs, .ktup ys => if xs.length + ys.length ≤ big then some (match xs, ys with | [], _ => .ktup ys | _, [] => .tup xs | _, _ => .ktup (xs ++ ys)) else none
  | .ktup xs, .ktup ys => if xs.length + ys.length ≤ big then some (.ktup (xs ++ ys)) else none
  | _, _ => none
def rAddStr : R2 := fun x y H Q => ∃ i j, x = .str i ∧ y = .str j ∧ i.length + j.length ≤ sizeLine ∧ Q (.str (i ++ j)) H
def rAddAll (K : PySem.W.Frag) : R2 := fun x y H Q => rI0 (fun i j => .int (i + j)) x y H Q ∨ (rAddStr x y H Q ∨ (rCat x y H Q ∨ rCatF K x y H Q))
theorem op_addAll {X : Cx} : OpR X (binaryOp .Add) (rAddAll X.K) := op_add.or (op_add_str.or (op_cat.or op_catF))
theorem cat_case {K : PySem.W.Frag} {F H : Hp} {x y : V} {a b : D} {xs ys : List D} {Q : VK} (s : Same F H) (ra : BRep K F H x a) (rb : BRep K F H y b) (e1 : tupOf a = some xs) (e2 : tupOf b = some ys) (hl : xs.length + ys.length ≤ big)
    (q0 : xs = [] → ∀ F' H' v, Grow F H F' H' → Rep K F' v b → Q v H') (q1 : xs ≠ [] → ys = [] → ∀ F' H' v, Grow F H F' H' → Rep K F' v a → Q v H') (q2 : xs ≠ [] → ys ≠ [] → ∀ F' H' v, Grow F H F' H' → Rep K F' v (.ktup (xs ++ ys)) → Q v H') : rCatF K x y H Q := by
  obtain ⟨p, vs, rfl, h1, h2, h3⟩ := ra.tuple s e1
  obtain ⟨p', us, rfl, g1, g2, g3⟩ := rb.tuple s e2
  have l1 := h3.length
  have l2 := g3.length
  have fz : ∀ {v : V} {d : D}, BRep K F H v d → ∀ {ds}, tupOf d = some ds → Rep K F v d := fun {v d} r {ds} e => by
    rcases r with r | ⟨a, ho, o, rfl, _, _, rfl⟩
    · exact r
    · cases o <;> cases e
  have hz : vs.length + us.length ≤ sizeLine := by rw [← big_line]; omega
  have nx : vs = [] ↔ xs = [] := by rw [← List.length_eq_zero_iff, ← List.length_eq_zero_iff, l1]
  have ny : us = [] ↔ ys = [] := by rw [← List.length_eq_zero_iff, ← List.length_eq_zero_iff, l2]
  refine ⟨p, p', vs, us, rfl, rfl, h1, g1, hz, fun z => q0 (nx.mp z) F H _ (.refl _ _) (fz rb e2), fun z z' => q1 (fun t => z (nx.mpr t)) (ny.mp z') F H _ (.refl _ _) (fz ra e1), fun z z' q o hq ho => ?_⟩
  refine q2 (fun t => z (nx.mpr t)) (fun t => z' (ny.mpr t)) _ _ _ (.new (.refl _ _) hq) (.ktup (.inl ⟨o, upd_same, ho⟩) (by rw [List.length_append]; exact hz) ?_)
  exact (h3.append g3).mono (same_new (s.free hq))
theorem os_add {K : PySem.W.Frag} : OpS K (rAddAll K) opAdd := fun F H x y a b c Q s ra rb e q => by
  unfold opAdd at e
  split at e
  · cases e; exact .inl ⟨_, _, ra.int, rb.int, q F H _ (.refl _ _) (.int _)⟩
  · split at e
    · rename_i h; cases e; exact .inr (.inl ⟨_, _, ra.str, rb.str, by rw [← big_line]; exact h, q F H _ (.refl _ _) (.str _)⟩)
    · cases e
  · split at e
    · rename_i h
      cases e
      obtain ⟨p, vs, rfl, h1, h2, h3⟩ := ra.dlist s
      obtain ⟨p', us, rfl, g1, g2, g3⟩ := rb.dlist s
      have l1 := h3.length
      have l2 := g3.length
      refine .inr (.inr (.inl ⟨p, p', vs, us, rfl, rfl, h1, g1, by rw [← big_line]; omega, fun r hr => ?_⟩))
      exact q _ _ _ (.new (.refl _ _) hr) (.lst upd_same (by rw [List.length_append, ← big_line]; omega) ((h3.append g3).mono (same_new (s.free hr))))
    · cases e
  · rename_i xs ys
    split at e
    · rename_i h
      refine .inr (.inr (.inr (cat_case (xs := xs) (ys := ys) s ra rb rfl rfl h (fun z => ?_) (fun z z' => ?_) (fun z z' => ?_))))
      · subst z; cases e; exact q
      · subst z'; cases xs with | nil => exact absurd rfl z | cons _ _ => cases e; exact q
      · cases xs with | nil => exact absurd rfl z | cons _ _ => cases ys with | nil => exact absurd rfl z' | cons _ _ => cases e; exact q
    · cases e
  · rename_i xs ys
    split at e
    · rename_i h
      refine .inr (.inr (.inr (cat_case (xs := xs) (ys := ys) s ra rb rfl rfl h (fun z => ?_) (fun z z' => ?_) (fun z z' => ?_))))
      · subst z; cases e; exact q
      · subst z'; cases xs with | nil => exact absurd rfl z | cons _ _ => cases e; exact q
      · cases xs with | nil => exact absurd rfl z | cons _ _ => cases ys with | nil => exact absurd rfl z' | cons _ _ => cases e; exact q
    · cases e
  · rename_i xs ys
    split at e
    · rename_i h
      refine .inr (.inr (.inr (cat_case (xs := xs) (ys := ys) s ra rb rfl rfl h (fun z => ?_) (fun z z' => ?_) (fun z z' => ?_))))
      · subst z; cases e; exact q
      · subst z'; cases xs with | nil => exact absurd rfl z | cons _ _ => cases e; exact q
      · cases xs with | nil => exact absurd rfl z | cons _ _ => cases ys with | nil => exact absurd rfl z' | cons _ _ => cases e; exact q
    · cases e
  · rename_i xs ys
    split at e
    · rename_i h
      cases e
      refine .inr (.inr (.inr (cat_case (xs := xs) (ys := ys) s ra rb rfl rfl h (fun z => ?_) (fun z z' => ?_) (fun z z' => ?_))))
      · subst z; exact q
      · subst z'; rw [List.append_nil] at q; exact q
      · exact q
    · cases e
  · cases e
def opMul : D → D → Option D := int2 fun i j => if L2.CMul i j ∨ L2.CMulW i j then some (.int (i * j)) else none
def rMulAll : R2 := fun x y H Q => rI L2.CMul (fun i j => .int (i * j)) x y H Q ∨ rI L2.CMulW (fun i j => .int (i * j)) x y H Q
theorem op_mulAll {X : Cx} : OpR X (binaryOp .Mult) rMulAll := op_mul.or op_mulW
theorem os_mul {K : PySem.W.Frag} : OpS K rMulAll opMul := fun F H x y a b c Q s ra rb e q => by
  obtain ⟨i, j, rfl, rfl, e'⟩ := int2_some e
  clear e
  split at e'
  · rename_i h
    cases e'
    rcases h with h | h
    · exact .inl ⟨i, j, ra.int, rb.int, h, q F H _ (.refl _ _) (.int _)⟩
    · exact .inr ⟨i, j, ra.int, rb.int, h, q F H _ (.refl _ _) (.int _)⟩
  · cases e'
instance (i j : Int) : Decidable (L2.CDivW i j) := by unfold L2.CDivW; infer_instance
def opDiv : D → D → Option D := int2 fun i j => if L2.CDivW i j then some (.int (i / j)) else none
theorem os_div {K : PySem.W.Frag} : OpS K (rI L2.CDivW fun i j => .int (i / j)) opDiv := fun F H x y a b c Q s ra rb e q => by
  obtain ⟨i, j, rfl, rfl, e'⟩ := int2_some e
  clear e
  split at e'
  · rename_i h; cases e'; exact ⟨i, j, ra.int, rb.int, h, q F H _ (.refl _ _) (.int _)⟩
  · cases e'
def opMod : D → D → Option D := int2 fun i j => if 0 < j then some (.int (i % j)) else none
theorem os_mod {K : PySem.W.Frag} : OpS K (rI (fun _ j => 0 < j) fun i j => .int (i % j)) opMod := fun F H x y a b c Q s ra rb e q => by
  obtain ⟨i, j, rfl, rfl, e'⟩ := int2_some e
  clear e
  split at e'
  · rename_i h; cases e'; exact ⟨i, j, ra.int, rb.int, h, q F H _ (.refl _ _) (.int _)⟩
  · cases e'
instance (i j : Int) : Decidable (L2.CPow i j) := by unfold L2.CPow; infer_instance
def opPow : D → D → Option D := int2 fun i j => if L2.CPow i j then some (.int (i ^ j.toNat)) else none
theorem os_pow {K : PySem.W.Frag} : OpS K (rI L2.CPow fun i j => .int (i ^ j.toNat)) opPow := fun F H x y a b c Q s ra rb e q => by
  obtain ⟨i, j, rfl, rfl, e'⟩ := int2_some e
  clear e
  split at e'
  · rename_i h; cases e'; exact ⟨i, j, ra.int, rb.int, h, q F H _ (.refl _ _) (.int _)⟩
  · cases e'
def opNeg : D → Option D
  | .int i => some (.int (-i))
  | _ => none
theorem us_neg {K : PySem.W.Frag} : UnS K (rU fun i => .int (-i)) opNeg := fun F H x a c Q s ra e q => by
  unfold opNeg at e
  split at e
  · cases e; exact ⟨_, ra.int, q F H _ (.refl _ _) (.int _)⟩
  · cases e
def opLtA (a b : D) : Option D := match a, b with
  | .int i, .int j => some (.bl (decide (i < j)))
  | _, _ => match tupOf a, tupOf b with
    | some xs, some ys => match intsOf xs, intsOf ys with
      | some ns, some ms => some (.bl (HT.lexLt ns ms))
      | _, _ => none
    | _, _ => none
def rLtAll (K : PySem.W.Frag) : R2 := fun x y H Q => rI0 (fun i j => .bl (decide (i < j))) x y H Q ∨ rLtT K x y H Q
theorem op_ltAll {X : Cx} (hu : X.A.units < cLine) : OpR X (compareOp .Lt) (rLtAll X.K) := op_lt.or (op_ltT hu)
theorem os_ltA {K : PySem.W.Frag} : OpS K (rLtAll K) opLtA := fun F H x y a b c Q s ra rb e q => by
  unfold opLtA at e
  split at e
  · cases e; exact .inl ⟨_, _, ra.int, rb.int, q F H _ (.refl _ _) (.bl _)⟩
  · cases e1 : tupOf a with
    | none => rw [e1] at e; cases e
    | some xs =>
      cases e2 : tupOf b with
      | none => rw [e1, e2] at e; cases e
      | some ys =>
        rw [e1, e2] at e
        dsimp only at e
        cases f1 : intsOf xs with
        | none => rw [f1] at e; cases e
        | some ns =>
          cases f2 : intsOf ys with
          | none => rw [f1, f2] at e; cases e
          | some ms =>
            rw [f1, f2] at e
            cases e
            obtain ⟨p, vs, rfl, h1, h2, h3⟩ := ra.tuple s e1
            obtain ⟨p', us, rfl, g1, g2, g3⟩ := rb.tuple s e2
            rw [intsOf_eq f1] at h3
            rw [intsOf_eq f2] at g3
            rw [h3.ints_inv] at h1
            rw [g3.ints_inv] at g1
            exact .inr ⟨p, p', ns, ms, rfl, rfl, h1, g1, q F H _ (.refl _ _) (.bl _)⟩
def opIx (a b : D) : Option D := match b with
  | .int i => match itemsOf a with
    | some ds => atI ds i
    | none => match a with
      | .str z => if z.length ≤ big then (atI z.cps.toList i).map fun c => .str ⟨#[c]⟩ else none
      | _ => none
  | _ => none
theorem itemsOf_cases {d : D} {ds : List D} (e : itemsOf d = some ds) : lstOf d = some ds ∨ tupOf d = some ds := by
  cases d <;> first | (cases e; exact .inl rfl) | (cases e; exact .inr rfl) | cases e
theorem atI_reps {K : PySem.W.Frag} {F : Hp} {vs : List V} {ds : List D} {i : Int} {d : D} (r : Reps K F vs ds) (e : atI ds i = some d) : ∃ v, atI vs i = some v ∧ Rep K F v d := by
  unfold atI at e ⊢
  rw [r.length]
  cases q : ixN ds.length i with
  | none => rw [q] at e; cases e
  | some j =>
    rw [q] at e
    exact r.get e
theorem os_ix {K : PySem.W.Frag} : OpS K (rIx K) opIx := fun F H x y a b c Q s ra rb e q => by
  unfold opIx at e
  split at e
  · rename_i i
    cases e1 : itemsOf a with
    | some ds =>
      rw [e1] at e
      dsimp only at e
      rcases itemsOf_cases e1 with e2 | e2
      · obtain ⟨p, vs, rfl, h1, h2, h3⟩ := ra.list s e2
        obtain ⟨v, g1, g2⟩ := atI_reps h3 e
        exact .inl ⟨p, vs, i, v, rfl, rb.int, h1, g1, q F H _ (.refl _ _) g2⟩
      · obtain ⟨p, vs, rfl, h1, h2, h3⟩ := ra.tuple s e2
        obtain ⟨v, g1, g2⟩ := atI_reps h3 e
        exact .inr (.inl ⟨p, vs, i, v, rfl, rb.int, h1, g1, q F H _ (.refl _ _) g2⟩)
    | none =>
      rw [e1] at e
      dsimp only at e
      split at e
      · split at e
        · rename_i z h
          obtain ⟨cc, e3, rfl⟩ := Option.map_eq_some_iff.mp e
          exact .inr (.inr ⟨_, i, cc, ra.str, rb.int, by rw [← big_line]; exact h, e3, q F H _ (.refl _ _) (.str _)⟩)
        · cases e
      · cases e
  · cases e
def isNonD : D → Bool
  | .non => true
  | _ => false
theorem BRep.isNon {K : PySem.W.Frag} {F H : Hp} {v : V} {d : D} (h : BRep K F H v d) : decide (v = .non) = isNonD d := by
  rcases h with h | ⟨a, ho, o, rfl, _, _, rfl⟩
  · cases h <;> first | rfl | exact decide_eq_false (fun z => nomatch z)
  · cases o <;> exact decide_eq_false (fun z => nomatch z)
def opIs (a b : D) : Option D := match b with
  | .non => some (.bl (isNonD a))
  | _ => none
def opIsNot (a b : D) : Option D := match b with
  | .non => some (.bl (!isNonD a))
  | _ => none
theorem os_is {K : PySem.W.Frag} : OpS K (fun x y H Q => y = .non ∧ Q (.bl (decide (x = .non))) H) opIs := fun F H x y a b c Q s ra rb e q => by
  unfold opIs at e
  split at e
  · cases e
    refine ⟨rb.non, ?_⟩
    rw [ra.isNon]
    exact q F H _ (.refl _ _) (.bl _)
  · cases e
theorem os_isNot {K : PySem.W.Frag} : OpS K (fun x y H Q => y = .non ∧ Q (.bl (!decide (x = .non))) H) opIsNot := fun F H x y a b c Q s ra rb e q => by
  unfold opIsNot at e
  split at e
  · cases e
    refine ⟨rb.non, ?_⟩
    rw [ra.isNon]
    exact q F H _ (.refl _ _) (.bl _)
  · cases e
end Pv

set_option Elab.async false
set_option linter.all false
set_option maxRecDepth 100000
namespace Pv
open PySem PySem.Spec PyProof.Rows L2
def sortV (vs : List V) (ps : List PyData) : List V := ((vs.zip ps).mergeSort (PySem.W.dataLe false (·.2))).map (·.1)
def rSortD (K : PySem.W.Frag) : List V → Hp → VK → Prop := fun xs H Q => ∃ (a : Addr) (vs : List V) (ps : List PyData), xs = [.ref a] ∧ SqL K H a vs ∧ DpAll K H vs ps ∧ PySem.W.AllAlike ps ∧ PySem.W.Sortable ps ∧ (∀ p ∈ ps, p.depth ≤ 60) ∧
  ∀ p, H p = none → Q (.ref p) (upd H p (.lst (sortV vs ps)))
theorem dpAll_len {K : PySem.W.Frag} {H : Hp} : ∀ {vs : List V} {ps : List PyData}, DpAll K H vs ps → vs.length = ps.length
  | _, _, .nil => rfl
  | _, _, .cons _ b => congrArg (· + 1) (dpAll_len b)
theorem vals_of_each : ∀ {us : List Value} {zs : List (V × PyData)}, PySem.W.EachIs (fun u (z : V × PyData) => RelV z.1 u) us zs → Vals (zs.map (·.1)) us
  | _, _, .nil => .nil
  | _, _, .cons a b => .cons a (vals_of_each b)
theorem each_of_vals : ∀ {us : List Value} {vs : List V} {ps : List PyData}, Vals vs us → vs.length = ps.length → PySem.W.EachIs (fun u (z : V × PyData) => RelV z.1 u) us (vs.zip ps)
  | _, _, [], .nil, _ => .nil
  | _, _, _ :: _, .nil, h => nomatch h
  | _, _, [], .cons _ _, h => nomatch h
  | _, _, p :: ps, .cons a b, h => .cons a (each_of_vals b (by simpa using h))
theorem each_reads {X : Cx} {pins : List (Addr × Obj)} {σ : L2.St} {H : Hp} {s : Shared} (I : Inv X pins σ H s) : ∀ {us : List Value} {vs : List V} {ps : List PyData}, Vals vs us → DpAll X.K H vs ps → PySem.W.EachIs (fun u (z : V × PyData) => ∃ as, Reads s.heap u z.2 as) us (vs.zip ps)
  | _, _, _, .nil, .nil => .nil
  | _, _, _, .cons a b, .cons c d => .cons (Dp.reads I _ _ _ c a) (each_reads I b d)
theorem zip_snd {vs : List V} {ps : List PyData} (h : vs.length = ps.length) : (vs.zip ps).map (·.2) = ps := by
  rw [List.map_snd_zip]; omega
theorem cr_sortedD {X : Cx} (hu : X.A.units + 64 < cLine) : CallR X (.builtin "sorted") (rSortD X.K) := by
  intro pins s σ H xs us Q I r h
  obtain ⟨a, vs, ps, rfl, hs, hd, hal, hsr, hdp, q⟩ := h
  obtain ⟨its, rv, hl, hz⟩ := I.list hs
  rw [Vals.ref1 r]
  have hlen := dpAll_len hd
  have ez := zip_snd hlen
  refine PySem.W.sorted_data (R := fun u (z : V × PyData) => RelV z.1 u) (bs := vs.zip ps) (enc := (·.2)) hl.isList (each_of_vals rv hlen) (each_reads I rv hd) (by rw [ez]; exact hal) (by rw [ez]; exact hsr) (by rw [List.length_zip, ← hlen, Nat.min_self]; exact hz)
    (fun b hb => by
      have : b.2 ∈ ps := by rw [← ez]; exact List.mem_map.mpr ⟨b, hb, rfl⟩
      have := hdp _ this
      omega) fun out hout he => ?_
  obtain ⟨ep, he'⟩ := PyProof.Rows.sortedAll_at s.heap its out.toArray
  have hl2 : (sortV vs ps).length ≤ sizeLine := by
    unfold sortV
    rw [List.length_map, List.length_mergeSort, List.length_zip, ← hlen, Nat.min_self]; exact hz
  exact ⟨.ref _, upd H (s.heap.objs.size + 1) (.lst (sortV vs ps)), I.laid (t' := s.toks) (fun _ _ => PyProof.Rows.sortedAll_old) (Nat.le_succ _) ⟨hl2, out, ep, vals_of_each he, he'⟩, rfl, q _ (I.hok.fresh (Nat.le_succ _))⟩
def mergeT (kvs more : List (List Key × V)) : List (List Key × V) := more.foldl (fun acc kv => putK acc kv.1 kv.2) kvs
theorem length_mergeT : ∀ (more kvs : List (List Key × V)), (mergeT kvs more).length ≤ kvs.length + more.length
  | [], kvs => by show kvs.length ≤ kvs.length + 0; omega
  | p :: r, kvs => by
    have h1 := length_mergeT r (putK kvs p.1 p.2)
    have h2 := length_putK kvs p.1 p.2
    show (mergeT (putK kvs p.1 p.2) r).length ≤ _
    rw [List.length_cons]; omega
def rDictT (K : PySem.W.Frag) : List V → Hp → VK → Prop := fun xs H Q => ∃ (a : Addr) (ps : List Addr) (kvs : List (List Key × Addr × V)), xs = [.ref a] ∧ SqL K H a (ps.map V.ref) ∧ Paired (fun p kv => SqT K H p [.ref kv.2.1, kv.2.2] ∧ H kv.2.1 = some (.tup (kv.1.map kV))) ps kvs ∧
  ∀ p, H p = none → Q (.ref p) (upd H p (.dT (mergeT [] (kvs.map fun x => (x.1, x.2.2)))))
/-- the values of the pairs -/
theorem pairsT {X : Cx} {pins : List (Addr × Obj)} {σ : L2.St} {H : Hp} {s : Shared} (I : Inv X pins σ H s) {ps : List Addr} {kvs : List (List Key × Addr × V)} (h : Paired (fun p kv => SqT X.K H p [.ref kv.2.1, kv.2.2] ∧ H kv.2.1 = some (.tup (kv.1.map kV))) ps kvs) :
    ∃ xs : List (List Key × Addr × Value), Paired (fun (k : List Key × Addr × V) (x : List Key × Addr × Value) => k.1 = x.1 ∧ k.2.1 = x.2.1 ∧ RelV k.2.2 x.2.2 ∧ H x.2.1 = some (.tup (x.1.map kV))) kvs xs ∧ ps.length = xs.length ∧
      ∀ (j : Nat) (x : List Key × Addr × Value), xs[j]? = some x → ∃ b, ps[j]? = some b ∧ IsTup s.heap b #[.ref x.2.1, x.2.2] := by
  induction h with
  | nil => exact ⟨[], .nil, rfl, fun j x e => by simp at e⟩
  | @cons p kv ps kvs hp t ih =>
    obtain ⟨xs, h1, h2, h3⟩ := ih
    obtain ⟨hq, hk⟩ := hp
    obtain ⟨its, rv, pt, _⟩ := I.tuple hq
    cases rv with
    | @cons _ u1 _ _ r1 rr =>
      cases rr with
      | @cons _ u2 _ _ r2 rr2 =>
        cases rr2
        cases r1
        refine ⟨(kv.1, kv.2.1, u2) :: xs, .cons ⟨rfl, rfl, r2, hk⟩ h1, congrArg (· + 1) h2, fun j x e => ?_⟩
        cases j with
        | zero => simp at e; subst e; exact ⟨p, rfl, pt⟩
        | succ j => simpa using h3 j x (by simpa using e)
theorem kt_merge {H : Hp} {kvs : List (List Key × Addr × V)} {xs : List (List Key × Addr × Value)} (h : Paired (fun (k : List Key × Addr × V) (x : List Key × Addr × Value) => k.1 = x.1 ∧ k.2.1 = x.2.1 ∧ RelV k.2.2 x.2.2 ∧ H x.2.1 = some (.tup (x.1.map kV))) kvs xs) :
    ∀ {acc : List (List Key × V)} {ac2 : List (List Key × Addr × Value)}, KT H acc ac2 → KT H (mergeT acc (kvs.map fun x => (x.1, x.2.2))) (PySem.storedAllH ac2 xs) := by
  induction h with
  | nil => intro acc ac2 h; exact h
  | @cons kv x kvs xs hx t ih =>
    intro acc ac2 h
    obtain ⟨e1, e2, r, hk⟩ := hx
    have h' : KT H (putK acc x.1 kv.2.2) (storedH ac2 x.1 x.2.1 x.2.2) := h.put x.1 hk r
    rw [← e1] at h'
    have := ih h'
    rw [show PySem.storedAllH ac2 (x :: xs) = PySem.storedAllH (storedH ac2 x.1 x.2.1 x.2.2) xs from rfl, ← e1]
    exact this
theorem keys_in {X : Cx} {pins : List (Addr × Obj)} {σ : L2.St} {H : Hp} {s : Shared} (I : Inv X pins σ H s) {kvs : List (List Key × Addr × V)} {xs : List (List Key × Addr × Value)} (h : Paired (fun (k : List Key × Addr × V) (x : List Key × Addr × Value) => k.1 = x.1 ∧ k.2.1 = x.2.1 ∧ RelV k.2.2 x.2.2 ∧ H x.2.1 = some (.tup (x.1.map kV))) kvs xs) :
    ∀ x ∈ xs, H x.2.1 = some (.tup (x.1.map kV)) := by
  induction h with
  | nil => intro x hx; exact nomatch hx
  | @cons k y _ _ a t ih =>
    intro x hx
    rcases List.mem_cons.mp hx with e | e
    · subst e; exact a.2.2.2
    · exact ih x e
theorem call_dictT {X : Cx} (hcalm : X.calm = true) (hu : X.A.units + 64 < cLine) : CallR X (.type "dict") (rDictT X.K) := by
  intro pins s σ H xs us Q I r h
  obtain ⟨a, ps, kvs, rfl, hq, hp, q⟩ := h
  obtain ⟨u, rfl, rx⟩ := vals1 r
  cases rx
  obtain ⟨its, rv, pl, hz⟩ := I.list hq
  have ei := refs_at rv
  subst ei
  rw [List.length_map] at hz
  obtain ⟨prs, rel, hl, hpr⟩ := pairsT I hp
  have hks := keys_in I rel
  obtain ⟨o, n, ho, hc, hd, hdat⟩ := pl
  have lenk : kvs.length = prs.length := Paired.length rel
  refine PySem.call_dict_pairsH (knd := tupleKind (mixKind X.prog X.w)) (ps := prs) (PySem.PairArg.list a (ps.map Value.ref).toArray (fun j => ps.getD j 0) (prs.map fun x => (.ref x.2.1, x.2.2))) (I.ok.hd hcalm) (by show X.A.in1.in1.units < cLine; show X.A.units + 1 + 1 < cLine; omega)
    ⟨⟨o, n, ho, hc, hd, hdat⟩, by simp [hl], fun j k v e => ?_⟩ ⟨by simp, fun i key v e => ?_⟩ (fun h' hk x hx => ?_) (by rw [List.length_map, ← hl]; exact hz) fun h' tk hd' hk => ?_
  · rw [List.getElem?_map] at e
    cases e1 : prs[j]? with
    | none => rw [e1] at e; cases e
    | some x =>
      rw [e1] at e
      cases e
      obtain ⟨b, h1, h2⟩ := hpr j x e1
      have hb : ps.getD j 0 = b := by rw [List.getD_eq_getElem?_getD, h1]; rfl
      refine ⟨by simp [h1, hb], .inl ?_⟩
      show IsTup s.heap (ps.getD j 0) _
      rw [hb]
      exact h2
  · rw [PySem.PairRel, List.getElem?_map] at e
    cases e1 : prs[i]? with
    | none => rw [e1] at e; cases e
    | some x =>
      rw [e1] at e
      cases e
      exact ⟨x.1, x.2.1, rfl, rfl⟩
  · have ok' : ObjOk X.prog X.w H s.heap x.2.1 (.tup (x.1.map kV)) := I.hok _ _ (hks x hx)
    obtain ⟨hz2, its2, rv2, ob, e2, e3, n3, e4⟩ := ok'
    exact ⟨ob, its2.toArray, n3, hk _ _ (Nat.ne_of_lt (Heap.lt_size e2)) (by simp) e2, e3, e4, by simpa using items_are rv2⟩
  · have hm : (s.heap.objs.size == sysModules) = false := beq_eq_false_iff_ne.mpr (Nat.ne_of_gt I.big)
    have hlen : (mergeT [] (kvs.map fun x => (x.1, x.2.2))).length ≤ sizeLine := by
      refine Nat.le_trans (length_mergeT _ []) ?_
      rw [List.length_nil, Nat.zero_add, List.length_map, lenk, ← hl]
      exact hz
    obtain ⟨o', es, ep, g1, g2, g3, g4, g5, g6⟩ := hd'
    have kt : KT H (mergeT [] (kvs.map fun x => (x.1, x.2.2))) (PySem.storedAllH [] prs) := kt_merge rel .nil
    have hf : H s.heap.objs.size = none := I.hok.fresh (Nat.le_refl _)
    refine ⟨.ref s.heap.objs.size, upd H s.heap.objs.size (.dT (mergeT [] (kvs.map fun x => (x.1, x.2.2)))), I.laid (t' := tk) (fun b o e => hk b o (by simp) e) (Nat.le_refl _) ⟨hlen, hm, _, kt.keeps fun b ys e => ?_, o', es, ep, g1, g2, g3, g4, g6⟩, rfl, q _ hf⟩
    rw [upd_ne (ne_of_none e hf)]
    exact e
end Pv

set_option Elab.async false
set_option linter.all false
set_option maxRecDepth 100000
namespace Pv
open PySem PySem.Spec PyProof.Rows L2
def ofOpt : Option D → Rf
  | some d => .fz d
  | none => .stuck
theorem ofOpt_exc (o : Option D) (e : Exc) : ofOpt o ≠ .exc e := by cases o <;> exact fun z => nomatch z
section
variable {K : PySem.W.Frag} {F H : Hp}
def lenD : D → Option D
  | .str x => if x.length ≤ big then some (.int x.length) else none
  | .dk ks l => if ks.length = l.length then some (.int ks.length) else none
  | d => match itemsOf d with
    | some ds => some (.int ds.length)
    | none => none
def fLen (ds : List D) : Rf := match ds with
  | [d] => ofOpt (lenD d)
  | _ => .stuck
def rLenA (K : PySem.W.Frag) : List V → Hp → VK → Prop := fun xs H Q => (∃ x n, xs = [x] ∧ LenV K x H n ∧ Q (.int n) H) ∨ ∃ a kvs, xs = [V.ref a] ∧ Rd H a (.dK kvs) ∧ Q (.int kvs.length) H
theorem call_lenR {X : Cx} : CallR X (.builtin "len") (fun xs H Q => ∃ a kvs, xs = [V.ref a] ∧ Rd H a (.dK kvs) ∧ Q (.int kvs.length) H) := by
  intro pins s σ H xs us Q I r h
  obtain ⟨a, kvs, rfl, ha, q⟩ := h
  obtain ⟨u, rfl, ru⟩ := vals1 r
  cases ru
  exact d_len I ha fun t s' I' => ⟨.int kvs.length, H, I', ⟨t, rfl⟩, q⟩
theorem call_lenA {X : Cx} : CallR X (.builtin "len") (rLenA X.K) := call_len.or call_lenR
theorem len_items {d : D} {v : V} {ds : List D} {Q : VK} (s : Same F H) (b : BRep K F H v d) (e : itemsOf d = some ds) (q : Q (.int ds.length) H) : rLenA K [v] H Q := by
  rcases itemsOf_cases e with e | e
  · obtain ⟨a, vs, rfl, h1, h2, h3⟩ := b.list s e
    exact .inl ⟨_, _, rfl, .inl ⟨vs, h1, rfl⟩, by rw [h3.length]; exact q⟩
  · obtain ⟨a, vs, rfl, h1, h2, h3⟩ := b.tuple s e
    exact .inl ⟨_, _, rfl, .inr ⟨vs, h1, rfl⟩, by rw [h3.length]; exact q⟩
theorem BRep.dk {v : V} {ks : List Key} {l : List D} (s : Same F H) (h : BRep K F H v (.dk ks l)) : ∃ a kvs, v = .ref a ∧ Rd H a (.dK kvs) ∧ kvs.length ≤ sizeLine ∧ kvs.map (·.1) = ks ∧ Reps K F (kvs.map (·.2)) l := by
  rcases h with h | ⟨a, ho, o, rfl, h1, h2, e⟩
  · cases h with | dk h1 h2 h3 => exact ⟨_, _, rfl, same_rd s h1, h2, rfl, h3⟩
  · cases o with
    | di l' =>
      cases e
      obtain ⟨kvs, rfl, h3, h4⟩ := h2
      exact ⟨a, kvs, rfl, .inl h1, h3, h4.keys, h4.vals⟩
    | _ => cases e
theorem BRep.dt {v : V} {ks : List (List Key)} {l : List D} (s : Same F H) (h : BRep K F H v (.dt ks l)) : ∃ a kvs, v = .ref a ∧ Rd H a (.dT kvs) ∧ kvs.length ≤ sizeLine ∧ kvs.map (·.1) = ks ∧ Reps K F (kvs.map (·.2)) l := by
  rcases h with h | ⟨a, ho, o, rfl, h1, h2, e⟩
  · cases h with | dt h1 h2 h3 => exact ⟨_, _, rfl, same_rd s h1, h2, rfl, h3⟩
  · cases o with
    | ti l' =>
      cases e
      obtain ⟨kvs, rfl, h3, h4⟩ := h2
      exact ⟨a, kvs, rfl, .inl h1, h3, h4.keys, h4.vals⟩
    | _ => cases e
theorem cs_len : CallS K (rLenA K) fLen := fun F H xs ds Q s bs q => by
  unfold fLen at q
  split at q
  · rename_i d
    obtain ⟨v, rfl, b⟩ := breps_one bs
    have go : ∀ {es : List D}, itemsOf d = some es → lenD d = some (.int es.length) → rLenA K [v] H Q := fun {es} e e2 => by
      rw [e2] at q
      exact len_items s b e (q F H _ (.refl _ _) (.int _))
    cases d with
    | str x =>
      unfold lenD at q
      dsimp only at q
      split at q
      · rename_i h
        cases b.str
        exact .inl ⟨_, _, rfl, ⟨by rw [← big_line]; exact h, rfl⟩, q F H _ (.refl _ _) (.int _)⟩
      · exact q.elim
    | dk ks l =>
      obtain ⟨a, kvs, rfl, h1, h2, h3, h4⟩ := b.dk s
      unfold lenD at q
      dsimp only at q
      split at q
      · have q := q F H _ (.refl _ _) (.int _)
        rw [← h3, List.length_map] at q
        exact .inr ⟨_, _, rfl, h1, q⟩
      · exact q.elim
    | tup l => exact go rfl rfl
    | ktup l => exact go rfl rfl
    | lst l => exact go rfl rfl
    | klst l => exact go rfl rfl
    | _ => exact q.elim
  · exact False.elim q
def kindOf : D → Option String
  | .non => some "NoneType"
  | .bl _ => some "bool"
  | .int _ => some "int"
  | .str _ => some "str"
  | .tup _ => some "tuple"
  | .ktup _ => some "tuple"
  | .lst _ => some "list"
  | _ => none
def isiD (d : D) (T : String) : Option D := match kindOf d with
  | some t => (kitB t T).map .bl
  | none => none
def fIsi (ds : List D) : Rf := match ds with
  | [d, .ty T] => ofOpt (isiD d T)
  | _ => .stuck
theorem kind_ty {v : V} {d : D} {t : String} (s : Same F H) (h : BRep K F H v d) (e : kindOf d = some t) : TyX K H v (.type t) := by
  rcases h with h | ⟨a, ho, o, rfl, h1, h2, rfl⟩
  · cases h with
    | non => cases e; exact .base .non
    | bl b => cases e; exact .base (.bl b)
    | int b => cases e; exact .base (.int b)
    | str b => cases e; exact .base (.str b)
    | tup h => cases e; exact .base (.tup (s _ _ h))
    | ktup h =>
      cases e
      rcases h with ⟨o, h, _⟩ | ⟨o, its, n, h1, h2, _⟩
      · exact .fTuple (s _ _ h)
      · exact .kTuple h1 h2
    | lst h => cases e; exact .base (.lst (s _ _ h))
    | _ => cases e
  · cases o with
    | li l => cases e; obtain ⟨vs, rfl, h3, h4⟩ := h2; exact .base (.lst h1)
    | _ => cases e
theorem BRep.ty {v : V} {n : String} (h : BRep K F H v (.ty n)) : v = .ty n := by
  rcases h with h | ⟨a, ho, o, _, _, _, e⟩
  · cases h; rfl
  · cases o <;> cases e
theorem cs_isi : CallS K (rIsi K) fIsi := fun F H xs ds Q s bs q => by
  unfold fIsi at q
  split at q
  · rename_i d T
    obtain ⟨v, u, rfl, b1, b2⟩ := breps_two bs
    unfold isiD at q
    cases e : kindOf d with
    | none => rw [e] at q; exact q.elim
    | some t =>
      rw [e] at q
      dsimp only at q
      cases e2 : kitB t T with
      | none => rw [e2] at q; exact q.elim
      | some b =>
        rw [e2] at q
        cases b2.ty
        exact ⟨v, .ty T, .type t, .type T, b, rfl, .ty T, kind_ty s b1 e, kit_ty e2, q F H _ (.refl _ _) (.bl _)⟩
  · exact False.elim q
def fList (ds : List D) : Rf := match ds with
  | [d] => match itemsOf d with
    | some es => .ow (.li es)
    | none => .stuck
  | _ => .stuck
theorem cs_list : CallS K (fun xs H Q => ∃ p ys, xs = [.ref p] ∧ (SqL K H p ys ∨ SqT K H p ys) ∧ ∀ l, H l = none → Q (.ref l) (upd H l (.lst ys))) fList := fun F H xs ds Q s bs q => by
  unfold fList at q
  split at q
  · rename_i d
    obtain ⟨v, rfl, b⟩ := breps_one bs
    cases e : itemsOf d with
    | none => rw [e] at q; exact q.elim
    | some es =>
      rw [e] at q
      rcases itemsOf_cases e with e | e
      · obtain ⟨a, vs, rfl, h1, h2, h3⟩ := b.list s e
        exact ⟨a, vs, rfl, .inl h1, fun l hl => q F H l _ (.refl _ _) hl ⟨vs, rfl, h2, h3⟩⟩
      · obtain ⟨a, vs, rfl, h1, h2, h3⟩ := b.tuple s e
        exact ⟨a, vs, rfl, .inr h1, fun l hl => q F H l _ (.refl _ _) hl ⟨vs, rfl, h2, h3⟩⟩
  · exact False.elim q
/-- tuple(x): of a list a new one of which the object is known -/
def tupD (d : D) : Option D := match lstOf d with
  | some es => some (.ktup es)
  | none => match tupOf d with
    | some _ => some d
    | none => none
def fTup (ds : List D) : Rf := match ds with
  | [d] => ofOpt (tupD d)
  | _ => .stuck
def rTupF (K : PySem.W.Frag) : List V → Hp → VK → Prop := fun xs H Q => ∃ p ys, xs = [.ref p] ∧ ((SqL K H p ys ∧ ∀ l o, H l = none → o.dict = none → Q (.ref l) (upd H l (.frz o (.tup ys)))) ∨ (SqT K H p ys ∧ Q (.ref p) H))
theorem cs_tup : CallS K (rTupF K) fTup := fun F H xs ds Q s bs q => by
  unfold fTup at q
  split at q
  · rename_i d
    obtain ⟨v, rfl, b⟩ := breps_one bs
    unfold tupD at q
    cases e : lstOf d with
    | some es =>
      rw [e] at q
      obtain ⟨a, vs, rfl, h1, h2, h3⟩ := b.list s e
      exact ⟨a, vs, rfl, .inl ⟨h1, fun l o hl ho => q _ _ _ (.new (.refl _ _) hl) (.ktup (.inl ⟨o, upd_same, ho⟩) h2 (h3.mono (same_new (s.free hl))))⟩⟩
    | none =>
      rw [e] at q
      dsimp only at q
      cases e2 : tupOf d with
      | none => rw [e2] at q; exact q.elim
      | some es =>
        rw [e2] at q
        obtain ⟨a, vs, rfl, h1, h2, h3⟩ := b.tuple s e2
        refine ⟨a, vs, rfl, .inr ⟨h1, q F H _ (.refl _ _) ?_⟩⟩
        rcases b with b | ⟨a, ho, o, _, _, _, rfl⟩
        · exact b
        · cases o <;> cases e2
  · exact False.elim q
/-- tuple(x): of a list a plain new one (a key, maybe) -/
def tupDP (d : D) : Option D := match lstOf d with
  | some es => some (.tup es)
  | none => match tupOf d with
    | some _ => some d
    | none => none
def fTupP (ds : List D) : Rf := match ds with
  | [d] => ofOpt (tupDP d)
  | _ => .stuck
def intD (d : D) : Option D := match d with
  | .int i => some (.int i)
  | .bl b => some (.int (if b then 1 else 0))
  | _ => none
def fInt (ds : List D) : Rf := match ds with
  | [d] => ofOpt (intD d)
  | _ => .stuck
def fAbs (ds : List D) : Rf := match ds with
  | [.int i] => .fz (.int (if i < 0 then -i else i))
  | _ => .stuck
def fMax2 (ds : List D) : Rf := match ds with
  | [.int i, .int j] => .fz (.int (if j > i then j else i))
  | _ => .stuck
def fMin2 (ds : List D) : Rf := match ds with
  | [.int i, .int j] => .fz (.int (if j < i then j else i))
  | _ => .stuck
def fStrI (ds : List D) : Rf := match ds with
  | [.int i] => if i.natAbs.log2 < 1920 then .fz (.str (toString i)) else .stuck
  | _ => .stuck
def lstInts (d : D) : Option (List Int) := match lstOf d with
  | some ds => intsOf ds
  | none => none
theorem BRep.lints {v : V} {d : D} {ns : List Int} (s : Same F H) (h : BRep K F H v d) (e : lstInts d = some ns) : ∃ a, v = .ref a ∧ SqL K H a (ns.map V.int) := by
  unfold lstInts at e
  cases e1 : lstOf d with
  | none => rw [e1] at e; cases e
  | some ds =>
    rw [e1] at e
    obtain ⟨a, vs, rfl, h1, h2, h3⟩ := h.list s e1
    rw [intsOf_eq e] at h3
    rw [h3.ints_inv] at h1
    exact ⟨a, rfl, h1⟩
def fSum (ds : List D) : Rf := match ds with
  | [d] => match lstInts d with
    | some ns => .fz (.int ns.sum)
    | none => .stuck
  | _ => .stuck
theorem cs_sum : CallS K (rSum K) fSum := fun F H xs ds Q s bs q => by
  unfold fSum at q
  split at q
  · rename_i d
    obtain ⟨v, rfl, b⟩ := breps_one bs
    cases e : lstInts d with
    | none => rw [e] at q; exact q.elim
    | some ns =>
      rw [e] at q
      obtain ⟨a, rfl, h⟩ := b.lints s e
      exact ⟨a, ns, rfl, h, q F H _ (.refl _ _) (.int _)⟩
  · exact False.elim q
def leastI : List Int → Int
  | [] => 0
  | [x] => x
  | x :: y :: r => if leastI (y :: r) < x then leastI (y :: r) else x
def fMin (ds : List D) : Rf := match ds with
  | [d] => match lstInts d with
    | some ns => if ns = [] then .stuck else .fz (.int (leastI ns))
    | none => .stuck
  | _ => .stuck
def bolsOf : List D → Option (List Bool)
  | [] => some []
  | .bl i :: ds => (bolsOf ds).map (i :: ·)
  | _ :: _ => none
theorem bolsOf_eq : ∀ {ds : List D} {ns : List Bool}, bolsOf ds = some ns → ds = ns.map .bl
  | [], _, e => by cases e; rfl
  | d :: ds, _, e => by
    unfold bolsOf at e
    split at e
    · rename_i h; cases h
    · rename_i i ds' h
      cases h
      obtain ⟨ns, e1, rfl⟩ := Option.map_eq_some_iff.mp e
      rw [bolsOf_eq e1]; rfl
    · cases e
theorem bolsOf_map : ∀ ns : List Bool, bolsOf (ns.map .bl) = some ns
  | [] => rfl
  | n :: ns => by show (bolsOf (ns.map .bl)).map (n :: ·) = _; rw [bolsOf_map ns]; rfl
theorem Reps.bols_inv : ∀ {vs : List V} {ns : List Bool}, Reps K F vs (ns.map D.bl) → vs = ns.map V.bl
  | _, [], h => by cases h; rfl
  | _, n :: ns, h => by
    cases h with
    | cons a b => cases a; rw [Reps.bols_inv b]; rfl
def lstBols (d : D) : Option (List Bool) := match lstOf d with
  | some ds => bolsOf ds
  | none => none
theorem BRep.lbols {v : V} {d : D} {ns : List Bool} (s : Same F H) (h : BRep K F H v d) (e : lstBols d = some ns) : ∃ a, v = .ref a ∧ SqL K H a (ns.map V.bl) := by
  unfold lstBols at e
  cases e1 : lstOf d with
  | none => rw [e1] at e; cases e
  | some ds =>
    rw [e1] at e
    obtain ⟨a, vs, rfl, h1, h2, h3⟩ := h.list s e1
    rw [bolsOf_eq e] at h3
    rw [h3.bols_inv] at h1
    exact ⟨a, rfl, h1⟩
def fAll (ds : List D) : Rf := match ds with
  | [d] => match lstBols d with
    | some ns => .fz (.bl (ns.all id))
    | none => .stuck
  | _ => .stuck
def fAny (ds : List D) : Rf := match ds with
  | [d] => match lstBols d with
    | some ns => .fz (.bl (ns.any id))
    | none => .stuck
  | _ => .stuck
theorem cs_all : CallS K (rAll K) fAll := fun F H xs ds Q s bs q => by
  unfold fAll at q
  split at q
  · rename_i d
    obtain ⟨v, rfl, b⟩ := breps_one bs
    cases e : lstBols d with
    | none => rw [e] at q; exact q.elim
    | some ns =>
      rw [e] at q
      obtain ⟨a, rfl, h⟩ := b.lbols s e
      exact ⟨a, ns, rfl, h, q F H _ (.refl _ _) (.bl _)⟩
  · exact False.elim q
end
end Pv

set_option Elab.async false
set_option linter.all false
set_option maxRecDepth 100000
namespace Pv
open PySem PySem.Spec PyProof.Rows L2
def keyOf : D → Option Key
  | .int i => some (.inl i)
  | .str x => some (.inr x)
  | _ => none
def keysOf : List D → Option (List Key)
  | [] => some []
  | d :: ds => match keyOf d, keysOf ds with
    | some k, some ks => some (k :: ks)
    | _, _ => none
def lookA {κ α : Type} [DecidableEq κ] (kvs : List (κ × α)) (k : κ) : Option α := (kvs.find? fun kv => decide (kv.1 = k)).map (·.2)
def putA {κ α : Type} [DecidableEq κ] (kvs : List (κ × α)) (k : κ) (v : α) : List (κ × α) :=
  if (kvs.any fun kv => decide (kv.1 = k)) = true then kvs.map (fun kv => if kv.1 = k then (kv.1, v) else kv) else kvs ++ [(k, v)]
section
variable {K : PySem.W.Frag} {F H : Hp}
theorem keyOf_rep {v : V} {d : D} {k : Key} (r : Rep K F v d) (e : keyOf d = some k) : v = kV k := by
  cases r with
  | int i => cases e; rfl
  | str x => cases e; rfl
  | _ => cases e
theorem keysOf_reps : ∀ {vs : List V} {ds : List D} {ks : List Key}, Reps K F vs ds → keysOf ds = some ks → vs = ks.map kV
  | _, _, _, .nil, e => by cases e; rfl
  | _, _, _, .cons (d := d) (ds := ds) a b, e => by
    unfold keysOf at e
    cases e1 : keyOf d with
    | none => rw [e1] at e; cases e
    | some k =>
      cases e2 : keysOf ds with
      | none => rw [e1, e2] at e; cases e
      | some ks =>
        rw [e1, e2] at e
        cases e
        rw [keyOf_rep a e1, keysOf_reps b e2]
        rfl
/-- a tuple that is a key -/
theorem keyTup {v : V} {ds : List D} {ks : List Key} (r : Rep K F v (.tup ds)) (e : keysOf ds = some ks) : ∃ b, v = .ref b ∧ F b = some (.tup (ks.map kV)) := by
  cases r with
  | tup h1 h2 h3 =>
    rw [keysOf_reps h3 e] at h1
    exact ⟨_, rfl, h1⟩
theorem look_reps {κ : Type} [DecidableEq κ] : ∀ {kvs : List (κ × V)} {l : List D} (k : κ), Reps K F (kvs.map (·.2)) l → (∀ {v}, valV kvs k = some v → ∃ d, lookA ((kvs.map (·.1)).zip l) k = some d ∧ Rep K F v d) ∧ (valV kvs k = none → lookA ((kvs.map (·.1)).zip l) k = none)
  | [], _, k, h => by
    cases h
    exact ⟨fun e => absurd e (by simp [valV]), fun _ => rfl⟩
  | p :: kvs, l, k, h => by
    rw [List.map_cons] at h
    cases h with
    | @cons _ _ d ds a b =>
      obtain ⟨i1, i2⟩ := look_reps k b
      rw [List.map_cons, List.zip_cons_cons]
      by_cases e : p.1 = k
      · rw [valV_pos e]
        have : lookA ((p.1, d) :: (kvs.map (·.1)).zip ds) k = some d := by simp [lookA, List.find?_cons, e]
        rw [this]
        exact ⟨fun q => by cases q; exact ⟨d, rfl, a⟩, fun q => (nomatch q)⟩
      · rw [valV_neg e]
        have : lookA ((p.1, d) :: (kvs.map (·.1)).zip ds) k = lookA ((kvs.map (·.1)).zip ds) k := by simp [lookA, List.find?_cons, e]
        rw [this]
        exact ⟨i1, i2⟩
/-- what a dict holds -/
def dLook (a b : D) : Option (Option D) := match a with
  | .dk ks l => match keyOf b with
    | some k => some (lookA (ks.zip l) k)
    | none => none
  | .dt ks l => match b with
    | .tup ds => match keysOf ds with
      | some k => some (lookA (ks.zip l) k)
      | none => none
    | _ => none
  | _ => none
def OptR (K : PySem.W.Frag) (F : Hp) : Option V → Option D → Prop
  | some v, some d => Rep K F v d
  | none, none => True
  | _, _ => False
theorem dLook_ok {x y : V} {a b : D} {r : Option D} (s : Same F H) (ra : BRep K F H x a) (rb : BRep K F H y b) (e : dLook a b = some r) : ∃ p o, x = .ref p ∧ DGet H p y o ∧ OptR K F o r := by
  have fin : ∀ {κ : Type} [DecidableEq κ] {kvs : List (κ × V)} {l : List D} (k : κ), Reps K F (kvs.map (·.2)) l → OptR K F (valV kvs k) (lookA ((kvs.map (·.1)).zip l) k) := fun {κ _ kvs l} k h => by
    obtain ⟨h1, h2⟩ := look_reps k h
    cases q : valV kvs k with
    | none => rw [h2 q]; exact True.intro
    | some v =>
      obtain ⟨d, e1, e2⟩ := h1 q
      rw [e1]
      exact e2
  unfold dLook at e
  split at e
  · rename_i ks l
    cases e1 : keyOf b with
    | none => rw [e1] at e; cases e
    | some k =>
      rw [e1] at e
      cases e
      obtain ⟨p, kvs, rfl, h1, h2, h3, h4⟩ := ra.dk s
      subst h3
      have ey : y = kV k := keyOf_rep (rb.up s) e1
      exact ⟨p, valV kvs k, rfl, .inl ⟨kvs, k, h1, ey, rfl⟩, fin k h4⟩
  · rename_i ks l
    split at e
    · rename_i ds
      cases e1 : keysOf ds with
      | none => rw [e1] at e; cases e
      | some k =>
        rw [e1] at e
        cases e
        obtain ⟨p, kvs, rfl, h1, h2, h3, h4⟩ := ra.dt s
        subst h3
        obtain ⟨b, rfl, hb⟩ := keyTup (rb.up s) e1
        exact ⟨p, valV kvs k, rfl, .inr ⟨kvs, k, b, h1, rfl, hb, rfl⟩, fin k h4⟩
    · cases e
  · cases e
def rDGet : R2 := fun x y H Q => ∃ a v, x = .ref a ∧ DGet H a y (some v) ∧ Q v H
def opDGet (a b : D) : Option D := match dLook a b with
  | some (some d) => some d
  | _ => none
theorem os_dget : OpS K rDGet opDGet := fun F H x y a b c Q s ra rb e q => by
  unfold opDGet at e
  cases e1 : dLook a b with
  | none => rw [e1] at e; cases e
  | some r =>
    obtain ⟨p, o, rfl, h1, h2⟩ := dLook_ok s ra rb e1
    rw [e1] at e
    cases r with
    | none => cases e
    | some d =>
      cases e
      cases o with
      | none => exact h2.elim
      | some v => exact ⟨p, v, rfl, h1, q F H v (.refl _ _) h2⟩
/-- x in y -/
def rDInR (neg : Bool) : R2 := fun y x H Q => ∃ a o, x = .ref a ∧ DGet H a y o ∧ Q (.bl (if neg then !o.isSome else o.isSome)) H
def inD (a b : D) : Option Bool := match dLook b a with
  | some r => some r.isSome
  | none => match lstOf b with
    | some ds => match toPy a, toPys ds with
      | some p, some qs => if (SeqAt.shaped p && SeqAt.shaped (.list qs)) = true then some (qs.any fun z => PyData.eqv z p) else none
      | _, _ => none
    | none => none
def opIn (a b : D) : Option D := (inD a b).map .bl
def opNotIn (a b : D) : Option D := (inD a b).map fun x => .bl (!x)
def rInA (K : PySem.W.Frag) : R2 := fun x y H Q => rInD K x y H Q ∨ rDInR false x y H Q
def rNotInA (K : PySem.W.Frag) : R2 := fun x y H Q => rNotInD K x y H Q ∨ rDInR true x y H Q
theorem op_inA {X : Cx} (hu : X.A.units + 65 < cLine) : OpR X (compareOp .In) (rInA X.K) := (op_inD hu).or (by
  intro pins s σ H x y v u Q I rx ry h
  obtain ⟨a, o, rfl, g, q⟩ := h
  cases ry
  exact d_in (by omega) I g rx fun s' I' => ⟨.bl o.isSome, H, I', rfl, q⟩)
theorem op_notInA {X : Cx} (hu : X.A.units + 65 < cLine) : OpR X (compareOp .NotIn) (rNotInA X.K) := (op_notInD hu).or (by
  intro pins s σ H x y v u Q I rx ry h
  obtain ⟨a, o, rfl, g, q⟩ := h
  cases ry
  exact d_notIn (by omega) I g rx fun s' I' => ⟨.bl (!o.isSome), H, I', rfl, q⟩)
theorem inD_cases {x y : V} {a b : D} {r : Bool} (s : Same F H) (ra : BRep K F H x a) (rb : BRep K F H y b) (e : inD a b = some r) : (∃ p o, y = .ref p ∧ DGet H p x o ∧ o.isSome = r) ∨ ∃ d ds, Dp K H x d ∧ Dp K H y (.list ds) ∧ SeqAt.shaped d = true ∧ SeqAt.shaped (.list ds) = true ∧ (ds.any fun z => PyData.eqv z d) = r := by
  unfold inD at e
  cases e1 : dLook b a with
  | some q =>
    rw [e1] at e
    cases e
    obtain ⟨p, o, rfl, h1, h2⟩ := dLook_ok s rb ra e1
    refine .inl ⟨p, o, rfl, h1, ?_⟩
    cases o with
    | none => cases q with | none => rfl | some _ => exact h2.elim
    | some _ => cases q with | none => exact h2.elim | some _ => rfl
  | none =>
    rw [e1] at e
    dsimp only at e
    cases e2 : lstOf b with
    | none => rw [e2] at e; cases e
    | some ds =>
      rw [e2] at e
      dsimp only at e
      cases e3 : toPy a with
      | none => rw [e3] at e; cases e
      | some p =>
        cases e4 : toPys ds with
        | none => rw [e3, e4] at e; cases e
        | some qs =>
          rw [e3, e4] at e
          dsimp only at e
          split at e
          · rename_i h
            rw [Bool.and_eq_true] at h
            cases e
            obtain ⟨p', vs, rfl, h1, h2, h3⟩ := rb.list s e2
            exact .inr ⟨p, qs, ra.dp s e3, .lst h1 ((h3.mono s).dp e4), h.1, h.2, rfl⟩
          · cases e
theorem os_in : OpS K (rInA K) opIn := fun F H x y a b c Q s ra rb e q => by
  unfold opIn at e
  obtain ⟨r, e1, rfl⟩ := Option.map_eq_some_iff.mp e
  rcases inD_cases s ra rb e1 with ⟨p, o, rfl, h1, h2⟩ | ⟨d, ds, h1, h2, h3, h4, h5⟩
  · exact .inr ⟨p, o, rfl, h1, by rw [h2]; exact q F H _ (.refl _ _) (.bl _)⟩
  · exact .inl ⟨d, ds, h1, h2, h3, h4, by rw [h5]; exact q F H _ (.refl _ _) (.bl _)⟩
theorem os_notIn : OpS K (rNotInA K) opNotIn := fun F H x y a b c Q s ra rb e q => by
  unfold opNotIn at e
  obtain ⟨r, e1, rfl⟩ := Option.map_eq_some_iff.mp e
  rcases inD_cases s ra rb e1 with ⟨p, o, rfl, h1, h2⟩ | ⟨d, ds, h1, h2, h3, h4, h5⟩
  · exact .inr ⟨p, o, rfl, h1, by rw [h2]; exact q F H _ (.refl _ _) (.bl _)⟩
  · exact .inl ⟨d, ds, h1, h2, h3, h4, by rw [h5]; exact q F H _ (.refl _ _) (.bl _)⟩
def cutD (ds : List D) (lo hi : Option Int) : List D := (ds.drop (HT.sIx ds.length 0 lo)).take (HT.sIx ds.length ds.length hi - HT.sIx ds.length 0 lo)
theorem Reps.cut {vs : List V} {ds : List D} (r : Reps K F vs ds) (lo hi : Option Int) : Reps K F (cutV vs lo hi) (cutD ds lo hi) := by
  unfold cutV cutD
  rw [r.length]
  exact (r.drop _).take _
/-- a slice of a list (new), of a tuple: the whole is itself; kn: the new object is known -/
def opSl (kn : Bool) (d : D) (lo hi : Option Int) : Option D := match lstOf d with
  | some ds => some (.lst (cutD ds lo hi))
  | none => match tupOf d with
    | some ds => if HT.sIx ds.length 0 lo = 0 ∧ HT.sIx ds.length ds.length hi = ds.length then some d else some (if kn then .ktup (cutD ds lo hi) else .tup (cutD ds lo hi))
    | none => none
def SlS (K : PySem.W.Frag) (r : V → Option Int → Option Int → Hp → VK → Prop) (op : D → Option Int → Option Int → Option D) : Prop :=
  ∀ F H x a lo hi c Q, Same F H → BRep K F H x a → op a lo hi = some c → (∀ F' H' v, Grow F H F' H' → Rep K F' v c → Q v H') → r x lo hi H Q
def rSlAF (K : PySem.W.Frag) (x : V) (lo hi : Option Int) (H : Hp) (Q : VK) : Prop := rSlL K x lo hi H Q ∨ rSlF K x lo hi H Q
def rSlAP (K : PySem.W.Frag) (x : V) (lo hi : Option Int) (H : Hp) (Q : VK) : Prop := rSlL K x lo hi H Q ∨ rSlA K x lo hi H Q
theorem sl_AF {X : Cx} : SlR X (rSlAF X.K) := sl_list.or sl_tupF
theorem sl_AP {X : Cx} : SlR X (rSlAP X.K) := sl_list.or sl_tupA
theorem tup_rep {v : V} {d : D} {ds : List D} (h : BRep K F H v d) (e : tupOf d = some ds) : Rep K F v d := by
  rcases h with h | ⟨a, ho, o, _, _, _, rfl⟩
  · exact h
  · cases o <;> cases e
theorem ss_AF : SlS K (rSlAF K) (opSl true) := fun F H x a lo hi c Q s ra e q => by
  unfold opSl at e
  cases e1 : lstOf a with
  | some ds =>
    rw [e1] at e
    cases e
    obtain ⟨p, vs, rfl, h1, h2, h3⟩ := ra.list s e1
    exact .inl ⟨p, vs, rfl, h1, fun r hr => q _ _ _ (.new (.refl _ _) hr) (.lst upd_same (Nat.le_trans (cutV_length vs lo hi) h2) ((h3.cut lo hi).mono (same_new (s.free hr))))⟩
  | none =>
    rw [e1] at e
    dsimp only at e
    cases e2 : tupOf a with
    | none => rw [e2] at e; cases e
    | some ds =>
      rw [e2] at e
      obtain ⟨p, vs, rfl, h1, h2, h3⟩ := ra.tuple s e2
      refine .inr ⟨p, vs, rfl, h1, fun hw => ?_, fun hw r o hr ho => ?_⟩
      · rw [h3.length] at hw
        dsimp only at e
        rw [if_pos hw] at e
        cases e
        exact q F H _ (.refl _ _) (tup_rep ra e2)
      · rw [h3.length] at hw
        dsimp only at e
        rw [if_neg hw] at e
        cases e
        exact q _ _ _ (.new (.refl _ _) hr) (.ktup (.inl ⟨o, upd_same, ho⟩) (Nat.le_trans (cutV_length vs lo hi) h2) ((h3.cut lo hi).mono (same_new (s.free hr))))
theorem ss_AP : SlS K (rSlAP K) (opSl false) := fun F H x a lo hi c Q s ra e q => by
  unfold opSl at e
  cases e1 : lstOf a with
  | some ds =>
    rw [e1] at e
    cases e
    obtain ⟨p, vs, rfl, h1, h2, h3⟩ := ra.list s e1
    exact .inl ⟨p, vs, rfl, h1, fun r hr => q _ _ _ (.new (.refl _ _) hr) (.lst upd_same (Nat.le_trans (cutV_length vs lo hi) h2) ((h3.cut lo hi).mono (same_new (s.free hr))))⟩
  | none =>
    rw [e1] at e
    dsimp only at e
    cases e2 : tupOf a with
    | none => rw [e2] at e; cases e
    | some ds =>
      rw [e2] at e
      obtain ⟨p, vs, rfl, h1, h2, h3⟩ := ra.tuple s e2
      refine .inr ⟨p, vs, rfl, h1, fun hw => ?_, fun hw r hr => ?_⟩
      · rw [h3.length] at hw
        dsimp only at e
        rw [if_pos hw] at e
        cases e
        exact q F H _ (.refl _ _) (tup_rep ra e2)
      · rw [h3.length] at hw
        dsimp only at e
        rw [if_neg hw] at e
        cases e
        exact q _ _ _ (.new (.refl _ _) hr) (.tup upd_same (Nat.le_trans (cutV_length vs lo hi) h2) ((h3.cut lo hi).mono (same_new (s.free hr))))
end
/-- a slice's part -/
def pNo : Envi → R (Option Int) := fun ρ => .ok none ρ
def pSome (f : Envi → R Hd) : Envi → R (Option Int) := fun ρ => (f ρ).frz.bind fun h ρ1 => match deref ρ1 h with
  | some (.int i) => .ok (some i) ρ1
  | _ => .stuck
def eSl (op : D → Option Int → Option Int → Option D) (f : Envi → R Hd) (lo hi : Envi → R (Option Int)) : Envi → R Hd := fun ρ => (f ρ).frz.bind fun h ρ1 => (lo ρ1).bind fun l ρ2 => (hi ρ2).bind fun u ρ3 => match deref ρ3 h with
  | some d => opt1 ρ3 (op d l u)
  | none => .stuck
section
variable {P : Pr} {m : Bool} {W : WX} {te ta tb : TE} {f g : Envi → R Hd}
def SndO (P : Pr) (m : Bool) (W : WX) (to : TO) (f : Envi → R (Option Int)) : Prop :=
  ∀ B F0 F H σ ob ρ Q, Wf P B F0 F H σ ob ρ → Post P B F0 F σ ob m W (fun B' _ _ (v : Option Int) d => B' = B ∧ v = d) Q (f ρ) → to σ H Q
theorem snd_pno : SndO P m W tNoPart pNo := fun B F0 F H σ ob ρ Q w q => q B F H ob none w (Same.refl _) (fun _ => rfl) ⟨rfl, rfl⟩
theorem snd_psome (h : SndE P m W te f) : SndO P m W (tPart te) (pSome f) := fun B F0 F H σ ob ρ Q w q => by
  refine h.frz B F0 F H σ ob ρ _ w (Post.of_bind q ?_)
  rintro k ρ2 B' F2 H2 ob2 y w2 s2 i2 ⟨rfl, r2⟩ q
  cases d1 : deref ρ2 k with
  | none => simp only [d1] at q; exact q.elim
  | some a =>
    have x := w2.deref r2 d1
    simp only [d1] at q
    cases a with
    | int i => exact ⟨i, x.int, q _ F2 H2 ob2 (some i) w2 s2 i2 ⟨rfl, rfl⟩⟩
    | _ => exact q.elim
theorem snd_sl {r : V → Option Int → Option Int → Hp → VK → Prop} {op : D → Option Int → Option Int → Option D} {tl th : TO} {lo hi : Envi → R (Option Int)} (ho : SlS P.K r op) (ha : SndE P false W te f) (hl : SndO P false W tl lo) (hh : SndO P false W th hi) : SndE P m W (tSl r te tl th) (eSl op f lo hi) := by
  refine SndE.up fun B F0 F H σ ob ρ Q w q => ?_
  refine ha.frz B F0 F H σ ob ρ _ w (Post.of_bind q ?_)
  rintro k ρ2 B' F2 H2 ob2 y w2 s2 i2 ⟨rfl, r2⟩ q
  refine hl _ F0 F2 H2 σ ob2 ρ2 _ w2 (Post.of_bind (q.shift s2 i2) ?_)
  rintro l ρ3 B' F3 H3 ob3 z w3 s3 i3 ⟨rfl, rfl⟩ q
  refine hh _ F0 F3 H3 σ ob3 ρ3 _ w3 (Post.of_bind (q.shift s3 i3) ?_)
  rintro u ρ4 B' F4 H4 ob4 z2 w4 s4 i4 ⟨rfl, rfl⟩ q
  have r4 := r2.mono (s3.trans s4) ((i4 rfl).trans (i3 rfl))
  cases d1 : deref ρ4 k with
  | none => simp only [d1] at q; exact q.elim
  | some a =>
    simp only [d1] at q
    have q := q.shift (Same.refl _) (fun _ => rfl)
    exact opt_post (r := fun Q => r y z z2 H4 Q) w4 s4 i4 q fun c e hq => ho F4 H4 y a z z2 c Q w4.fh (w4.deref r4 d1) e hq
end
end Pv

set_option Elab.async false
set_option linter.all false
set_option maxRecDepth 100000
namespace Pv
open PySem PySem.Spec PyProof.Rows L2
def SndP (P : Pr) (te : TE) (k : Nat) (ok : Envi → Bool) : Prop :=
  ∀ B F0 F H σ ob ρ Q v, Wf P B F0 F H σ ob ρ → ok ρ = true → (tau σ ob)[k]? = some (some v) → Q v H → te σ H Q
def okT : Envi → Bool := fun _ => true
def ownTy : Own → String
  | .li _ => "list"
  | _ => "dict"
def MutS (K : PySem.W.Frag) (r : V → List V → Hp → VK → Prop) (mu : Own → List D → Option (D × Own)) : Prop :=
  ∀ F H a ho o vs ds d o' Q, Same F H → H a = some ho → F a = none → OwnR K F ho o → Reps K F vs ds → mu o ds = some (d, o') → (∀ ho' v, OwnR K F ho' o' → Rep K F v d → Q v (upd H a ho')) → r (.ref a) vs H Q
def mutEnd (k : Nat) (mu : Own → List D → Option (D × Own)) (ρ : Envi) (ds : List D) : R Hd := match ρ[k]? with
  | some (.ow o) => match mu o ds with
    | some (d, o') => .ok (.dat d) (ρ.set k (.ow o'))
    | none => .stuck
  | _ => .stuck
def isTy (T : String) (ρ : Envi) (k : Nat) : Bool := match ρ[k]? with
  | some (.ow o) => ownTy o == T
  | _ => false
def eMut (k : Nat) (ok : Envi → Bool) (T : String) (mu : Own → List D → Option (D × Own)) (fa : Envi → R (List Hd)) : Envi → R Hd := fun ρ =>
  if (ok ρ && isTy T ρ k) = true then (fa ρ).bind fun hs ρ1 => match matAll ρ1 hs with
    | some (ds, ρ2) => mutEnd k mu ρ2 ds
    | none => .stuck
  else .stuck
section
variable {P : Pr} {m : Bool} {W : WX} {te ta tb to : TE} {f g : Envi → R Hd} {n : Nat} {fa : Envi → R (List Hd)} {tr : TA} {B F0 F H : Hp} {σ : L2.St} {ob : Ob} {ρ : Envi}
theorem sp_var {k : Nat} (hk : k < P.n) : SndP P (tVar k) k okT := fun B F0 F H σ ob ρ Q v w _ e q => by
  rw [tau_lt (by rw [w.n]; exact hk)] at e
  exact ⟨v, e, q⟩
theorem own_tyV {K : PySem.W.Frag} {ho : HO} {a : Addr} : ∀ {o : Own}, OwnR K F ho o → H a = some ho → tyV K (ownTy o) (.ref a) H
  | .li _, ⟨vs, h1, h2, h3⟩, h => by subst h1; exact .inl ⟨rfl, vs, .inl (.inl h)⟩
  | .di _, ⟨vs, h1, h2, h3⟩, h => by subst h1; exact .inr (.inr (.inl ⟨rfl, .inl ⟨vs, h⟩⟩))
  | .ti _, ⟨vs, h1, h2, h3⟩, h => by subst h1; exact .inr (.inr (.inl ⟨rfl, .inr ⟨vs, h⟩⟩))
theorem isTy_own {T : String} {k : Nat} (h : isTy T ρ k = true) : ∃ o, ρ[k]? = some (.ow o) ∧ ownTy o = T := by
  unfold isTy at h
  split at h
  · rename_i o e
    exact ⟨o, e, by simpa using h⟩
  · cases h
/-- the value at a place stays -/
theorem tau_keep {ob' : Ob} {k : Nat} {v : V} {F2 H2 : Hp} {ρ2 : Envi} (w : Wf P B F0 F H σ ob ρ) (hk : m = false ∨ k < P.n) (i : m = false → ob' = ob) (e : (tau σ ob)[k]? = some (some v)) : (tau σ ob')[k]? = some (some v) := by
  rcases hk with h | h
  · rw [i h]; exact e
  · have hl : k < σ.length := by rw [w.n]; exact h
    rw [tau_lt hl] at e ⊢
    exact e
theorem mut_end {k : Nat} {r : V → List V → Hp → VK → Prop} {mu : Own → List D → Option (D × Own)} {v : V} {vs : List V} {ds : List D} {Q : VK} {F1 : Hp} {ob1 : Ob} {α : Type} (hm : MutS P.K r mu) (w : Wf P B F0 F H σ ob ρ) (s : Same F1 F) (i : m = false → ob = ob1) (ev : (tau σ ob)[k]? = some (some v)) (rs : Reps P.K F vs ds)
    (q : Post P B F0 F1 σ ob1 m W (RelE P B σ) Q (mutEnd k mu ρ ds)) : r v vs H Q := by
  unfold mutEnd at q
  cases e : ρ[k]? with
  | none => rw [e] at q; exact q.elim
  | some sl =>
    rw [e] at q
    cases sl with
    | ow o =>
      dsimp only at q
      cases e2 : mu o ds with
      | none => rw [e2] at q; exact q.elim
      | some x =>
        obtain ⟨d, o'⟩ := x
        rw [e2] at q
        obtain ⟨a, ho, h1, h2, h3, h4, h5, h6, h7⟩ := w.owned e
        rw [ev] at h1
        cases h1
        exact hm F H a ho o vs ds d o' Q w.fh h2 h4 h3 rs e2 fun ho' u r1 r2 => q B F (upd H a ho') ob u (h6 ho' o' r1) s i ⟨rfl, r2⟩
    | _ => exact q.elim
theorem snd_mut {k : Nat} {ok : Envi → Bool} {T : String} {r : V → List V → Hp → VK → Prop} {mu : Own → List D → Option (D × Own)} (hp : SndP P to k ok) (hm : MutS P.K r mu) (ha : SndA P m W n tr fa) (hk : m = false ∨ k < P.n) : SndE P m W (tBM P.K T r to tr) (eMut k ok T mu fa) := fun B F0 F H σ ob ρ Q w q => by
  unfold eMut at q
  split at q
  · rename_i hc
    rw [Bool.and_eq_true] at hc
    obtain ⟨o, e, et⟩ := isTy_own hc.2
    obtain ⟨a, ho, h1, h2, h3, h4, h5, h6, h7⟩ := w.owned e
    refine hp B F0 F H σ ob ρ _ _ w hc.1 h1 ⟨by rw [← et]; exact own_tyV h3 h2, ?_⟩
    refine ha B F0 F H σ ob ρ _ w (Post.of_bind (k := fun hs ρ1 => match matAll ρ1 hs with | some (ds, ρ2) => mutEnd k mu ρ2 ds | none => R.stuck) q ?_)
    rintro hs ρ2 B' F2 H2 ob2 ys w2 s2 i2 ⟨⟨rfl, r2⟩, hl⟩ q
    cases e2 : matAll ρ2 hs with
    | none => rw [e2] at q; exact q.elim
    | some x =>
      obtain ⟨ds, ρ3⟩ := x
      rw [e2] at q
      obtain ⟨F3, w3, s3, r3⟩ := w2.matAll r2 e2
      exact mut_end (α := Nat) hm w3 (s2.trans s3) i2 (tau_keep (F2 := F) (H2 := H) (ρ2 := ρ) w hk i2 h1) r3 q
  · exact q.elim
def eMut0 (k : Nat) (ok : Envi → Bool) (T : String) (mu : Own → List D → Option (D × Own)) : Envi → R Hd := fun ρ => if (ok ρ && isTy T ρ k) = true then mutEnd k mu ρ [] else .stuck
theorem snd_mut0 {k : Nat} {ok : Envi → Bool} {T : String} {r : V → List V → Hp → VK → Prop} {mu : Own → List D → Option (D × Own)} (hp : SndP P to k ok) (hm : MutS P.K r mu) : SndE P m W (tBM0 P.K T r to) (eMut0 k ok T mu) := fun B F0 F H σ ob ρ Q w q => by
  unfold eMut0 at q
  split at q
  · rename_i hc
    rw [Bool.and_eq_true] at hc
    obtain ⟨o, e, et⟩ := isTy_own hc.2
    obtain ⟨a, ho, h1, h2, h3, h4, h5, h6, h7⟩ := w.owned e
    refine hp B F0 F H σ ob ρ _ _ w hc.1 h1 ⟨by rw [← et]; exact own_tyV h3 h2, ?_⟩
    exact mut_end (α := Nat) hm w (Same.refl _) (fun _ => rfl) h1 .nil q
  · exact q.elim
def muAppend (o : Own) (ds : List D) : Option (D × Own) := match o, ds with
  | .li l, [d] => if l.length < big then some (.non, .li (l ++ [d])) else none
  | _, _ => none
theorem ms_append {K : PySem.W.Frag} : MutS K rAppend muAppend := fun F H a ho o vs ds d o' Q s h1 h2 h3 rs e q => by
  unfold muAppend at e
  split at e
  · rename_i l x
    split at e
    · rename_i hl
      cases e
      obtain ⟨us, rfl, h4, h5⟩ := h3
      cases rs with
      | cons r1 r2 =>
        cases r2
        have := h5.length
        exact ⟨a, us, _, rfl, rfl, h1, by rw [← big_line]; omega, q _ .non ⟨_, rfl, by rw [List.length_append, ← big_line]; show us.length + 1 ≤ big; omega, h5.append (.cons r1 .nil)⟩ .non⟩
    · cases e
  · cases e
def muExtend (o : Own) (ds : List D) : Option (D × Own) := match o, ds with
  | .li l, [.lst x] => if l.length + x.length ≤ big then some (.non, .li (l ++ x)) else none
  | _, _ => none
theorem ms_extend {K : PySem.W.Frag} : MutS K rExtend muExtend := fun F H a ho o vs ds d o' Q s h1 h2 h3 rs e q => by
  unfold muExtend at e
  split at e
  · rename_i l x
    split at e
    · rename_i hl
      cases e
      obtain ⟨us, rfl, h4, h5⟩ := h3
      cases rs with
      | cons r1 r2 =>
        cases r2
        cases r1 with
        | @lst b zs _ g1 g2 g3 =>
          have := h5.length
          have := g3.length
          exact ⟨a, b, us, zs, rfl, rfl, h1, s _ _ g1, by rw [← big_line]; omega, q _ .non ⟨_, rfl, by rw [List.length_append, ← big_line]; omega, h5.append g3⟩ .non⟩
    · cases e
  · cases e
def muPop (o : Own) (ds : List D) : Option (D × Own) := match o, ds with
  | .li l, [] => match l[l.length - 1]? with
    | some d => some (d, .li l.dropLast)
    | none => none
  | _, _ => none
theorem ms_pop {K : PySem.W.Frag} : MutS K rPop muPop := fun F H a ho o vs ds d o' Q s h1 h2 h3 rs e q => by
  unfold muPop at e
  split at e
  · rename_i l
    cases e1 : l[l.length - 1]? with
    | none => rw [e1] at e; cases e
    | some x =>
      rw [e1] at e
      cases e
      obtain ⟨us, rfl, h4, h5⟩ := h3
      cases rs
      obtain ⟨v, e2, r⟩ := h5.get e1
      rw [← h5.length] at e2
      exact ⟨a, us, v, rfl, rfl, h1, e2, q _ v ⟨_, rfl, by rw [List.length_dropLast]; omega, h5.dropLast⟩ r⟩
  · cases e
def muPopAt (o : Own) (ds : List D) : Option (D × Own) := match o, ds with
  | .li l, [.int i] => if 0 ≤ i ∧ i < l.length ∧ l.length ≤ big then match l[i.toNat]? with
      | some d => some (d, .li (l.eraseIdx i.toNat))
      | none => none
    else none
  | _, _ => none
theorem ms_popAt {K : PySem.W.Frag} : MutS K rPopAt muPopAt := fun F H a ho o vs ds d o' Q s h1 h2 h3 rs e q => by
  unfold muPopAt at e
  split at e
  · rename_i l i
    split at e
    · rename_i hi
      cases e1 : l[i.toNat]? with
      | none => rw [e1] at e; cases e
      | some x =>
        rw [e1] at e
        cases e
        obtain ⟨us, rfl, h4, h5⟩ := h3
        cases rs with
        | cons r1 r2 =>
          cases r2
          cases r1
          obtain ⟨v, e2, r⟩ := h5.get e1
          have := h5.length
          have hb : big = 16777216 := rfl
          have ix : ixN us.length i = some i.toNat := by
            unfold ixN
            rw [if_pos hi.1, if_pos (by omega)]
          exact ⟨a, us, i, i.toNat, v, rfl, rfl, h1, by omega, by omega, (ixN_seq ix).1, e2, q _ v ⟨_, rfl, Nat.le_trans (len_erase us i.toNat) h4, h5.eraseIdx _⟩ r⟩
    · cases e
  · cases e
def MethS (K : PySem.W.Frag) (r : V → List V → Hp → VK → Prop) (op : D → List D → Option D) : Prop :=
  ∀ F H x a xs ds c Q, Same F H → BRep K F H x a → BReps K F H xs ds → op a ds = some c → (∀ F' H' v, Grow F H F' H' → Rep K F' v c → Q v H') → r x xs H Q
def tyD (T : String) (d : D) : Bool := match d with
  | .lst _ => T == "list"
  | .klst _ => T == "list"
  | .str _ => T == "str"
  | _ => false
theorem tyD_V {K : PySem.W.Frag} {T : String} {v : V} {d : D} (s : Same F H) (b : BRep K F H v d) (h : tyD T d = true) : tyV K T v H := by
  unfold tyD at h
  split at h
  · obtain ⟨a, vs, rfl, h1, _, _⟩ := b.list s rfl
    exact .inl ⟨by simpa using h, vs, h1⟩
  · obtain ⟨a, vs, rfl, h1, _, _⟩ := b.list s rfl
    exact .inl ⟨by simpa using h, vs, h1⟩
  · cases b.str
    exact (by simpa using h : T = "str")
  · cases h
def lookEnd (op : D → List D → Option D) (ρ : Envi) (h : Hd) (hs : List Hd) : R Hd := match deref ρ h, derefAll ρ hs with
  | some a, some ds => opt1 ρ (op a ds)
  | _, _ => .stuck
def chk (c : D → Bool) (ρ : Envi) (h : Hd) : Bool := match deref ρ h with
  | some d => c d
  | none => false
def eMeth (c : D → Bool) (op : D → List D → Option D) (f : Envi → R Hd) (fa : Envi → R (List Hd)) : Envi → R Hd := fun ρ => (f ρ).frz.bind fun h ρ1 => if chk c ρ1 h = true then (fa ρ1).bind fun hs ρ2 => lookEnd op ρ2 h hs else .stuck
theorem chk_some {c : D → Bool} {h : Hd} (e : chk c ρ h = true) : ∃ d, deref ρ h = some d ∧ c d = true := by
  unfold chk at e
  cases q : deref ρ h with
  | none => rw [q] at e; cases e
  | some d => rw [q] at e; exact ⟨d, rfl, e⟩
theorem snd_bm {T : String} {r : V → List V → Hp → VK → Prop} {op : D → List D → Option D} (hm : MethS P.K r op) (ho : SndE P false W to f) (ha : SndA P false W n tr fa) : SndE P m W (tBM P.K T r to tr) (eMeth (tyD T) op f fa) := by
  refine SndE.up fun B F0 F H σ ob ρ Q w q => ?_
  refine ho.frz B F0 F H σ ob ρ _ w (Post.of_bind q ?_)
  rintro k ρ2 B' F2 H2 ob2 y w2 s2 i2 ⟨rfl, r2⟩ q
  split at q
  · rename_i hc
    obtain ⟨d, e1, e2⟩ := chk_some hc
    refine ⟨tyD_V w2.fh (w2.deref r2 e1) e2, ?_⟩
    refine ha _ F0 F2 H2 σ ob2 ρ2 _ w2 (Post.of_bind (q.shift s2 i2) ?_)
    rintro hs ρ3 B' F3 H3 ob3 ys w3 s3 i3 ⟨⟨rfl, r3⟩, hl⟩ q
    have r2' := r2.mono s3 (i3 rfl)
    unfold lookEnd at q
    cases d1 : deref ρ3 k with
    | none => rw [d1] at q; exact q.elim
    | some a =>
      cases d2 : derefAll ρ3 hs with
      | none => rw [d1, d2] at q; exact q.elim
      | some ds =>
        rw [d1, d2] at q
        exact opt_post (r := fun Q => r y ys H3 Q) w3 s3 i3 q fun c e hq => hm F3 H3 y a ys ds c Q w3.fh (w3.deref r2' d1) (w3.derefAll r3 d2) e hq
  · exact q.elim
def isKT : D → Bool
  | .ktup _ => true
  | _ => false
/-- the first place of an equal one -/
def firstIx (p : PyData) : List PyData → Option Nat
  | [] => none
  | q :: qs => if PyData.eqv q p = true then some 0 else (firstIx p qs).map (· + 1)
theorem firstIx_spec {p : PyData} : ∀ {qs : List PyData} {j : Nat}, firstIx p qs = some j → ∃ z, qs[j]? = some z ∧ PyData.eqv z p = true ∧ ∀ (m : Nat) (z' : PyData), m < j → qs[m]? = some z' → PyData.eqv z' p = false
  | [], _, e => by cases e
  | q :: qs, j, e => by
    unfold firstIx at e
    split at e
    · rename_i h
      cases e
      exact ⟨q, rfl, h, fun m z' hm => by omega⟩
    · rename_i h
      obtain ⟨k, e1, rfl⟩ := Option.map_eq_some_iff.mp e
      obtain ⟨z, h1, h2, h3⟩ := firstIx_spec e1
      refine ⟨z, by simpa using h1, h2, fun m z' hm hz => ?_⟩
      cases m with
      | zero => simp at hz; subst hz; simpa using h
      | succ m => exact h3 m z' (by omega) (by simpa using hz)
def ixD (l : List D) (d : D) (wrap : List PyData → PyData) : Option D := match toPy d, toPys l with
  | some p, some qs => if (SeqAt.shaped p && SeqAt.shaped (wrap qs)) = true then (firstIx p qs).map fun j => .int (j : Nat) else none
  | _, _ => none
def opIndexL (a : D) (ds : List D) : Option D := match lstOf a, ds with
  | some l, [d] => ixD l d .list
  | _, _ => none
def opIndexT (a : D) (ds : List D) : Option D := match tupOf a, ds with
  | some l, [d] => ixD l d .tuple
  | _, _ => none
theorem ixD_some {l : List D} {d c : D} {wrap : List PyData → PyData} (e : ixD l d wrap = some c) : ∃ p qs j, toPy d = some p ∧ toPys l = some qs ∧ SeqAt.shaped p = true ∧ SeqAt.shaped (wrap qs) = true ∧ firstIx p qs = some j ∧ c = .int (j : Nat) := by
  unfold ixD at e
  cases e1 : toPy d with
  | none => rw [e1] at e; cases e
  | some p =>
    cases e2 : toPys l with
    | none => rw [e1, e2] at e; cases e
    | some qs =>
      rw [e1, e2] at e
      dsimp only at e
      split at e
      · rename_i h
        rw [Bool.and_eq_true] at h
        obtain ⟨j, e3, rfl⟩ := Option.map_eq_some_iff.mp e
        exact ⟨p, qs, j, rfl, rfl, h.1, h.2, e3, rfl⟩
      · cases e
theorem mh_indexL {K : PySem.W.Frag} : MethS K (rIndexD K) opIndexL := fun F H x a xs ds c Q s b bs e q => by
  unfold opIndexL at e
  split at e
  · rename_i l d e1
    obtain ⟨p, qs, j, f1, f2, f3, f4, f5, rfl⟩ := ixD_some e
    obtain ⟨v, rfl, b1⟩ := breps_one bs
    obtain ⟨z, g1, g2, g3⟩ := firstIx_spec f5
    obtain ⟨ad, vs, rfl, h1, h2, h3⟩ := b.list s e1
    exact ⟨ad, v, p, qs, j, z, rfl, rfl, .lst h1 ((h3.mono s).dp f2), b1.dp s f1, f4, f3, g1, g2, g3, q F H _ (.refl _ _) (.int _)⟩
  · cases e
def opCountL (a : D) (ds : List D) : Option D := match lstOf a, ds with
  | some l, [d] => match toPy d, toPys l with
    | some p, some qs => if (SeqAt.shaped p && SeqAt.shaped (.list qs)) = true then some (.int ((qs.countP fun z => PyData.eqv z p) : Nat)) else none
    | _, _ => none
  | _, _ => none
theorem mh_countL {K : PySem.W.Frag} : MethS K (rCountD K) opCountL := fun F H x a xs ds c Q s b bs e q => by
  unfold opCountL at e
  split at e
  · rename_i l d e0
    cases e1 : toPy d with
    | none => rw [e1] at e; cases e
    | some p =>
      cases e2 : toPys l with
      | none => rw [e1, e2] at e; cases e
      | some qs =>
        rw [e1, e2] at e
        dsimp only at e
        split at e
        · rename_i h
          rw [Bool.and_eq_true] at h
          cases e
          obtain ⟨v, rfl, b1⟩ := breps_one bs
          obtain ⟨ad, vs, rfl, h1, h2, h3⟩ := b.list s e0
          exact ⟨ad, v, p, qs, rfl, rfl, .lst h1 ((h3.mono s).dp e2), b1.dp s e1, h.2, h.1, q F H _ (.refl _ _) (.int _)⟩
        · cases e
  · cases e
end
end Pv

set_option Elab.async false
set_option linter.all false
set_option maxRecDepth 100000
namespace Pv
open PySem PySem.Spec PyProof.Rows L2
open PySem.AutoSeq1 (wpAny_loadPart')
end Pv

set_option Elab.async false
set_option linter.all false
set_option maxRecDepth 100000
namespace Pv
open PySem PySem.Spec PyProof.Rows L2
/-- the tuple at a, each item in a new pair with its place -/
def IteT (K : PySem.W.Frag) (a : Addr) : It :=
  ⟨fun i H => ∃ (xs : List V) (x : V), SqT K H a xs ∧ xs[i]? = some x,
   fun i H v H' => ∃ T x, v = .ref T ∧ H T = none ∧ H' = upd H T (.tup [.int (i : Nat), x]) ∧ ∀ xs, SqT K H a xs → xs[i]? = some x,
   fun i H => ∃ xs : List V, SqT K H a xs ∧ xs.length ≤ i⟩
def iEnumT (K : PySem.W.Frag) (ta : TA) : TI := fun σ H R => ta σ H fun vs H1 => ∃ a xs, vs = [.ref a] ∧ SqT K H1 a xs ∧ R (IteT K a) H1
def enumD : Nat → List D → List D
  | _, [] => []
  | i, d :: ds => .tup [.int (i : Nat), d] :: enumD (i + 1) ds
def zipD : List D → List D → List D
  | a :: as, b :: bs => .tup [a, b] :: zipD as bs
  | _, _ => []
def itEnumL (fa : Envi → R (List Hd)) : Envi → R (List D) := fun ρ => (fa ρ).bind fun hs ρ1 => match hs with
  | [.dat d] => opt2 ρ1 ((lstOf d).map (enumD 0))
  | _ => .stuck
def itEnumT (fa : Envi → R (List Hd)) : Envi → R (List D) := fun ρ => (fa ρ).bind fun hs ρ1 => match hs with
  | [.dat d] => opt2 ρ1 ((tupOf d).map (enumD 0))
  | _ => .stuck
section
variable {P : Pr} {m : Bool} {W : WX} {te ta tb : TE} {f : Envi → R Hd} {B F0 F H : Hp} {tr : TA} {n : Nat} {fa : Envi → R (List Hd)}
def itZipA (fa : Envi → R (List Hd)) : Envi → R (List D) := fun ρ => (fa ρ).bind fun hs ρ1 => match hs with
  | [.dat d, .dat e] => match lstOf d, lstOf e, tupOf d, tupOf e with
    | some ds, some es, _, _ => .ok (zipD ds es) ρ1
    | _, _, some ds, some es => .ok (zipD ds es) ρ1
    | _, _, _, _ => .stuck
  | _ => .stuck
end
end Pv

set_option Elab.async false
set_option linter.all false
set_option maxRecDepth 100000
namespace Pv
open PySem PySem.Spec PyProof.Rows L2
section
variable {P : Pr} {m : Bool} {W : WX} {te ta tb tc to : TE} {f g e : Envi → R Hd} {n : Nat} {fa : Envi → R (List Hd)} {tr : TA} {B F0 F H : Hp} {σ : L2.St} {ob : Ob} {ρ : Envi} {K : PySem.W.Frag}
/-- a < b < c: the first test, then the second -/
def eChain (op op' : D → D → Option D) (f g e : Envi → R Hd) : Envi → R Hd := fun ρ => (f ρ).frz.bind fun h ρ1 => (g ρ1).frz.bind fun k ρ2 => match deref ρ2 h, deref ρ2 k with
  | some a, some b => match op a b with
    | some (.bl true) => (e ρ2).frz.bind fun l ρ3 => on2 op' ρ3 k l
    | some (.bl false) => .ok (.dat (.bl false)) ρ2
    | _ => .stuck
  | _, _ => .stuck
theorem snd_chain {r r' : R2} {op op' : D → D → Option D} (ho : OpS P.K r op) (ho' : OpS P.K r' op') (ha : SndE P false W ta f) (hb : SndE P false W tb g) (hc : SndE P false W tc e) : SndE P m W (tChain r r' ta tb tc) (eChain op op' f g e) := by
  refine SndE.up ?_
  intro B F0 F H σ ob ρ Q w q
  refine ha.frz B F0 F H σ ob ρ _ w (Post.of_bind q ?_)
  rintro h ρ1 B1 F1 H1 ob1 x w1 s1 i1 ⟨rfl, r1⟩ q
  refine hb.frz _ F0 F1 H1 σ ob1 ρ1 _ w1 (Post.of_bind (Post.shift s1 i1 q) ?_)
  rintro k ρ2 B2 F2 H2 ob2 y w2 s2 i2 ⟨rfl, r2⟩ q
  have q := Post.shift s2 i2 q
  have r1' := r1.mono s2 (i2 rfl)
  cases e1 : deref ρ2 h with
  | none => rw [e1] at q; exact q.elim
  | some a =>
    cases e2 : deref ρ2 k with
    | none => rw [e1, e2] at q; exact q.elim
    | some b =>
      rw [e1, e2] at q
      dsimp only at q
      have b1 := w2.deref r1' e1
      have b2 := w2.deref r2 e2
      cases e3 : op a b with
      | none => rw [e3] at q; exact q.elim
      | some c =>
        rw [e3] at q
        cases c with
        | bl c =>
          refine ho F2 H2 x y a b _ _ w2.fh b1 b2 e3 fun F3 H3 z gr rz => ?_
          cases rz
          obtain ⟨w3, s3⟩ := w2.growN gr
          refine ⟨c, rfl, ?_⟩
          cases c with
          | true =>
            simp only [if_true]
            refine hc.frz _ F0 F3 H3 σ ob2 ρ2 _ w3 (Post.of_bind (Post.shift s3 (fun _ => rfl) q) ?_)
            rintro l ρ3 B3 F4 H4 ob3 u w4 s4 i4 ⟨rfl, r4⟩ q
            have q := Post.shift s4 i4 q
            have r2' := (r2.mono s3 rfl).mono s4 (i4 rfl)
            unfold on2 at q
            cases e4 : deref ρ3 k with
            | none => rw [e4] at q; exact q.elim
            | some b' =>
              cases e5 : deref ρ3 l with
              | none => rw [e4, e5] at q; exact q.elim
              | some d =>
                rw [e4, e5] at q
                dsimp only at q
                cases e6 : op' b' d with
                | none => rw [e6] at q; exact q.elim
                | some c' =>
                  rw [e6] at q
                  refine ho' F4 H4 y u b' d _ _ w4.fh (w4.deref r2' e4) (w4.deref r4 e5) e6 fun F5 H5 z gr rz => ?_
                  obtain ⟨w5, s5⟩ := w4.growN gr
                  exact q _ F5 H5 ob3 z w5 s5 (fun _ => rfl) ⟨rfl, rz⟩
          | false =>
            simp only [Bool.false_eq_true, if_false]
            exact q _ F3 H3 ob2 _ w3 s3 (fun _ => rfl) ⟨rfl, .bl _⟩
        | _ => exact q.elim
def eLRg1 (f : Envi → R Hd) : Envi → R Hd := fun ρ => (f ρ).frz.bind fun h ρ1 => match deref ρ1 h with
  | some (.int j) => if -16777216 < j ∧ j < 16777216 then .ok (.tm (.li (rangeD 0 j.toNat))) ρ1 else .stuck
  | _ => .stuck
theorem rgV_rep {lo : Int} {n : Nat} : Reps K F ((List.range n).map fun i => V.int (lo + (i : Nat))) (rangeD lo n) := by
  unfold rangeD
  generalize List.range n = l
  induction l with
  | nil => exact .nil
  | cons a l ih => exact .cons (.int _) ih
theorem snd_lrg1 (h : SndE P m W te f) : SndE P m W (tLstRg (tRg1 te)) (eLRg1 f) := fun B F0 F H σ ob ρ Q w q => by
  refine h.frz B F0 F H σ ob ρ _ w (Post.of_bind q ?_)
  rintro k ρ1 B1 F1 H1 ob1 x w1 s1 i1 ⟨rfl, r1⟩ q
  cases e1 : deref ρ1 k with
  | none => rw [e1] at q; exact q.elim
  | some d =>
    rw [e1] at q
    cases d with
    | int j =>
      dsimp only at q
      split at q
      · rename_i hj
        have b := w1.deref r1 e1
        cases b.int
        refine ⟨j, rfl, ⟨by omega, by omega, by omega, by omega, by omega⟩, fun a ha => ?_⟩
        have fa := w1.fh.free ha
        have ba := w1.bh.free ha
        refine q _ F1 _ ob1 _ (w1.tmp ha) s1 i1 ⟨a, _, rfl, rfl, ba, fa, ⟨_, rfl, ?_, ?_⟩⟩
        · rw [rgV_length, sizeLine_eq]; omega
        · show Reps P.K F1 ((List.range (j - 0).toNat).map fun i => V.int (0 + (i : Nat))) (rangeD 0 j.toNat)
          rw [Int.sub_zero]
          exact rgV_rep
      · exact q.elim
    | _ => exact q.elim
def muInsert (o : Own) (ds : List D) : Option (D × Own) := match o, ds with
  | .li l, [.int i, d] => if 0 ≤ i ∧ i < 16777216 ∧ l.length < 16777216 then some (.non, .li (l.take i.toNat ++ [d] ++ l.drop i.toNat)) else none
  | _, _ => none
end
end Pv

set_option Elab.async false
set_option linter.all false
set_option maxRecDepth 100000
namespace Pv
open PySem PySem.Spec PyProof.Rows L2
section
variable {P : Pr} {m : Bool} {W : WX} {te ta tb tc to : TE} {f g e : Envi → R Hd} {n : Nat} {fa : Envi → R (List Hd)} {tr : TA} {B F0 F H : Hp} {σ : L2.St} {ob : Ob} {ρ : Envi} {K : PySem.W.Frag}
def pairsK : List D → Option (List (Key × D))
  | [] => some []
  | .tup [k, v] :: r => match keyOf k, pairsK r with
    | some k', some r' => some ((k', v) :: r')
    | _, _ => none
  | _ :: _ => none
def pairsTd : List D → Option (List (List Key × D))
  | [] => some []
  | .tup [.tup ks, v] :: r => match keysOf ks, pairsTd r with
    | some k', some r' => some ((k', v) :: r')
    | _, _ => none
  | _ :: _ => none
def mergeA {κ α : Type} [DecidableEq κ] (kvs more : List (κ × α)) : List (κ × α) := more.foldl (fun acc kv => putA acc kv.1 kv.2) kvs
theorem PR.append {κ : Type} {x x' : List (κ × V)} {y y' : List (κ × Pv.D)} (h : PR K F x y) (h' : PR K F x' y') : PR K F (x ++ x') (y ++ y') := by
  unfold PR at h h' ⊢
  induction h with
  | nil => exact h'
  | cons a b ih => exact .cons a ih
theorem PR.any {κ : Type} [DecidableEq κ] {k : κ} {x : List (κ × V)} {y : List (κ × Pv.D)} (h : PR K F x y) : (x.any fun kv => decide (kv.1 = k)) = (y.any fun kv => decide (kv.1 = k)) := by
  unfold PR at h
  induction h with
  | nil => rfl
  | cons a b ih => rw [List.any_cons, List.any_cons, ih, a.1]
theorem PR.mapPut {κ : Type} [DecidableEq κ] {k : κ} {v : V} {d : Pv.D} {x : List (κ × V)} {y : List (κ × Pv.D)} (h : PR K F x y) (r : Rep K F v d) : PR K F (x.map fun kv => if kv.1 = k then (kv.1, v) else kv) (y.map fun kv => if kv.1 = k then (kv.1, d) else kv) := by
  unfold PR at h ⊢
  induction h with
  | nil => exact .nil
  | @cons p q _ _ a b ih =>
    rw [List.map_cons, List.map_cons]
    refine .cons ?_ ih
    have ea := a.1
    by_cases hk : q.1 = k
    · rw [if_pos hk, if_pos (ea.trans hk)]; exact ⟨ea, r⟩
    · rw [if_neg hk, if_neg (fun z => hk (ea.symm.trans z))]; exact a
theorem PR.put {κ : Type} [DecidableEq κ] {k : κ} {v : V} {d : Pv.D} {x : List (κ × V)} {y : List (κ × Pv.D)} (h : PR K F x y) (r : Rep K F v d) : PR K F (putK x k v) (putA y k d) := by
  unfold putK putA
  rw [h.any]
  split
  · exact h.mapPut r
  · exact h.append (.cons ⟨rfl, r⟩ .nil)
theorem PR.mergeTV {x : List (List Key × V)} {y : List (List Key × Pv.D)} : ∀ {a : List (List Key × V)} {b : List (List Key × Pv.D)}, PR K F a b → PR K F x y → PR K F (mergeT a x) (mergeA b y) := fun {a b} h h' => by
  unfold PR at h'
  induction h' generalizing a b with
  | nil => exact h
  | @cons p q ps qs r _ ih =>
    have := h.put (k := p.1) r.2
    unfold mergeT mergeA
    rw [List.foldl_cons, List.foldl_cons, ← r.1]
    exact ih this
theorem PR.len {κ : Type} {x : List (κ × V)} {y : List (κ × Pv.D)} (h : PR K F x y) : x.length = y.length := by
  unfold PR at h
  induction h with
  | nil => rfl
  | cons a b ih => exact congrArg (· + 1) ih
theorem pairsT_ok {F' : Hp} (s : Same F F') : ∀ {vs : List V} {ds : List Pv.D} {l : List (List Key × Pv.D)}, Reps K F vs ds → pairsTd ds = some l →
    ∃ (ps : List Addr) (kvs : List (List Key × Addr × V)), vs = ps.map V.ref ∧ Paired (fun p kv => SqT K F' p [.ref kv.2.1, kv.2.2] ∧ F' kv.2.1 = some (.tup (kv.1.map kV))) ps kvs ∧ PR K F (kvs.map fun x => (x.1, x.2.2)) l
  | _, _, _, .nil, e => by
    cases e
    exact ⟨[], [], rfl, .nil, .nil⟩
  | v :: vs, d :: ds, l, .cons a b, e => by
    unfold pairsTd at e
    split at e
    · rename_i h; cases h
    · rename_i k x r h
      cases h
      cases e1 : keysOf k with
      | none => rw [e1] at e; cases e
      | some k' =>
        cases e2 : pairsTd ds with
        | none => rw [e1, e2] at e; cases e
        | some r' =>
          rw [e1, e2] at e
          cases e
          obtain ⟨ps, kvs, rfl, h1, h2⟩ := pairsT_ok s b e2
          cases a with
          | @tup p us _ g1 g2 g3 =>
            cases g3 with
            | @cons u1 _ _ _ r1 g4 =>
              cases g4 with
              | @cons u2 _ _ _ r2 g5 =>
                cases g5
                obtain ⟨b, rfl, hb⟩ := keyTup r1 e1
                exact ⟨p :: ps, (k', b, u2) :: kvs, rfl, .cons ⟨.inl (.inl (s _ _ g1)), s _ _ hb⟩ h1, .cons ⟨rfl, r2⟩ h2⟩
    · cases e
theorem putA_len {κ α : Type} [DecidableEq κ] (kvs : List (κ × α)) (k : κ) (v : α) : (putA kvs k v).length ≤ kvs.length + 1 := by
  unfold putA
  split
  · rw [List.length_map]; omega
  · rw [List.length_append]; simp
def fDictK (ds : List D) : Rf := match ds with
  | [d] => match lstOf d with
    | some l => match pairsK l with
      | some kvs => .ow (.di (mergeA [] kvs))
      | none => .stuck
    | none => .stuck
  | _ => .stuck
def fDictT (ds : List D) : Rf := match ds with
  | [d] => match lstOf d with
    | some l => match pairsTd l with
      | some kvs => .ow (.ti (mergeA [] kvs))
      | none => .stuck
    | none => .stuck
  | _ => .stuck
theorem cs_dictT : CallS K (rDictT K) fDictT := fun F H xs ds Q s bs q => by
  unfold fDictT at q
  split at q
  · rename_i d
    obtain ⟨v, rfl, b⟩ := breps_one bs
    cases e : lstOf d with
    | none => rw [e] at q; exact q.elim
    | some l =>
      rw [e] at q
      dsimp only at q
      cases e2 : pairsTd l with
      | none => rw [e2] at q; exact q.elim
      | some kvs =>
        rw [e2] at q
        obtain ⟨a, vs, rfl, h1, h2, h3⟩ := b.list s e
        obtain ⟨ps, kvs', rfl, g1, g2⟩ := pairsT_ok s h3 e2
        refine ⟨a, ps, kvs', rfl, h1, g1, fun p hp => q F H p _ (.refl _ _) hp ⟨_, rfl, ?_, PR.mergeTV .nil g2⟩⟩
        have l0 : ∀ {ps : List Addr} {kvs : List (List Key × Addr × V)}, Paired (fun p kv => SqT K H p [.ref kv.2.1, kv.2.2] ∧ H kv.2.1 = some (.tup (kv.1.map kV))) ps kvs → kvs.length = ps.length := fun h => by
          induction h with
          | nil => rfl
          | cons a b ih => exact congrArg (· + 1) ih
        have l1 := length_mergeT (kvs'.map fun x => (x.1, x.2.2)) []
        have l2 := l0 g1
        rw [List.length_map] at l1 h2
        rw [List.length_nil] at l1
        omega
  · exact False.elim q
end
end Pv

set_option Elab.async false
set_option linter.all false
set_option maxRecDepth 100000
namespace Pv
open PySem PySem.Spec PyProof.Rows L2
section
variable {P : Pr} {m : Bool} {W : WX} {te ta tb tc to : TE} {f g e : Envi → R Hd} {n : Nat} {fa : Envi → R (List Hd)} {tr : TA} {B F0 F H : Hp} {σ : L2.St} {ob : Ob} {ρ : Envi} {K : PySem.W.Frag}
def isDictD : D → Bool
  | .dk _ _ => true
  | .dt _ _ => true
  | _ => false
def eDGet2 (f g e : Envi → R Hd) : Envi → R Hd := fun ρ => (eMat f ρ).bind fun h ρ1 => match h with
  | .dat a => if isDictD a = true then (g ρ1).frz.bind fun k ρ2 => (eMat e ρ2).bind fun x ρ3 => match deref ρ3 k, x with
    | some b, .dat z => match dLook a b with
      | some (some d) => .ok (.dat d) ρ3
      | some none => .ok (.dat z) ρ3
      | none => .stuck
    | _, _ => .stuck
    else .stuck
  | _ => .stuck
theorem isD_of {v : V} {d : D} (s : Same F H) (r : Rep K F v d) (e : isDictD d = true) : ∃ a, v = .ref a ∧ IsD H a := by
  cases r with
  | dk h1 h2 h3 => exact ⟨_, rfl, .inl ⟨_, same_rd s h1⟩⟩
  | dt h1 h2 h3 => exact ⟨_, rfl, .inr ⟨_, same_rd s h1⟩⟩
  | _ => cases e
theorem snd_dget2 (ha : SndE P m W ta f) (hb : SndE P false W tb g) (hc : SndE P false W tc e) : SndE P m W (tDGet2 ta tb tc) (eDGet2 f g e) := by
  intro B F0 F H σ ob ρ Q w q
  refine snd_mat ha B F0 F H σ ob ρ _ w (Post.of_bind q ?_)
  rintro h ρ1 B1 F1 H1 ob1 x w1 s1 i1 r1 q
  cases h with
  | dat a =>
    obtain ⟨rfl, r1⟩ := r1
    try dsimp only at q
    split at q
    · rename_i hd
      have r1 : Rep P.K F1 x a := r1
      obtain ⟨p, rfl, hp⟩ := isD_of w1.fh r1 hd
      refine ⟨p, rfl, hp, ?_⟩
      refine hb.frz _ F0 F1 H1 σ ob1 ρ1 _ w1 (Post.of_bind (Post.up (Post.shift s1 i1 q)) ?_)
      rintro k ρ2 B2 F2 H2 ob2 y w2 s2 i2 ⟨rfl, r2⟩ q
      refine snd_mat hc _ F0 F2 H2 σ ob2 ρ2 _ w2 (Post.of_bind (Post.shift s2 i2 q) ?_)
      rintro z ρ3 B3 F3 H3 ob3 u w3 s3 i3 r3 q
      cases e1 : deref ρ3 k with
      | none => rw [e1] at q; exact q.elim
      | some b =>
        rw [e1] at q
        cases z with
        | dat z =>
          obtain ⟨rfl, r3⟩ := r3
          try dsimp only at q
          have rk := w3.deref (r2.mono s3 (i3 rfl)) e1
          cases e2 : dLook a b with
          | none => rw [e2] at q; exact q.elim
          | some rr =>
            rw [e2] at q
            obtain ⟨p', o, e3, h1, h2⟩ := dLook_ok w3.fh (.inl ((r1.mono s2).mono s3)) rk e2
            cases e3
            refine ⟨o, h1, ?_⟩
            cases rr with
            | none =>
              cases o with
              | some _ => exact h2.elim
              | none => exact q _ F3 H3 ob3 u w3 s3 i3 ⟨rfl, r3⟩
            | some d =>
              cases o with
              | none => exact h2.elim
              | some v => exact q _ F3 H3 ob3 v w3 s3 i3 ⟨rfl, h2⟩
        | _ => exact q.elim
    · exact q.elim
  | _ => exact q.elim
def dPut (o : Own) (b d : D) : Option Own := match o with
  | .di kvs => match keyOf b with
    | some k => if kvs.length < big then some (.di (putA kvs k d)) else none
    | none => none
  | .ti kvs => match b with
    | .tup ds => match keysOf ds with
      | some k => if kvs.length < big then some (.ti (putA kvs k d)) else none
      | none => none
    | _ => none
  | _ => none
def sDPutP (k : Nat) (ok : Envi → Bool) (g e : Envi → R Hd) : Sem := fun ρ => (eMat e ρ).toFl fun x ρ1 => match x with
  | .dat d => if ok ρ1 = true then (match ρ1[k]? with
    | some (.ow _) => (eMat g ρ1).toFl fun y ρ2 => match y, ρ2[k]? with
      | .dat b, some (.ow o) => match dPut o b d with
        | some o' => .nx (ρ2.set k (.ow o'))
        | none => .stuck
      | _, _ => .stuck
    | _ => .stuck) else .stuck
  | _ => .stuck
theorem dPut_ok {a : Addr} {ho : HO} {o o' : Own} {y v : V} {b d : D} (s : Same F H) (h1 : H a = some ho) (h2 : OwnR K F ho o) (ry : Rep K F y b) (rv : Rep K F v d) (e : dPut o b d = some o') : ∃ ho', DPut H a y v (upd H a ho') ∧ OwnR K F ho' o' := by
  unfold dPut at e
  split at e
  · rename_i kvs
    obtain ⟨kv, rfl, h3, h4⟩ := h2
    cases e1 : keyOf b with
    | none => rw [e1] at e; cases e
    | some k =>
      rw [e1] at e
      dsimp only at e
      split at e
      · rename_i hl
        cases e
        have := keyOf_rep ry e1
        subst this
        have l := h4.len
        have l2 := putA_len kvs k d
        have l3 := (h4.put (k := k) rv).len
        exact ⟨.dK (putK kv k v), .k h1 (by rw [← big_line, l]; exact hl), ⟨_, rfl, by rw [← big_line, l3]; omega, h4.put rv⟩⟩
      · cases e
  · rename_i kvs
    obtain ⟨kv, rfl, h3, h4⟩ := h2
    split at e
    · rename_i ds
      cases e1 : keysOf ds with
      | none => rw [e1] at e; cases e
      | some k =>
        rw [e1] at e
        dsimp only at e
        split at e
        · rename_i hl
          cases e
          obtain ⟨c, rfl, hc⟩ := keyTup ry e1
          have l := h4.len
          have l2 := putA_len kvs k d
          have l3 := (h4.put (k := k) rv).len
          exact ⟨.dT (putK kv k v), .t h1 (s _ _ hc) (by rw [← big_line, l]; exact hl), ⟨_, rfl, by rw [← big_line, l3]; omega, h4.put rv⟩⟩
        · cases e
    · cases e
  · cases e
theorem snd_dput {k : Nat} {ok : Envi → Bool} (hp : SndP P to k ok) (hg : SndE P m W tb g) (he : SndE P true W te e) (hk : m = false ∨ k < P.n) : SndS P W (sDPut to tb te) (sDPutP k ok g e) := fun B F0 F H σ ob ρ D w q => by
  refine snd_mat he B F0 F H σ ob ρ _ w (Post.of_toFl (H := H) (ρ := ρ) q ?_)
  rintro x ρ1 B1 F1 H1 ob1 v w1 s1 i1 r1 q
  cases x with
  | dat d =>
    obtain ⟨rfl, r1⟩ := r1
    try dsimp only at q
    split at q
    · rename_i hok
      cases e0 : ρ1[k]? with
      | none => rw [e0] at q; exact q.elim
      | some sl =>
        rw [e0] at q
        cases sl with
        | ow o0 =>
          try dsimp only at q
          obtain ⟨a, ho, h1, h2, h3, h4, h5, h6, h7⟩ := w1.owned e0
          refine hp _ F0 F1 H1 σ ob1 ρ1 _ _ w1 hok h1 ?_
          refine snd_mat hg _ F0 F1 H1 σ ob1 ρ1 _ w1 (Post.of_toFl (H := H) (ρ := ρ) (q.shift s1) ?_)
          rintro y ρ2 B2 F2 H2 ob2 u w2 s2 i2 r2 q
          cases y with
          | dat b =>
            obtain ⟨rfl, r2⟩ := r2
            cases e1 : ρ2[k]? with
            | none => rw [e1] at q; exact q.elim
            | some sl =>
              rw [e1] at q
              cases sl with
              | ow o =>
                try dsimp only at q
                cases e2 : dPut o b d with
                | none => rw [e2] at q; exact q.elim
                | some o' =>
                  rw [e2] at q
                  obtain ⟨a', ho', g1, g2, g3, g4, g5, g6, g7⟩ := w2.owned e1
                  have := tau_keep (F2 := F1) (H2 := H1) (ρ2 := ρ1) w1 hk i2 h1
                  rw [g1] at this
                  cases this
                  obtain ⟨ho2, z1, z2⟩ := dPut_ok w2.fh g2 g3 r2 (Rep.mono s2 r1) e2
                  exact ⟨_, _, rfl, z1, q F2 _ σ ob2 (g6 ho2 o' z2) s2⟩
              | _ => exact q.elim
          | _ => exact q.elim
        | _ => exact q.elim
    · exact q.elim
  | _ => exact q.elim
def sSetL (k : Nat) (g e : Envi → R Hd) : Sem := fun ρ => (eMat e ρ).toFl fun x ρ1 => match x with
  | .dat d => match ρ1[k]? with
    | some (.ow _) => (eMat g ρ1).toFl fun y ρ2 => match y, ρ2[k]? with
      | .dat (.int i), some (.ow (.li l)) => match ixN l.length i with
        | some j => .nx (ρ2.set k (.ow (.li (l.set j d))))
        | none => .stuck
      | _, _ => .stuck
    | _ => .stuck
  | _ => .stuck
def alikeB (ps : List PyData) : Bool := ps.all fun x => ps.all fun y => PySem.W.alike x y
def isTupP : PyData → Bool
  | .tuple (_ :: _) => true
  | _ => false
def plainP : PyData → Bool
  | .none => false
  | .tuple _ => false
  | _ => true
def sortableB (ps : List PyData) : Bool := ps.all isTupP || ps.all plainP
def depthB (ps : List PyData) : Bool := ps.all fun p => decide (p.depth ≤ 60)
def sortD (ds : List D) (ps : List PyData) : List D := ((ds.zip ps).mergeSort (PySem.W.dataLe false (·.2))).map (·.1)
def fSorted (ds : List D) : Rf := match ds with
  | [d] => match lstOf d with
    | some l => match toPys l with
      | some ps => if (alikeB ps && sortableB ps && depthB ps) = true then .ow (.li (sortD l ps)) else .stuck
      | none => .stuck
    | none => .stuck
  | _ => .stuck
theorem alikeB_ok {ps : List PyData} (h : alikeB ps = true) : PySem.W.AllAlike ps := fun d hd d' hd' => by
  unfold alikeB at h
  rw [List.all_eq_true] at h
  have := h d hd
  rw [List.all_eq_true] at this
  exact this d' hd'
theorem sortableB_ok {ps : List PyData} (h : sortableB ps = true) : PySem.W.Sortable ps := by
  unfold sortableB at h
  rw [Bool.or_eq_true, List.all_eq_true, List.all_eq_true] at h
  rcases h with h | h
  · refine .inl fun d hd => ?_
    have := h d hd
    unfold isTupP at this
    split at this
    · exact ⟨_, _, rfl⟩
    · cases this
  · refine .inr fun d hd => ⟨fun z => ?_, fun xs z => ?_⟩
    · have := h d hd; rw [z] at this; cases this
    · have := h d hd; rw [z] at this; cases this
theorem reps_zip {vs : List V} {ds : List Pv.D} (r : Reps K F vs ds) : ∀ p ∈ vs.zip ds, Rep K F p.1 p.2 := by
  intro p hp
  obtain ⟨i, hi⟩ := List.mem_iff_getElem?.mp hp
  rw [List.getElem?_zip_eq_some] at hi
  obtain ⟨v, h1, h2⟩ := r.get hi.2
  rw [hi.1] at h1
  cases h1
  exact h2
theorem Reps.ofPairs {l : List (V × Pv.D)} (h : ∀ p ∈ l, Rep K F p.1 p.2) : Reps K F (l.map (·.1)) (l.map (·.2)) := by
  induction l with
  | nil => exact .nil
  | cons a l ih => exact .cons (h a List.mem_cons_self) (ih fun p hp => h p (List.mem_cons_of_mem _ hp))
theorem zip3_map {α β γ : Type} : ∀ {a : List α} {b : List β} {c : List γ}, a.length = b.length → b.length = c.length → ((a.zip b).zip c).map (fun x => (x.1.1, x.2)) = a.zip c ∧ ((a.zip b).zip c).map (fun x => (x.1.2, x.2)) = b.zip c
  | [], [], [], _, _ => ⟨rfl, rfl⟩
  | a :: as, b :: bs, c :: cs, h, h' => by
    obtain ⟨i1, i2⟩ := zip3_map (a := as) (b := bs) (c := cs) (by simpa using h) (by simpa using h')
    exact ⟨by rw [List.zip_cons_cons, List.zip_cons_cons, List.map_cons, i1]; rfl, by rw [List.zip_cons_cons, List.zip_cons_cons, List.map_cons, i2]; rfl⟩
theorem sortV_rep {vs : List V} {ds : List Pv.D} {ps : List PyData} (r : Reps K F vs ds) (hl : vs.length = ps.length) : Reps K F (sortV vs ps) (sortD ds ps) := by
  have hd := r.length
  have hz := zip3_map (a := vs) (b := ds) (c := ps) hd (by omega)
  let L := (vs.zip ds).zip ps
  let le : (V × Pv.D) × PyData → (V × Pv.D) × PyData → Bool := PySem.W.dataLe false (·.2)
  have m1 : (vs.zip ps).mergeSort (PySem.W.dataLe false (·.2)) = (L.mergeSort le).map (fun x => (x.1.1, x.2)) := by
    rw [← hz.1]
    exact (List.map_mergeSort (f := fun x : (V × Pv.D) × PyData => (x.1.1, x.2)) (fun a _ b _ => rfl)).symm
  have m2 : (ds.zip ps).mergeSort (PySem.W.dataLe false (·.2)) = (L.mergeSort le).map (fun x => (x.1.2, x.2)) := by
    rw [← hz.2]
    exact (List.map_mergeSort (f := fun x : (V × Pv.D) × PyData => (x.1.2, x.2)) (fun a _ b _ => rfl)).symm
  unfold sortV sortD
  rw [m1, m2, List.map_map, List.map_map]
  have : ∀ p ∈ (L.mergeSort le).map (·.1), Rep K F p.1 p.2 := fun p hp => by
    obtain ⟨x, hx, rfl⟩ := List.mem_map.mp hp
    rw [List.mem_mergeSort] at hx
    exact reps_zip r _ (List.of_mem_zip hx).1
  have := Reps.ofPairs this
  rw [List.map_map, List.map_map] at this
  exact this
theorem cs_sorted : CallS K (rSortD K) fSorted := fun F H xs ds Q s bs q => by
  unfold fSorted at q
  split at q
  · rename_i d
    obtain ⟨v, rfl, b⟩ := breps_one bs
    cases e : lstOf d with
    | none => rw [e] at q; exact q.elim
    | some l =>
      rw [e] at q
      try dsimp only at q
      cases e2 : toPys l with
      | none => rw [e2] at q; exact q.elim
      | some ps =>
        rw [e2] at q
        try dsimp only at q
        split at q
        · rename_i hc
          rw [Bool.and_eq_true, Bool.and_eq_true] at hc
          obtain ⟨a, vs, rfl, h1, h2, h3⟩ := b.list s e
          have hdp := (h3.mono s).dp e2
          have hl := dpAll_len hdp
          refine ⟨a, vs, ps, rfl, h1, hdp, alikeB_ok hc.1.1, sortableB_ok hc.1.2, fun p hp => ?_, fun p hp => q F H p _ (.refl _ _) hp ⟨_, rfl, ?_, sortV_rep h3 hl⟩⟩
          · have := hc.2
            unfold depthB at this
            rw [List.all_eq_true] at this
            simpa using this p hp
          · unfold sortV
            rw [List.length_map, List.length_mergeSort, List.length_zip, ← hl, Nat.min_self]
            exact h2
        · exact q.elim
  · exact False.elim q
end
end Pv

set_option Elab.async false
set_option linter.all false
set_option maxRecDepth 100000
namespace Pv
open PySem PySem.Spec PyProof.Rows L2
theorem fin_law {K : PySem.W.Frag} {ec : Exc → Value} {N : List Str} {ts : TS} {g : Sem} {vs : List V} {H F : Hp} {ds : List D} {Q : VK} (hs : SndS ⟨K, ec, N.length, [], 0, 0⟩ W0 ts g) (hn : vs.length ≤ N.length) (s : Same F H) (r : Reps K F vs ds)
    (h : toRf (g (initE N.length ds)) = .fz (.bl true)) (q : ∀ H', Q (.bl true) H') : ts { nx := fun _ H' => Q .non H', rt := Q } (L2.start N vs) H := by
  refine hs H F F H _ none _ _ (Wf.init hn s r) ?_
  cases eg : g (initE N.length ds) with
  | ret v ρ' =>
    rw [eg] at h
    cases v with
    | fz d =>
      cases h
      rintro B' F' H' σ' ob' u w s' ⟨rfl, r'⟩
      cases r'
      exact q H'
    | ow o => cases h
  | nx ρ' => rw [eg] at h; cases h
  | exc c ρ' => rw [eg] at h; cases h
  | bk ρ' => rw [eg] at h; cases h
  | ct ρ' => rw [eg] at h; cases h
  | stuck => rw [eg] at h; cases h
/-- a def that the top has written -/
structure Fn (K : PySem.W.Frag) (mg : Str → Option Value) (x : Str) (st : Stmt) (ps : List Str) where
  f : Addr
  fd : FuncData
  g : mg x = some (.ref f)
  k : PySem.W.keepIn K (.ref f) = true
  F : Fun K x x st f fd
  b : Binds K fd ps []
/-- an exception class of ours, without own __init__ -/
structure Xc (K : PySem.W.Frag) (mg : Str → Option Value) (x : Str) where
  C : Addr
  g : mg x = some (.ref C)
  k : PySem.W.keepIn K (.ref C) = true
  q : PySem.W.excIn K C [.type "ValueError", .type "Exception", .type "BaseException", .type "object"] "ValueError.__new__" = true
  e : PySem.W.subIn K (.ref C) (.type "BaseException") = some true
  t : PySem.W.typeIn K (.ref C) = some (.type "type")
theorem snd_tb {P : Pr} {m : Bool} {W : WX} {te : TE} {f : Envi → R Hd} (h : SndE P m W te f) : SndT P m W (tB te) (tsE f) := snd_ts h
/-- the reading of a def: what its body does -/
abbrev fsOf (n : Nat) (g : Sem) : List D → Rf := fun ds => toRf (g (initE n ds))
theorem fin_gen {K : PySem.W.Frag} {ec : Exc → Value} {N : List Str} {n : Nat} {ts : TS} {g : Sem} {vs : List V} {H : Hp} {Q : VK} {E : XK} (hs : SndS ⟨K, ec, N.length, [], 0, 0⟩ (fun cls d _ H => E cls d H) ts g) (hn : n ≤ N.length)
    (h : spF K ec n (fsOf N.length g) vs H Q E) : ts { nx := fun _ H' => Q .non H', rt := Q } (L2.start N vs) H := fin_of hs hn (fun _ _ _ => rfl) h
def sWhileN (N : Nat) (c : Envi → R Bool) (g : Sem) : Sem := runW c g N
theorem snd_whileN {P : Pr} {m : Bool} {W : WX} {tt : TT} {c : Envi → R Bool} {ts : TS} {g : Sem} (N : Nat) (hc : SndT P true W tt c) (hb : SndS P W ts g) : SndS P W (tWhile tt ts) (sWhileN N c g) := fun B F0 F H σ ob ρ D w q => by
  refine snd_while hc hb B F0 F H σ ob ρ D w ?_
  have hn : sWhileN N c g ρ ≠ .stuck := fun z => by rw [z] at q; exact q
  rw [sWhile_of (n := N) rfl hn]
  exact q

theorem units65 {k : Nat} {A : Around} (r : Room k A) : A.units + 65 < cLine := by have := r.un; omega
theorem units1 {k : Nat} {A : Around} (r : Room k A) : A.units + 1 < cLine := by have := r.un; omega
theorem nx_ofOpt {o : Option D} {e : Exc} : ofOpt o ≠ .exc e := by cases o <;> (intro z; cases z)
theorem nx_fIsi (ds : List D) (e : Exc) : fIsi ds ≠ .exc e := by
  unfold fIsi
  split
  · exact nx_ofOpt
  · intro z; cases z
theorem nx_fLen (ds : List D) (e : Exc) : fLen ds ≠ .exc e := by
  unfold fLen
  split
  · exact nx_ofOpt
  · intro z; cases z
theorem nx_fList (ds : List D) (e : Exc) : fList ds ≠ .exc e := by unfold fList; intro z; (repeat' split at z) <;> (first | exact ofOpt_exc _ _ z | cases z)
theorem nx_fTup (ds : List D) (e : Exc) : fTup ds ≠ .exc e := by unfold fTup; intro z; (repeat' split at z) <;> (first | exact ofOpt_exc _ _ z | cases z)
theorem nx_fSum (ds : List D) (e : Exc) : fSum ds ≠ .exc e := by unfold fSum; intro z; (repeat' split at z) <;> (first | exact ofOpt_exc _ _ z | cases z)
theorem nx_fAll (ds : List D) (e : Exc) : fAll ds ≠ .exc e := by unfold fAll; intro z; (repeat' split at z) <;> (first | exact ofOpt_exc _ _ z | cases z)
theorem nx_fSorted (ds : List D) (e : Exc) : fSorted ds ≠ .exc e := by unfold fSorted; intro z; (repeat' split at z) <;> (first | exact ofOpt_exc _ _ z | cases z)
theorem nx_fDictT (ds : List D) (e : Exc) : fDictT ds ≠ .exc e := by unfold fDictT; intro z; (repeat' split at z) <;> (first | exact ofOpt_exc _ _ z | cases z)
def eTupF (g : Envi → R (List Hd)) : Envi → R Hd := fun ρ => (g ρ).bind fun hs ρ1 => match matAll ρ1 hs with
  | some (ds, ρ2) => .ok (.dat (.ktup ds)) ρ2
  | none => .stuck
theorem snd_tupF {P : Pr} {m : Bool} {W : WX} {n : Nat} {tr : TA} {fa : Envi → R (List Hd)} (h : SndA P m W n tr fa) (hn : n ≤ 1000 := by decide) : SndE P m W (tTupF tr) (eTupF fa) := fun B F0 F H σ ob ρ Q w q => by
  refine h B F0 F H σ ob ρ _ w (Post.of_bind (k := fun hs ρ1 => match matAll ρ1 hs with | some (ds, ρ2) => R.ok (Hd.dat (.ktup ds)) ρ2 | none => R.stuck) q ?_)
  rintro hs ρ2 B' F2 H2 ob2 ys w2 s2 i2 ⟨⟨rfl, r2⟩, hl⟩ q
  have hl' : ys.length ≤ sizeLine := by rw [hl]; exact small_line hn
  refine ⟨hl', fun p o hp ho => ?_⟩
  cases e : matAll ρ2 hs with
  | none => rw [e] at q; exact q.elim
  | some x =>
    obtain ⟨ds, ρ3⟩ := x
    rw [e] at q
    obtain ⟨F3, w3, s3, r3⟩ := w2.matAll r2 e
    have w4 := w3.grow (o := .frz o (.tup ys)) hp
    have s4 : Same F3 (upd F3 p (.frz o (.tup ys))) := same_new (w3.fh.free hp)
    exact q B' _ _ ob2 _ w4 ((s2.trans s3).trans s4) i2 ⟨rfl, .ktup (.inl ⟨o, upd_same, ho⟩) hl' (Reps.mono s4 r3)⟩
def rMinD (K : PySem.W.Frag) : List V → Hp → VK → Prop := fun xs H Q => ∃ (a : Addr) (vs : List V) (ps : List PyData), xs = [.ref a] ∧ SqL K H a vs ∧ DpAll K H vs ps ∧ PySem.W.AlikeAll ps ∧ PyData.depthAll ps ≤ 60 ∧ 0 < ps.length ∧
  ∀ v, vs[argBest (fun i j => PySem.W.dataLt (ps.getD i .none) (ps.getD j .none)) (ps.length - 1)]? = some v → Q v H
theorem vals_getV : ∀ {vs : List V} {us : List Value} {i : Nat} {u : Value}, Vals vs us → us[i]? = some u → ∃ x, vs[i]? = some x ∧ RelV x u
  | _, _, _, _, .nil, e => by simp at e
  | _, _, 0, _, .cons r _, e => by simp at e; subst e; exact ⟨_, rfl, r⟩
  | _, _, i + 1, x, .cons _ t, e => by
    obtain ⟨u, h1, h2⟩ := vals_getV (i := i) (u := x) t (by simpa using e)
    exact ⟨u, by simpa using h1, h2⟩
theorem cr_minD {X : Cx} (hc : X.calm = true) (hu : X.A.units + 64 < cLine) : CallR X (.builtin "min") (rMinD X.K) := by
  intro pins s σ H xs us Q I r h
  obtain ⟨a, vs, ps, rfl, hs, hd, hal, hdp, hn, q⟩ := h
  obtain ⟨its, rv, hl, hz⟩ := I.list hs
  rw [Vals.ref1 r]
  obtain ⟨as, hr⟩ := Dp.readsAll I _ _ _ hd rv
  have hsz : its.length = ps.length := by rw [← dpAll_len hd]; exact rv.length.symm
  refine PySem.call_min_walkH (PySem.W.iter_listW (A := X.A.in1) (I.ok.hd hc) hl.isList fun s₂ e W st hfp hw hk => ?_)
  refine ⟨_, _, _, _, _, _, _, s.heap, _, rfl, W, st, hfp, by simp; omega, hw, hk, PySem.W.cmpIn_lt (A := X.A.in1) (xs := ps) (by simpa using hr) hal (by show X.A.units + 1 + _ < _; omega), fun v s' hP m => ?_⟩
  obtain ⟨h', tk, rfl, hk'⟩ := PySem.W.moved_old e rfl m
  have hP : its.toArray[_]? = some v := hP
  rw [List.size_toArray, hsz] at hP
  have I' : Inv X pins σ H { s with heap := h', toks := tk } := I.kept hk'
  rw [List.getElem?_toArray] at hP
  obtain ⟨x, h1, h2⟩ := vals_getV rv hP
  exact ⟨x, H, I', h2, q x h1⟩
def noNone (ps : List PyData) : Bool := ps.all fun p => match p with
  | .none => false
  | _ => true
def minIx (ps : List PyData) : Nat := argBest (fun i j => PySem.W.dataLt (ps.getD i .none) (ps.getD j .none)) (ps.length - 1)
def minOk (ps : List PyData) : Bool := alikeB ps && noNone ps && decide (PyData.depthAll ps ≤ 60) && decide (0 < ps.length)
def fMinD (ds : List D) : Rf := match ds with
  | [d] => match lstOf d with
    | some l => match toPys l with
      | some ps => if minOk ps = true then ofOpt l[minIx ps]? else .stuck
      | none => .stuck
    | none => .stuck
  | _ => .stuck
theorem noNone_ok {ps : List PyData} (h : noNone ps = true) : ∀ x ∈ ps, x ≠ .none := fun x hx e => by
  unfold noNone at h
  rw [List.all_eq_true] at h
  have := h x hx
  rw [e] at this
  cases this
theorem cs_minD {K : PySem.W.Frag} : CallS K (rMinD K) fMinD := fun F H xs ds Q s bs q => by
  unfold fMinD at q
  split at q
  · rename_i d
    obtain ⟨v, rfl, b⟩ := breps_one bs
    cases e : lstOf d with
    | none => rw [e] at q; exact q.elim
    | some l =>
      rw [e] at q
      try dsimp only at q
      cases e2 : toPys l with
      | none => rw [e2] at q; exact q.elim
      | some ps =>
        rw [e2] at q
        try dsimp only at q
        split at q
        · rename_i hc
          unfold minOk at hc
          rw [Bool.and_eq_true, Bool.and_eq_true, Bool.and_eq_true] at hc
          obtain ⟨⟨⟨c1, c2⟩, c3⟩, c4⟩ := hc
          obtain ⟨a, vs, rfl, h1, h2, h3⟩ := b.list s e
          refine ⟨a, vs, ps, rfl, h1, (h3.mono s).dp e2, ⟨fun x hx y hy => alikeB_ok c1 x hx y hy, noNone_ok c2⟩, of_decide_eq_true c3, of_decide_eq_true c4, fun v hv => ?_⟩
          obtain ⟨d', g1, g2⟩ := h3.getV hv
          have g1 : l[minIx ps]? = some d' := g1
          rw [g1] at q
          exact q F H v (.refl _ _) g2
        · exact q.elim
  · exact False.elim q
theorem nx_fMinD (ds : List D) (e : Exc) : fMinD ds ≠ .exc e := by unfold fMinD; intro z; (repeat' split at z) <;> (first | exact ofOpt_exc _ _ z | cases z)
theorem bt_isinstance : bootBuiltins "isinstance" = some (.builtin "isinstance") := by decide +kernel
theorem bt_len : bootBuiltins "len" = some (.builtin "len") := by decide +kernel
theorem bt_all : bootBuiltins "all" = some (.builtin "all") := by decide +kernel
theorem bt_sum : bootBuiltins "sum" = some (.builtin "sum") := by decide +kernel
theorem bt_min : bootBuiltins "min" = some (.builtin "min") := by decide +kernel
theorem bt_sorted : bootBuiltins "sorted" = some (.builtin "sorted") := by decide +kernel
theorem bt_int : bootBuiltins "int" = some (.type "int") := by decide +kernel
theorem bt_bool : bootBuiltins "bool" = some (.type "bool") := by decide +kernel
theorem bt_tuple : bootBuiltins "tuple" = some (.type "tuple") := by decide +kernel
theorem bt_list : bootBuiltins "list" = some (.type "list") := by decide +kernel
theorem bt_dict : bootBuiltins "dict" = some (.type "dict") := by decide +kernel
theorem bt_ValueError : bootBuiltins "ValueError" = some (.type "ValueError") := by decide +kernel
theorem ltN {a b : Nat} (h : Nat.ble (a + 1) b = true) : a < b := Nat.le_of_ble_eq_true h
theorem leN {a b : Nat} (h : Nat.ble a b = true) : a ≤ b := Nat.le_of_ble_eq_true h
def blkB (N : List Str) (sc scope : Scope) (own : List (Str × Nat)) : Bool :=
  decide (scope.kind = .function) && (scope.names.all fun y => decide (scope.names.lookup y.1 = some y.2)) && (own.all fun p => decide (N[p.2]? = some p.1)) &&
  (scope.names.all fun y => if y.2 = .free then decide (sc.names.lookup y.1 = some .cell) || decide (sc.names.lookup y.1 = some .free) else true) &&
  (scope.names.all fun y => if y.2 = .local ∨ y.2 = .cell then decide (y.1 ∈ own.map (·.1)) || !decide (y.1 ∈ N) else true)
theorem blk_of {N : List Str} {sc scope : Scope} {own : List (Str × Nat)} (h : blkB N sc scope own = true) : BlkOk N sc scope own := by
  unfold blkB at h
  simp only [Bool.and_eq_true, List.all_eq_true, decide_eq_true_eq] at h
  obtain ⟨⟨⟨⟨h1, h2⟩, h3⟩, h4⟩, h5⟩ := h
  refine ⟨h1, h2, h3, fun y hy e => ?_, fun y hy e => ?_⟩
  · have := h4 y hy
    rw [if_pos e, Bool.or_eq_true, decide_eq_true_eq, decide_eq_true_eq] at this
    exact this
  · have := h5 y hy
    rw [if_pos e, Bool.or_eq_true, decide_eq_true_eq, Bool.not_eq_true', decide_eq_false_iff_not] at this
    exact this
end Pv

set_option Elab.async false
set_option linter.all false
set_option maxRecDepth 100000
namespace Pv
open PySem PySem.Spec PyProof.Rows L2
def clr (i : Nat) : Fl → Fl
  | .nx ρ => .nx (ρ.set i .un)
  | .bk ρ => .bk (ρ.set i .un)
  | .ct ρ => .ct (ρ.set i .un)
  | .ret v ρ => .ret v (ρ.set i .un)
  | .exc _ _ => .stuck
  | .stuck => .stuck
def sTry (i : Nat) (cl : Exc → Option Bool) (body : Sem) (su : Exc → Sem) : Sem := fun ρ => match body ρ with
  | .exc c ρ1 => match cl c with
    | some true => clr i (su c (ρ1.set i (.fz (.adr 0))))
    | some false => .exc c ρ1
    | none => .stuck
  | r => r
section
variable {P : Pr} {m : Bool} {W Wout : WX} {B F0 F H : Hp} {σ : L2.St} {ob : Ob} {ρ : Envi} {D : Ends}
theorem clr_post {i : Nat} (hi : i < P.n) : ∀ {r : Fl}, PostS P B F0 F Wout D (clr i r) → PostS P B F0 F W0 { nx := fun σ' H' => D.nx (σ'.set i none) H', rt := D.rt, bk := fun σ' H' => D.bk (σ'.set i none) H', ct := fun σ' H' => D.ct (σ'.set i none) H' } r
  | .nx ρ, h => fun F' H' σ' ob' w s => h F' H' _ ob' (w.set hi rfl fun _ => True.intro) s
  | .bk ρ, h => fun F' H' σ' ob' w s => h F' H' _ ob' (w.set hi rfl fun _ => True.intro) s
  | .ct ρ, h => fun F' H' σ' ob' w s => h F' H' _ ob' (w.set hi rfl fun _ => True.intro) s
  | .ret v ρ, h => fun B' F' H' σ' ob' u w s r => h B' F' H' _ ob' u (w.set (v := none) hi rfl fun _ => True.intro) s r
  | .exc _ _, h => h.elim
  | .stuck, h => h.elim
theorem snd_try {tb : WX → TS} {ts : Addr → Value → Option Addr → TS} {i : Nat} {cv : Value} {body : Sem} {su : Addr → Exc → Sem} (cl : Exc → Option Bool) (hi : i < P.n) (hcl : ∀ c b, cl c = some b → PySem.W.exmOne P.K (P.ec c) cv = some b)
    (hb : ∀ W, SndS P W (tb W) body) (hsu : ∀ a c, cl c = some true → SndS P W0 (ts a (P.ec c) none) (su a c))
    (hind : ∀ (a : Addr) (c : Exc) (ρ : Envi), clr i (su a c (ρ.set i (.fz (.adr a)))) = clr i (su 0 c (ρ.set i (.fz (.adr 0))))) :
    SndS P Wout (fun D σ H => tb (wAs P.K cv i ts Wout D) D σ H) (sTry i cl body (fun c => su 0 c)) := fun B F0 F H σ ob ρ D w q => by
  refine hb _ B F0 F H σ ob ρ D w ?_
  unfold sTry at q
  cases e : body ρ with
  | nx ρ1 => rw [e] at q; exact q
  | bk ρ1 => rw [e] at q; exact q
  | ct ρ1 => rw [e] at q; exact q
  | ret v ρ1 => rw [e] at q; exact q
  | stuck => rw [e] at q; exact q
  | exc c ρ1 =>
    rw [e] at q
    try dsimp only at q
    intro F' H' σ' ob' w' s
    cases ec : cl c with
    | none => rw [ec] at q; exact q.elim
    | some b =>
      rw [ec] at q
      refine ⟨b, hcl c b ec, fun hb a ha => ?_, fun hb => ?_⟩
      · subst hb
        try dsimp only at q
        refine hsu a c ec B F0 F' H' _ ob' (ρ1.set i (.fz (.adr a))) _ (w'.set hi rfl fun _ => ⟨_, rfl, .adr a⟩) (clr_post (Wout := Wout) hi ?_)
        rw [hind a c ρ1]
        exact q.shift s
      · subst hb
        exact q F' H' σ' ob' w' s
/-- isinstance(e, X) in the suite, e the error caught -/
def rIsX (K : PySem.W.Frag) (a : Addr) (cls : Value) (d : Option Addr) : List V → Hp → VK → Prop := fun xs H Q => ∃ D, cls = .ref D ∧ d = none ∧ ExcC K D ∧ rIsE K D a xs H Q
theorem call_isX {X : Cx} {a : Addr} {oe : Obj} {cls : Value} {d : Option Addr} {pn : List (Addr × Obj)} (hz : Zc cls d oe) (hf : ∃ vs, oe.data = .fields vs) : CallR (X.suite a ((a, oe) :: pn)) (.builtin "isinstance") (rIsX X.K a cls d) := by
  intro pins s σ H xs us Q I r h
  obtain ⟨D, rfl, rfl, C, h⟩ := h
  exact call_isE C hz hf pins s σ H xs us Q I r h
def eIsX (i : Nat) (a : Addr) (b : Bool) : Envi → R Hd := fun ρ => match ρ[i]? with
  | some (.fz (.adr a')) => if a' = a then .ok (.dat (.bl b)) ρ else .stuck
  | _ => .stuck
theorem snd_isX {i : Nat} {a : Addr} {v : V} {c : Exc} {b : Bool} (hi : i < P.n) (h : ∃ D cv, P.ec c = .ref D ∧ ExcC P.K D ∧ (∀ u, RelV v u → u = cv) ∧ PySem.W.kitOne P.K (.ref D) cv = some b) :
    SndE P m W (tCB (rIsX P.K a (P.ec c) none) (tCons (tVar i) (tCons (tC v) tNil))) (eIsX i a b) := fun B F0 F H σ ob ρ Q w q => by
  unfold eIsX at q
  split at q
  · rename_i a' e
    split at q
    · rename_i ea
      subst ea
      obtain ⟨D, cv, h1, h2, h3, h4⟩ := h
      obtain ⟨al, s1, _⟩ := w.sl
      obtain ⟨u, e1, e2⟩ := s1 i _ e
      cases e2
      have hi' : i < σ.length := by rw [w.n]; exact hi
      rw [tau_lt hi'] at e1
      have e3 : σ[i]? = some (some (.ref a')) := by
        rw [List.getElem?_eq_getElem hi'] at e1 ⊢
        rw [show σ[i] = some (.ref a') from e1]
      exact ⟨_, e3, D, h1, rfl, h2, v, cv, b, rfl, h3, h4, q B F H ob _ w (Same.refl _) (fun _ => rfl) ⟨rfl, .bl b⟩⟩
    · exact q.elim
  · exact q.elim
theorem relv_ref {a : Addr} : ∀ u, RelV (.ref a) u → u = .ref a := fun u h => h
theorem relv_ty {n : String} : ∀ u, RelV (.ty n) u → u = .type n := fun u h => h
/-- an error class asked after -/
structure XcI (K : PySem.W.Frag) (mg : Str → Option Value) (x : Str) extends Xc K mg x where
  i : ExcC K C
end
end Pv

set_option Elab.async false
set_option linter.all false
set_option maxRecDepth 100000
namespace Pv
open PySem PySem.Spec PyProof.Rows L2
open PySem.W (Datum DatumOrd Tup T3 T4)
class Lay (α : Type) [DecidableEq α] [Datum α] : Prop where
  lay : ∀ x : α, PyData.canLay0 (Datum.toD x) = true
instance : Lay Int := ⟨fun x => by show PyData.canLay0 (.int x) = true; simp [PyData.canLay0]⟩
instance : Lay Bool := ⟨fun x => by show PyData.canLay0 (.bool x) = true; simp [PyData.canLay0]⟩
instance : Lay Unit := ⟨fun x => by show PyData.canLay0 .none = true; simp [PyData.canLay0]⟩
section
variable {α β γ δ : Type} [DecidableEq α] [Datum α] [DecidableEq β] [Datum β] [DecidableEq γ] [Datum γ] [DecidableEq δ] [Datum δ]
theorem layAll [Lay α] : ∀ xs : List α, PyData.canLayAll0 (xs.map Datum.toD) = true
  | [] => by simp [PyData.canLayAll0]
  | x :: xs => by rw [List.map_cons, PyData.canLayAll0, Lay.lay x, layAll xs]; rfl
instance [Lay α] : Lay (List α) := ⟨fun x => by show PyData.canLay0 (.list _) = true; rw [PyData.canLay0]; exact layAll x⟩
instance [Lay α] : Lay (Tup α) := ⟨fun x => by show PyData.canLay0 (.tuple _) = true; rw [PyData.canLay0]; exact layAll x.items⟩
instance [Lay α] [Lay β] : Lay (α × β) := ⟨fun x => by show PyData.canLay0 (.tuple [_, _]) = true; simp [PyData.canLay0, PyData.canLayAll0, Lay.lay]⟩
instance [Lay α] [Lay β] [Lay γ] : Lay (T3 α β γ) := ⟨fun x => by show PyData.canLay0 (.tuple [_, _, _]) = true; simp [PyData.canLay0, PyData.canLayAll0, Lay.lay]⟩
instance [Lay α] [Lay β] [Lay γ] [Lay δ] : Lay (T4 α β γ δ) := ⟨fun x => by show PyData.canLay0 (.tuple [_, _, _, _]) = true; simp [PyData.canLay0, PyData.canLayAll0, Lay.lay]⟩
/-- the datum d stands for x -/
def Is (d : D) (x : α) : Prop := toPy d = some (Datum.toD x)
def Iss (ds : List D) (xs : List α) : Prop := toPys ds = some (xs.map Datum.toD)
theorem shaped_is [Lay α] (hd : Datum.depth α ≤ 64) (x : α) : SeqAt.shaped (Datum.toD x) = true := by
  unfold SeqAt.shaped
  rw [Lay.lay x, Bool.true_and, decide_eq_true_eq]
  exact Nat.le_trans (Datum.depth_le x) hd
theorem is_int (i : Int) : Is (.int i) i := rfl
theorem iss_nil : Iss [] ([] : List α) := rfl
theorem Iss.cons {d : D} {ds : List D} {x : α} {xs : List α} (h : Is d x) (g : Iss ds xs) : Iss (d :: ds) (x :: xs) := by
  unfold Iss toPys
  rw [h, g]
  rfl
theorem iss_map {enc : α → D} (h : ∀ x, Is (enc x) x) : ∀ xs : List α, Iss (xs.map enc) xs
  | [] => rfl
  | x :: xs => .cons (h x) (iss_map h xs)
theorem iss_ints (xs : List Int) : Iss (xs.map .int) xs := iss_map is_int xs
theorem is_lst {ds : List D} {xs : List α} (h : Iss ds xs) : Is (.lst ds) xs := by
  show (toPys ds).map _ = _
  rw [h]; rfl
theorem is_klst {ds : List D} {xs : List α} (h : Iss ds xs) : Is (.klst ds) xs := by
  show (toPys ds).map _ = _
  rw [h]; rfl
theorem eqD_is [Lay α] {a b : D} {x y : α} (h : Is a x) (g : Is b y) (hd : Datum.depth α ≤ 64) : eqD a b = some (decide (x = y)) := by
  unfold eqD
  rw [h, g]
  simp only [shaped_is hd, Bool.and_self, if_true, Datum.eqv]
theorem opEq_is [Lay α] {a b : D} {x y : α} (h : Is a x) (g : Is b y) (hd : Datum.depth α ≤ 64) : opEq a b = some (.bl (decide (x = y))) := by unfold opEq; rw [eqD_is h g hd]; rfl
theorem opNe_is [Lay α] {a b : D} {x y : α} (h : Is a x) (g : Is b y) (hd : Datum.depth α ≤ 64) : opNe a b = some (.bl (!decide (x = y))) := by unfold opNe; rw [eqD_is h g hd]; rfl
end
section
variable {α : Type} [DecidableEq α] [DatumOrd α]
theorem alikeB_is (xs : List α) : alikeB (xs.map Datum.toD) = true := by
  unfold alikeB
  rw [List.all_eq_true]
  intro x hx
  rw [List.all_eq_true]
  intro y hy
  exact (PySem.W.alikeAll_datum xs).1 x hx y hy
/-- the place of the first of the least -/
def minAt : List α → Nat
  | [] => 0
  | x :: xs => argBest (fun i j => DatumOrd.lt ((x :: xs).getD i x) ((x :: xs).getD j x)) xs.length
end
theorem runComp_map {ι : Type} {b : Bnd} {c : Envi → R Bool} {e : Envi → R Hd} {vs : List Nat} {enc : ι → D} (ρ : Envi) (F : ι → Option D) : ∀ l : List ι,
    (∀ x ∈ l, ∃ ρ1, b (enc x) ρ = some ρ1 ∧ ((c ρ1 = .ok false ρ1 ∧ F x = none ∧ wipeE ρ1 vs = ρ) ∨ (c ρ1 = .ok true ρ1 ∧ ∃ d ρ2, eMat e ρ1 = .ok (.dat d) ρ2 ∧ F x = some d ∧ wipeE ρ2 vs = ρ))) →
    runComp b c e vs (l.map enc) ρ = some (l.filterMap F, ρ)
  | [], _ => rfl
  | x :: l, h => by
    obtain ⟨ρ1, h1, h2⟩ := h x List.mem_cons_self
    have ih := runComp_map (b := b) (c := c) (e := e) (vs := vs) (enc := enc) ρ F l fun y hy => h y (List.mem_cons_of_mem _ hy)
    rw [List.map_cons]
    unfold runComp
    rw [h1]
    rcases h2 with ⟨h2, h3, h4⟩ | ⟨h2, d, ρ2, h3, h4, h5⟩
    · simp only [h2, h4, ih]
      rw [List.filterMap_cons_none h3]
    · simp only [h2, h3, h5, ih]
      rw [List.filterMap_cons_some h4]
end Pv

set_option Elab.async false
set_option linter.all false
set_option maxRecDepth 100000
namespace Pv
open PySem PySem.Spec PyProof.Rows L2
open PySem.W (Datum DatumOrd Tup T3 T4)
section
variable {α β : Type} {ρ ρ1 : Envi} {i n : Nat} {d a b : D} {o : Own} {c : Exc}
@[simp] theorem y_bind_ok {x : α} {k : α → Envi → R β} : (R.ok x ρ).bind k = k x ρ := id rfl
@[simp] theorem y_bind_exc {k : α → Envi → R β} : (R.exc c ρ : R α).bind k = .exc c ρ := id rfl
@[simp] theorem y_toFl_ok {x : α} {k : α → Envi → Fl} : (R.ok x ρ).toFl k = k x ρ := id rfl
@[simp] theorem y_toFl_exc {k : α → Envi → Fl} : (R.exc c ρ : R α).toFl k = .exc c ρ := id rfl
@[simp] theorem y_toFl_stuck {k : α → Envi → Fl} : (R.stuck : R α).toFl k = .stuck := id rfl
@[simp] theorem y_frz_dat : (R.ok (.dat d) ρ).frz = .ok (.dat d) ρ := id rfl
@[simp] theorem y_frz_pl : (R.ok (.pl i) ρ).frz = .ok (.pl i) ρ := id rfl
@[simp] theorem y_frz_tm : (R.ok (.tm o) ρ).frz = .ok (.dat o.toD) ρ := id rfl
@[simp] theorem y_frz_exc : (R.exc c ρ : R Hd).frz = .exc c ρ := id rfl
@[simp] theorem y_frz_stuck : (R.stuck : R Hd).frz = .stuck := id rfl
@[simp] theorem y_toD_li {l : List D} : (Own.li l).toD = .lst l := id rfl
@[simp] theorem y_toD_di {l : List (Key × D)} : (Own.di l).toD = .dk (l.map (·.1)) (l.map (·.2)) := id rfl
def varM (i : Nat) (ρ : Envi) : Option Slot → R Hd
  | some (.fz d) => .ok (.dat d) ρ
  | some (.ow _) => .ok (.pl i) ρ
  | some .self => .ok .obj ρ
  | _ => .stuck
@[simp] theorem y_var : eVar i ρ = varM i ρ ρ[i]? := by unfold eVar varM; rfl
@[simp] theorem y_varM_fz : varM i ρ (some (.fz d)) = .ok (.dat d) ρ := id rfl
@[simp] theorem y_varM_ow : varM i ρ (some (.ow o)) = .ok (.pl i) ρ := id rfl
@[simp] theorem y_C : eC d ρ = .ok (.dat d) ρ := id rfl
def derM : Option Slot → Option D
  | some (.fz d) => some d
  | some (.ow o) => some o.toD
  | _ => none
@[simp] theorem y_derM_ow : derM (some (.ow o)) = some o.toD := id rfl
@[simp] theorem y_der_dat : deref ρ (.dat d) = some d := id rfl
@[simp] theorem y_der_pl : deref ρ (.pl i) = derM ρ[i]? := by unfold deref derM; rfl
def matM (i : Nat) (ρ : Envi) : Option Slot → Option (D × Envi)
  | some (.fz d) => some (d, ρ)
  | some (.ow o) => some (o.toD, ρ.set i (.fz o.toD))
  | _ => none
@[simp] theorem y_matM_ow : matM i ρ (some (.ow o)) = some (o.toD, ρ.set i (.fz o.toD)) := id rfl
@[simp] theorem y_mat_dat : mat ρ (.dat d) = some (d, ρ) := id rfl
@[simp] theorem y_mat_pl : mat ρ (.pl i) = matM i ρ ρ[i]? := by unfold mat matM; rfl
def matAM (hs : List Hd) : Option (D × Envi) → Option (List D × Envi)
  | some (d, ρ1) => match matAll ρ1 hs with
    | some (ds, ρ2) => some (d :: ds, ρ2)
    | none => none
  | none => none
def consM (d : D) : Option (List D × Envi) → Option (List D × Envi)
  | some (ds, ρ2) => some (d :: ds, ρ2)
  | none => none
@[simp] theorem y_matAll_nil : matAll ρ [] = some ([], ρ) := id rfl
@[simp] theorem y_matAll_cons {h : Hd} {hs : List Hd} : matAll ρ (h :: hs) = matAM hs (mat ρ h) := by unfold matAll matAM; rfl
@[simp] theorem y_matAM {hs : List Hd} : matAM hs (some (d, ρ)) = consM d (matAll ρ hs) := by unfold matAM consM; rfl
@[simp] theorem y_consM {ds : List D} : consM d (some (ds, ρ)) = some (d :: ds, ρ) := id rfl
def derAM : Option D → Option (List D) → Option (List D)
  | some d, some ds => some (d :: ds)
  | _, _ => none
@[simp] theorem y_derA_nil : derefAll ρ [] = some [] := id rfl
@[simp] theorem y_derA_cons {h : Hd} {hs : List Hd} : derefAll ρ (h :: hs) = derAM (deref ρ h) (derefAll ρ hs) := by unfold derAM; rfl
@[simp] theorem y_derAM {ds : List D} : derAM (some d) (some ds) = some (d :: ds) := id rfl
def matK {γ : Type} (k : D → Envi → R γ) : Option (D × Envi) → R γ
  | some (d, ρ2) => k d ρ2
  | none => .stuck
def emK (h : Hd) (ρ1 : Envi) : R Hd := matK (fun d ρ2 => .ok (.dat d) ρ2) (mat ρ1 h)
def emM : Option (D × Envi) → R Hd
  | some (d, ρ2) => .ok (.dat d) ρ2
  | none => .stuck
@[simp] theorem y_emM : emM (some (d, ρ)) = .ok (.dat d) ρ := id rfl
@[simp] theorem y_emK {h : Hd} : emK h ρ = emM (mat ρ h) := by unfold emK matK emM; rfl
@[simp] theorem y_eMat {f : Envi → R Hd} : eMat f ρ = (f ρ).frz.bind emK := by unfold eMat emK matK; rfl
@[simp] theorem y_opt1 : opt1 ρ (some d) = .ok (.dat d) ρ := id rfl
def on1M (op : D → Option D) (ρ : Envi) : Option D → R Hd
  | some a => opt1 ρ (op a)
  | none => .stuck
def on2M (op : D → D → Option D) (ρ : Envi) : Option D → Option D → R Hd
  | some a, some b => opt1 ρ (op a b)
  | _, _ => .stuck
@[simp] theorem y_on1M {op : D → Option D} : on1M op ρ (some a) = opt1 ρ (op a) := id rfl
@[simp] theorem y_on2M {op : D → D → Option D} : on2M op ρ (some a) (some b) = opt1 ρ (op a b) := id rfl
@[simp] theorem y_on1 {op : D → Option D} {h : Hd} : on1 op ρ h = on1M op ρ (deref ρ h) := by unfold on1 on1M; rfl
@[simp] theorem y_on2 {op : D → D → Option D} {h k : Hd} : on2 op ρ h k = on2M op ρ (deref ρ h) (deref ρ k) := by unfold on2 on2M; rfl
def bk2 (op : D → D → Option D) (h k : Hd) (ρ2 : Envi) : R Hd := on2 op ρ2 h k
def bk1 (op : D → D → Option D) (g : Envi → R Hd) (h : Hd) (ρ1 : Envi) : R Hd := (g ρ1).frz.bind (bk2 op h)
@[simp] theorem y_bk2 {op : D → D → Option D} {h k : Hd} : bk2 op h k ρ = on2 op ρ h k := id rfl
@[simp] theorem y_bk1 {op : D → D → Option D} {g : Envi → R Hd} {h : Hd} : bk1 op g h ρ = (g ρ).frz.bind (bk2 op h) := id rfl
@[simp] theorem y_bin {op : D → D → Option D} {f g : Envi → R Hd} : eBin op f g ρ = (f ρ).frz.bind (bk1 op g) := id rfl
def uk (op : D → Option D) (h : Hd) (ρ1 : Envi) : R Hd := on1 op ρ1 h
@[simp] theorem y_uk {op : D → Option D} {h : Hd} : uk op h ρ = on1 op ρ h := id rfl
@[simp] theorem y_un {op : D → Option D} {f : Envi → R Hd} : eUn op f ρ = (f ρ).frz.bind (uk op) := id rfl
@[simp] theorem y_aNil : aNil ρ = .ok [] ρ := id rfl
def ck2 (h : Hd) (hs : List Hd) (ρ2 : Envi) : R (List Hd) := .ok (h :: hs) ρ2
def ck1 (g : Envi → R (List Hd)) (h : Hd) (ρ1 : Envi) : R (List Hd) := (g ρ1).bind (ck2 h)
@[simp] theorem y_ck2 {h : Hd} {hs : List Hd} : ck2 h hs ρ = .ok (h :: hs) ρ := id rfl
@[simp] theorem y_ck1 {g : Envi → R (List Hd)} {h : Hd} : ck1 g h ρ = (g ρ).bind (ck2 h) := id rfl
@[simp] theorem y_aCons {f : Envi → R Hd} {g : Envi → R (List Hd)} : aCons f g ρ = (f ρ).frz.bind (ck1 g) := id rfl
def matsK {γ : Type} (k : List D → Envi → R γ) : Option (List D × Envi) → R γ
  | some (ds, ρ2) => k ds ρ2
  | none => .stuck
def eTupKM : Option (List D × Envi) → R Hd
  | some (ds, ρ2) => .ok (.dat (.tup ds)) ρ2
  | none => .stuck
def eTupK (hs : List Hd) (ρ1 : Envi) : R Hd := eTupKM (matAll ρ1 hs)
@[simp] theorem y_tupM {ds : List D} : eTupKM (some (ds, ρ)) = .ok (.dat (.tup ds)) ρ := id rfl
@[simp] theorem y_tupK {hs : List Hd} : eTupK hs ρ = eTupKM (matAll ρ hs) := id rfl
@[simp] theorem y_tup {g : Envi → R (List Hd)} : eTup g ρ = (g ρ).bind eTupK := by unfold eTup eTupK eTupKM; rfl
def eTupFKM : Option (List D × Envi) → R Hd
  | some (ds, ρ2) => .ok (.dat (.ktup ds)) ρ2
  | none => .stuck
def eTupFK (hs : List Hd) (ρ1 : Envi) : R Hd := eTupFKM (matAll ρ1 hs)
@[simp] theorem y_tupFM {ds : List D} : eTupFKM (some (ds, ρ)) = .ok (.dat (.ktup ds)) ρ := id rfl
@[simp] theorem y_tupFK {hs : List Hd} : eTupFK hs ρ = eTupFKM (matAll ρ hs) := id rfl
@[simp] theorem y_tupF {g : Envi → R (List Hd)} : eTupF g ρ = (g ρ).bind eTupFK := by unfold eTupF eTupFK eTupFKM; rfl
def eLstKM : Option (List D × Envi) → R Hd
  | some (ds, ρ2) => .ok (.tm (.li ds)) ρ2
  | none => .stuck
def eLstK (hs : List Hd) (ρ1 : Envi) : R Hd := eLstKM (matAll ρ1 hs)
@[simp] theorem y_lstM {ds : List D} : eLstKM (some (ds, ρ)) = .ok (.tm (.li ds)) ρ := id rfl
@[simp] theorem y_lstK {hs : List Hd} : eLstK hs ρ = eLstKM (matAll ρ hs) := id rfl
@[simp] theorem y_lst {g : Envi → R (List Hd)} : eLst g ρ = (g ρ).bind eLstK := by unfold eLst eLstK eLstKM; rfl
@[simp] theorem y_ofRf_fz : ofRf ρ (.fz d) = .ok (.dat d) ρ := id rfl
@[simp] theorem y_ofRf_ow : ofRf ρ (.ow o) = .ok (.tm o) ρ := id rfl
@[simp] theorem y_ofRf_exc : ofRf ρ (.exc c) = .exc c ρ := id rfl
def lkM (fs : List D → Rf) : Option (List D × Envi) → R Hd
  | some (ds, ρ2) => ofRf ρ2 (fs ds)
  | none => .stuck
def lk (fs : List D → Rf) (hs : List Hd) (ρ1 : Envi) : R Hd := lkM fs (matAll ρ1 hs)
@[simp] theorem y_lkM {fs : List D → Rf} {ds : List D} : lkM fs (some (ds, ρ)) = ofRf ρ (fs ds) := id rfl
@[simp] theorem y_lk {fs : List D → Rf} {hs : List Hd} : lk fs hs ρ = lkM fs (matAll ρ hs) := id rfl
@[simp] theorem y_call {fs : List D → Rf} {g : Envi → R (List Hd)} : eCall fs g ρ = (g ρ).bind (lk fs) := by unfold eCall lk lkM; rfl
def dersK {γ : Type} (k : List D → R γ) : Option (List D) → R γ
  | some ds => k ds
  | none => .stuck
def cbM (fs : List D → Rf) (ρ1 : Envi) : Option (List D) → R Hd
  | some ds => ofRf ρ1 (fs ds)
  | none => .stuck
def cbk (fs : List D → Rf) (hs : List Hd) (ρ1 : Envi) : R Hd := cbM fs ρ1 (derefAll ρ1 hs)
@[simp] theorem y_cbM {fs : List D → Rf} {ds : List D} : cbM fs ρ (some ds) = ofRf ρ (fs ds) := id rfl
@[simp] theorem y_cbk {fs : List D → Rf} {hs : List Hd} : cbk fs hs ρ = cbM fs ρ (derefAll ρ hs) := id rfl
@[simp] theorem y_cb {fs : List D → Rf} {g : Envi → R (List Hd)} : eCB fs g ρ = (g ρ).bind (cbk fs) := by unfold eCB cbk cbM; rfl
@[simp] theorem y_ofBl {x : Bool} : ofBl ρ (some (.bl x)) = .ok x ρ := id rfl
def tsk (h : Hd) (ρ1 : Envi) : R Bool := ofBl ρ1 (deref ρ1 h)
@[simp] theorem y_tsk {h : Hd} : tsk h ρ = ofBl ρ (deref ρ h) := id rfl
@[simp] theorem y_tsE {f : Envi → R Hd} : tsE f ρ = (f ρ).frz.bind tsk := id rfl
def andk (g : Envi → R Bool) (b : Bool) (ρ1 : Envi) : R Bool := if b = true then g ρ1 else .ok false ρ1
@[simp] theorem y_andk {g : Envi → R Bool} {b : Bool} : andk g b ρ = if b = true then g ρ else .ok false ρ := id rfl
@[simp] theorem y_tsAnd {f g : Envi → R Bool} : tsAnd f g ρ = (f ρ).bind (andk g) := id rfl
def ork (g : Envi → R Bool) (b : Bool) (ρ1 : Envi) : R Bool := if b = true then .ok true ρ1 else g ρ1
@[simp] theorem y_ork {g : Envi → R Bool} {b : Bool} : ork g b ρ = if b = true then .ok true ρ else g ρ := id rfl
@[simp] theorem y_tsOr {f g : Envi → R Bool} : tsOr f g ρ = (f ρ).bind (ork g) := id rfl
def notk (b : Bool) (ρ1 : Envi) : R Bool := .ok (!b) ρ1
@[simp] theorem y_notk {b : Bool} : notk b ρ = .ok (!b) ρ := id rfl
@[simp] theorem y_tsNot {f : Envi → R Bool} : tsNot f ρ = (f ρ).bind notk := id rfl
def oftk (b : Bool) (ρ1 : Envi) : R Hd := .ok (.dat (.bl b)) ρ1
def ifk (f g : Envi → R Hd) (b : Bool) (ρ1 : Envi) : R Hd := if b = true then f ρ1 else g ρ1
@[simp] theorem y_ifk {f g : Envi → R Hd} {b : Bool} : ifk f g b ρ = if b = true then f ρ else g ρ := id rfl
@[simp] theorem y_eIf {c : Envi → R Bool} {f g : Envi → R Hd} : eIf c f g ρ = (c ρ).bind (ifk f g) := id rfl
def chM (op' : D → D → Option D) (k : Hd) (e : Envi → R Hd) (ρ : Envi) : Option D → R Hd
  | some (.bl true) => (e ρ).frz.bind fun l ρ3 => on2 op' ρ3 k l
  | some (.bl false) => .ok (.dat (.bl false)) ρ
  | _ => .stuck
def chN (op op' : D → D → Option D) (k : Hd) (e : Envi → R Hd) (ρ : Envi) : Option D → Option D → R Hd
  | some a, some b => chM op' k e ρ (op a b)
  | _, _ => .stuck
@[simp] theorem y_chN {op op' : D → D → Option D} {k : Hd} {e : Envi → R Hd} : chN op op' k e ρ (some a) (some b) = chM op' k e ρ (op a b) := id rfl
def ck3 (op' : D → D → Option D) (k l : Hd) (ρ3 : Envi) : R Hd := on2 op' ρ3 k l
@[simp] theorem y_ck3 {op' : D → D → Option D} {k l : Hd} : ck3 op' k l ρ = on2 op' ρ k l := id rfl
@[simp] theorem y_chM {op' : D → D → Option D} {k : Hd} {e : Envi → R Hd} {x : Bool} : chM op' k e ρ (some (.bl x)) = if x = true then (e ρ).frz.bind (ck3 op' k) else .ok (.dat (.bl false)) ρ := by cases x <;> rfl
def chk2 (op op' : D → D → Option D) (e : Envi → R Hd) (h k : Hd) (ρ2 : Envi) : R Hd := chN op op' k e ρ2 (deref ρ2 h) (deref ρ2 k)
def chk1 (op op' : D → D → Option D) (g e : Envi → R Hd) (h : Hd) (ρ1 : Envi) : R Hd := (g ρ1).frz.bind (chk2 op op' e h)
@[simp] theorem y_chk2 {op op' : D → D → Option D} {e : Envi → R Hd} {h k : Hd} : chk2 op op' e h k ρ = chN op op' k e ρ (deref ρ h) (deref ρ k) := id rfl
@[simp] theorem y_chk1 {op op' : D → D → Option D} {g e : Envi → R Hd} {h : Hd} : chk1 op op' g e h ρ = (g ρ).frz.bind (chk2 op op' e h) := id rfl
@[simp] theorem y_chain {op op' : D → D → Option D} {f g e : Envi → R Hd} : eChain op op' f g e ρ = (f ρ).frz.bind (chk1 op op' g e) := by unfold eChain chk1 chk2 chN chM; rfl
def Fl.andThen (r : Fl) (h : Sem) : Fl := match r with
  | .nx ρ => h ρ
  | r => r
@[simp] theorem y_at_nx {h : Sem} : (Fl.nx ρ).andThen h = h ρ := id rfl
@[simp] theorem y_at_ret {h : Sem} {v : Rv} : (Fl.ret v ρ).andThen h = .ret v ρ := id rfl
@[simp] theorem y_at_exc {h : Sem} : (Fl.exc c ρ).andThen h = .exc c ρ := id rfl
@[simp] theorem y_at_stuck {h : Sem} : (Fl.stuck).andThen h = .stuck := id rfl
@[simp] theorem y_seq {g h : Sem} : sSeq g h ρ = (g ρ).andThen h := by unfold sSeq Fl.andThen; rfl
@[simp] theorem y_next : sNext ρ = .nx ρ := id rfl
def ifs (g h : Sem) (b : Bool) (ρ1 : Envi) : Fl := if b = true then g ρ1 else h ρ1
@[simp] theorem y_ifs {g h : Sem} {b : Bool} : ifs g h b ρ = if b = true then g ρ else h ρ := id rfl
@[simp] theorem y_if {c : Envi → R Bool} {g h : Sem} : sIf c g h ρ = (c ρ).toFl (ifs g h) := id rfl
def rek (h : Hd) (ρ1 : Envi) : Fl := retH ρ1 h
@[simp] theorem y_rek {h : Hd} : rek h ρ = retH ρ h := id rfl
@[simp] theorem y_ret {f : Envi → R Hd} : sRet f ρ = (f ρ).toFl rek := id rfl
@[simp] theorem y_retH_dat : retH ρ (.dat d) = .ret (.fz d) ρ := id rfl
def retM : Option (D × Envi) → Fl
  | some (d, ρ2) => .ret (.fz d) ρ2
  | none => .stuck
@[simp] theorem y_retM : retM (some (d, ρ)) = .ret (.fz d) ρ := id rfl
@[simp] theorem y_retH_pl : retH ρ (.pl i) = retM (mat ρ (.pl i)) := by unfold retH retM; rfl
def drk (_ : Hd) (ρ1 : Envi) : Fl := .nx ρ1
@[simp] theorem y_drk {h : Hd} : drk h ρ = .nx ρ := id rfl
@[simp] theorem y_drop {f : Envi → R Hd} : sDrop f ρ = (f ρ).frz.toFl drk := id rfl
def sek (i : Nat) (h : Hd) (ρ1 : Envi) : Fl := setH i ρ1 h
@[simp] theorem y_sek {h : Hd} : sek i h ρ = setH i ρ h := id rfl
@[simp] theorem y_set {f : Envi → R Hd} : sSet i f ρ = (f ρ).toFl (sek i) := id rfl
@[simp] theorem y_setH_tm : setH i ρ (.tm o) = .nx (ρ.set i (.ow o)) := id rfl
@[simp] theorem y_setH_dat : setH i ρ (.dat d) = .nx (ρ.set i (.fz d)) := id rfl
def setM (i : Nat) : Option (D × Envi) → Fl
  | some (d, ρ2) => .nx (ρ2.set i (.fz d))
  | none => .stuck
@[simp] theorem y_raise : sRaise c ρ = .exc c ρ := id rfl
def bndM (k : Envi → Fl) : Option Envi → Fl
  | some ρ1 => k ρ1
  | none => .stuck
def ask (b : Bnd) (h : Hd) (ρ1 : Envi) : Fl := bindFl b h ρ1 .nx
def bsM (bs : Bnds) (r : List D) : Option Envi → Option Envi
  | some ρ1 => bs r ρ1
  | none => none
def fok (b : Bnd) (g : Sem) (ds : List D) (ρ1 : Envi) : Fl := runFor b g ds ρ1
@[simp] theorem y_fok {b : Bnd} {g : Sem} {ds : List D} : fok b g ds ρ = runFor b g ds ρ := id rfl
@[simp] theorem y_for {it : Envi → R (List D)} {b : Bnd} {g : Sem} : sFor it b g ρ = (it ρ).toFl (fok b g) := id rfl
@[simp] theorem y_toRf_nx : toRf (.nx ρ) = .fz .non := id rfl
@[simp] theorem y_toRf_fz : toRf (.ret (.fz d) ρ) = .fz d := id rfl
@[simp] theorem y_toRf_exc : toRf (.exc c ρ) = .exc c := id rfl
/-- numbers that fit a line -/
def Small (n : Nat) : Prop := n < 16777216
instance (n : Nat) : Decidable (Small n) := by unfold Small; infer_instance
theorem small_of {n : Nat} (h : n ≤ 1000) : Small n := by unfold Small; omega
def SmallI (j : Int) : Prop := -16777216 < j ∧ j < 16777216
instance (n : Int) : Decidable (SmallI n) := by unfold SmallI; infer_instance
theorem smallI_of {n : Int} (h0 : -1000 ≤ n) (h : n ≤ 1000) : SmallI n := ⟨by omega, by omega⟩
theorem smallI_nat {n : Nat} (h : Small n) : SmallI n := by unfold Small at h; exact ⟨by omega, by omega⟩
/-- 0 .. n - 1 -/
def nats (n : Nat) : List D := (List.range n).map fun i : Nat => D.int (i : Int)
theorem rangeD_nats (n : Nat) : rangeD 0 n = nats n := by
  unfold rangeD nats
  exact List.map_congr_left fun i _ => by rw [Int.zero_add]
@[simp] theorem y_opt2 {γ : Type} {x : γ} : opt2 ρ (some x) = .ok x ρ := id rfl
def byM (op : D → Option (List D)) (ρ : Envi) : Hd → R (List D)
  | .dat d => opt2 ρ (op d)
  | _ => .stuck
@[simp] theorem y_byM {op : D → Option (List D)} : byM op ρ (.dat d) = opt2 ρ (op d) := id rfl
def byk (op : D → Option (List D)) (h : Hd) (ρ1 : Envi) : R (List D) := byM op ρ1 h
@[simp] theorem y_byk {op : D → Option (List D)} {h : Hd} : byk op h ρ = byM op ρ h := id rfl
@[simp] theorem y_itBy {op : D → Option (List D)} {f : Envi → R Hd} : itBy op f ρ = (eMat f ρ).bind (byk op) := by unfold itBy byk byM; rfl
@[simp] theorem y_lstOf_l {l : List D} : lstOf (.lst l) = some l := id rfl
@[simp] theorem y_tupOf_k {l : List D} : tupOf (.ktup l) = some l := id rfl
def rngM (ρ : Envi) : Option (List D) → R (List D)
  | some [.int j] => if -16777216 < j ∧ j < 16777216 then .ok (rangeD 0 j.toNat) ρ else .stuck
  | _ => .stuck
@[simp] theorem y_rngM {j : Int} : rngM ρ (some [.int j]) = if SmallI j then .ok (nats j.toNat) ρ else .stuck := by
  rw [← rangeD_nats]; rfl
def rnk (hs : List Hd) (ρ1 : Envi) : R (List D) := rngM ρ1 (derefAll ρ1 hs)
@[simp] theorem y_rnk {hs : List Hd} : rnk hs ρ = rngM ρ (derefAll ρ hs) := id rfl
@[simp] theorem y_rng1 {g : Envi → R (List Hd)} : itRng1 g ρ = (g ρ).bind rnk := by unfold itRng1 rnk rngM; rfl
def rngM2 (ρ : Envi) : Option (List D) → R (List D)
  | some [.int i, .int j] => if -16777216 < i ∧ i < 16777216 ∧ j < 16777216 ∧ -16777216 < j ∧ j - i ≤ 16777216 then .ok (rangeD i (j - i).toNat) ρ else .stuck
  | _ => .stuck
def rnk2 (hs : List Hd) (ρ1 : Envi) : R (List D) := rngM2 ρ1 (derefAll ρ1 hs)
def lrgM (ρ : Envi) : Option D → R Hd
  | some (.int j) => if -16777216 < j ∧ j < 16777216 then .ok (.tm (.li (rangeD 0 j.toNat))) ρ else .stuck
  | _ => .stuck
@[simp] theorem y_lrgM {j : Int} : lrgM ρ (some (.int j)) = if SmallI j then .ok (.tm (.li (nats j.toNat))) ρ else .stuck := by
  rw [← rangeD_nats]; rfl
def lrk (h : Hd) (ρ1 : Envi) : R Hd := lrgM ρ1 (deref ρ1 h)
@[simp] theorem y_lrk {h : Hd} : lrk h ρ = lrgM ρ (deref ρ h) := id rfl
@[simp] theorem y_lrg1 {f : Envi → R Hd} : eLRg1 f ρ = (f ρ).frz.bind lrk := by unfold eLRg1 lrk lrgM; rfl
def enM (op : D → Option (List D)) (ρ : Envi) : List Hd → R (List D)
  | [.dat d] => opt2 ρ ((op d).map (enumD 0))
  | _ => .stuck
def enk (op : D → Option (List D)) (hs : List Hd) (ρ1 : Envi) : R (List D) := enM op ρ1 hs
def cok (b : Bnd) (c : Envi → R Bool) (e : Envi → R Hd) (vs : List Nat) (ds : List D) (ρ1 : Envi) : R Hd := opt3 (runComp b c e vs ds (wipeE ρ1 vs))
@[simp] theorem y_cok {b : Bnd} {c : Envi → R Bool} {e : Envi → R Hd} {vs : List Nat} {ds : List D} : cok b c e vs ds ρ = opt3 (runComp b c e vs ds (wipeE ρ vs)) := id rfl
@[simp] theorem y_comp {it : Envi → R (List D)} {b : Bnd} {c : Envi → R Bool} {e : Envi → R Hd} {vs : List Nat} : eComp it b c e vs ρ = (it ρ).bind (cok b c e vs) := id rfl
@[simp] theorem y_opt3 {r : List D} : opt3 (some (r, ρ)) = .ok (.tm (.li r)) ρ := id rfl
@[simp] theorem y_wipe0 : wipeE ρ [] = ρ := id rfl
@[simp] theorem y_wipe1 {v : Nat} {vs : List Nat} : wipeE ρ (v :: vs) = (wipeE ρ vs).set v .un := id rfl
@[simp] theorem y_add_int {x y : Int} : opAdd (.int x) (.int y) = some (.int (x + y)) := id rfl
@[simp] theorem y_sub {x y : Int} : opSub (.int x) (.int y) = some (.int (x - y)) := id rfl
@[simp] theorem y_mul {x y : Int} : opMul (.int x) (.int y) = if L2.CMul x y ∨ L2.CMulW x y then some (.int (x * y)) else none := id rfl
@[simp] theorem y_mod {x y : Int} : opMod (.int x) (.int y) = if 0 < y then some (.int (x % y)) else none := id rfl
@[simp] theorem y_div {x y : Int} : opDiv (.int x) (.int y) = if L2.CDivW x y then some (.int (x / y)) else none := id rfl
@[simp] theorem y_neg {x : Int} : opNeg (.int x) = some (.int (-x)) := id rfl
@[simp] theorem y_lt {x y : Int} : opLtA (.int x) (.int y) = some (.bl (decide (x < y))) := id rfl
@[simp] theorem y_le {x y : Int} : opLe (.int x) (.int y) = some (.bl (decide (x ≤ y))) := id rfl
@[simp] theorem y_gt {x y : Int} : opGt (.int x) (.int y) = some (.bl (decide (y < x))) := id rfl
@[simp] theorem y_eqI {x y : Int} : opEq (.int x) (.int y) = some (.bl (decide (x = y))) := opEq_is (is_int x) (is_int y) (by decide)
@[simp] theorem y_neI {x y : Int} : opNe (.int x) (.int y) = some (.bl (!decide (x = y))) := opNe_is (is_int x) (is_int y) (by decide)
@[simp] theorem y_ixL {l : List D} {x : Int} : opIx (.lst l) (.int x) = atI l x := id rfl
@[simp] theorem y_ixK {l : List D} {x : Int} : opIx (.klst l) (.int x) = atI l x := id rfl
@[simp] theorem y_ixT {l : List D} {x : Int} : opIx (.tup l) (.int x) = atI l x := id rfl
@[simp] theorem y_ixU {l : List D} {x : Int} : opIx (.ktup l) (.int x) = atI l x := id rfl
@[simp] theorem y_at0 {l : List D} : atI (d :: l) 0 = some d := atI_nat (j := 0) rfl
@[simp] theorem y_at1 {l : List D} : atI (a :: d :: l) 1 = some d := atI_nat (j := 1) rfl
@[simp] theorem y_at2 {l : List D} : atI (a :: b :: d :: l) 2 = some d := atI_nat (j := 2) rfl
@[simp] theorem y_len {ds : List D} : fLen [.lst ds] = .fz (.int ds.length) := id rfl
@[simp] theorem y_lenK {ds : List D} : fLen [.klst ds] = .fz (.int ds.length) := id rfl
@[simp] theorem y_lenT {ds : List D} : fLen [.tup ds] = .fz (.int ds.length) := id rfl
@[simp] theorem y_lenU {ds : List D} : fLen [.ktup ds] = .fz (.int ds.length) := id rfl
@[simp] theorem y_listU {ds : List D} : fList [.ktup ds] = .ow (.li ds) := id rfl
@[simp] theorem y_tupL {ds : List D} : fTup [.lst ds] = .fz (.ktup ds) := id rfl
def mutM (k : Nat) (mu : Own → List D → Option (D × Own)) (ρ : Envi) (ds : List D) : Option Slot → R Hd
  | some (.ow o) => mutN k ρ (mu o ds)
  | _ => .stuck
where mutN (k : Nat) (ρ : Envi) : Option (D × Own) → R Hd
  | some (d, o') => .ok (.dat d) (ρ.set k (.ow o'))
  | none => .stuck
@[simp] theorem y_mutM {k : Nat} {mu : Own → List D → Option (D × Own)} {ds : List D} : mutM k mu ρ ds (some (.ow o)) = mutM.mutN k ρ (mu o ds) := id rfl
@[simp] theorem y_mutN {k : Nat} : mutM.mutN k ρ (some (d, o)) = .ok (.dat d) (ρ.set k (.ow o)) := id rfl
@[simp] theorem y_mutEnd {k : Nat} {mu : Own → List D → Option (D × Own)} {ds : List D} : mutEnd k mu ρ ds = mutM k mu ρ ds ρ[k]? := by unfold mutEnd mutM mutM.mutN; rfl
def tyM (T : String) : Option Slot → Bool
  | some (.ow o) => ownTy o == T
  | _ => false
@[simp] theorem y_tyM_l {l : List D} : tyM "list" (some (.ow (.li l))) = true := id rfl
@[simp] theorem y_isTy {T : String} {k : Nat} : isTy T ρ k = tyM T ρ[k]? := by unfold isTy tyM; rfl
@[simp] theorem y_okT : okT ρ = true := id rfl
def muM (k : Nat) (mu : Own → List D → Option (D × Own)) : Option (List D × Envi) → R Hd
  | some (ds, ρ2) => mutEnd k mu ρ2 ds
  | none => .stuck
def muk (k : Nat) (mu : Own → List D → Option (D × Own)) (hs : List Hd) (ρ1 : Envi) : R Hd := muM k mu (matAll ρ1 hs)
@[simp] theorem y_muM {k : Nat} {mu : Own → List D → Option (D × Own)} {ds : List D} : muM k mu (some (ds, ρ)) = mutEnd k mu ρ ds := id rfl
@[simp] theorem y_muk {k : Nat} {mu : Own → List D → Option (D × Own)} {hs : List Hd} : muk k mu hs ρ = muM k mu (matAll ρ hs) := id rfl
@[simp] theorem y_mut {k : Nat} {ok : Envi → Bool} {T : String} {mu : Own → List D → Option (D × Own)} {g : Envi → R (List Hd)} : eMut k ok T mu g ρ = if (ok ρ && isTy T ρ k) = true then (g ρ).bind (muk k mu) else .stuck := by unfold eMut muk muM; rfl
@[simp] theorem y_mut0 {k : Nat} {ok : Envi → Bool} {T : String} {mu : Own → List D → Option (D × Own)} : eMut0 k ok T mu ρ = if (ok ρ && isTy T ρ k) = true then mutEnd k mu ρ [] else .stuck := id rfl
@[simp] theorem y_append {l : List D} : muAppend (.li l) [d] = if Small l.length then some (.non, .li (l ++ [d])) else none := id rfl
@[simp] theorem y_extend {l l' : List D} : muExtend (.li l) [.lst l'] = if l.length + l'.length ≤ big then some (.non, .li (l ++ l')) else none := id rfl
@[simp] theorem y_popAt {l : List D} {x : Int} : muPopAt (.li l) [.int x] = if 0 ≤ x ∧ x < l.length ∧ l.length ≤ big then (match l[x.toNat]? with | some d => some (d, .li (l.eraseIdx x.toNat)) | none => none) else none := id rfl
end
section
variable {ρ : Envi} {i n : Nat} {d a b : D} {o : Own} {c : Exc}
@[simp] theorem y_pNo : pNo ρ = .ok none ρ := id rfl
def psM (ρ : Envi) : Option D → R (Option Int)
  | some (.int i) => .ok (some i) ρ
  | _ => .stuck
def psk (h : Hd) (ρ1 : Envi) : R (Option Int) := psM ρ1 (deref ρ1 h)
@[simp] theorem y_psM {x : Int} : psM ρ (some (.int x)) = .ok (some x) ρ := id rfl
@[simp] theorem y_psk {h : Hd} : psk h ρ = psM ρ (deref ρ h) := id rfl
@[simp] theorem y_pSome {f : Envi → R Hd} : pSome f ρ = (f ρ).frz.bind psk := by unfold pSome psk psM; rfl
def slM (op : D → Option Int → Option Int → Option D) (l u : Option Int) (ρ : Envi) : Option D → R Hd
  | some d => opt1 ρ (op d l u)
  | none => .stuck
def sl3 (op : D → Option Int → Option Int → Option D) (h : Hd) (l u : Option Int) (ρ3 : Envi) : R Hd := slM op l u ρ3 (deref ρ3 h)
def sl2 (op : D → Option Int → Option Int → Option D) (hi : Envi → R (Option Int)) (h : Hd) (l : Option Int) (ρ2 : Envi) : R Hd := (hi ρ2).bind (sl3 op h l)
def sl1 (op : D → Option Int → Option Int → Option D) (lo hi : Envi → R (Option Int)) (h : Hd) (ρ1 : Envi) : R Hd := (lo ρ1).bind (sl2 op hi h)
@[simp] theorem y_slM {op : D → Option Int → Option Int → Option D} {l u : Option Int} : slM op l u ρ (some d) = opt1 ρ (op d l u) := id rfl
@[simp] theorem y_sl3 {op : D → Option Int → Option Int → Option D} {h : Hd} {l u : Option Int} : sl3 op h l u ρ = slM op l u ρ (deref ρ h) := id rfl
@[simp] theorem y_sl2 {op : D → Option Int → Option Int → Option D} {hi : Envi → R (Option Int)} {h : Hd} {l : Option Int} : sl2 op hi h l ρ = (hi ρ).bind (sl3 op h l) := id rfl
@[simp] theorem y_sl1 {op : D → Option Int → Option Int → Option D} {lo hi : Envi → R (Option Int)} {h : Hd} : sl1 op lo hi h ρ = (lo ρ).bind (sl2 op hi h) := id rfl
@[simp] theorem y_sl {op : D → Option Int → Option Int → Option D} {f : Envi → R Hd} {lo hi : Envi → R (Option Int)} : eSl op f lo hi ρ = (f ρ).frz.bind (sl1 op lo hi) := by unfold eSl sl1 sl2 sl3 slM; rfl
def leM (op : D → List D → Option D) (ρ : Envi) : Option D → Option (List D) → R Hd
  | some a, some ds => opt1 ρ (op a ds)
  | _, _ => .stuck
@[simp] theorem y_leM {op : D → List D → Option D} {ds : List D} : leM op ρ (some a) (some ds) = opt1 ρ (op a ds) := id rfl
@[simp] theorem y_lookEnd {op : D → List D → Option D} {h : Hd} {hs : List Hd} : lookEnd op ρ h hs = leM op ρ (deref ρ h) (derefAll ρ hs) := by unfold lookEnd leM; rfl
def chkM (c : D → Bool) : Option D → Bool
  | some d => c d
  | none => false
@[simp] theorem y_chkM {c : D → Bool} : chkM c (some d) = c d := id rfl
@[simp] theorem y_chk {c : D → Bool} {h : Hd} : chk c ρ h = chkM c (deref ρ h) := by unfold chk chkM; rfl
def me2 (op : D → List D → Option D) (h : Hd) (hs : List Hd) (ρ2 : Envi) : R Hd := lookEnd op ρ2 h hs
def me1 (c : D → Bool) (op : D → List D → Option D) (fa : Envi → R (List Hd)) (h : Hd) (ρ1 : Envi) : R Hd := if chk c ρ1 h = true then (fa ρ1).bind (me2 op h) else .stuck
@[simp] theorem y_me2 {op : D → List D → Option D} {h : Hd} {hs : List Hd} : me2 op h hs ρ = lookEnd op ρ h hs := id rfl
@[simp] theorem y_me1 {c : D → Bool} {op : D → List D → Option D} {fa : Envi → R (List Hd)} {h : Hd} : me1 c op fa h ρ = if chk c ρ h = true then (fa ρ).bind (me2 op h) else .stuck := id rfl
@[simp] theorem y_meth {c : D → Bool} {op : D → List D → Option D} {f : Envi → R Hd} {fa : Envi → R (List Hd)} : eMeth c op f fa ρ = (f ρ).frz.bind (me1 c op fa) := by unfold eMeth me1 me2; rfl
@[simp] theorem y_tyD {l : List D} : tyD "list" (.lst l) = true := id rfl
end
theorem runFor_rel {ι : Type} {b : Bnd} {g : Sem} {enc : ι → D} (I : List ι → Envi → Prop) (h : ∀ x r ρ, I (x :: r) ρ → ∃ ρ1 ρ2, b (enc x) ρ = some ρ1 ∧ (g ρ1 = .nx ρ2 ∨ g ρ1 = .ct ρ2) ∧ I r ρ2) :
    ∀ ds ρ, I ds ρ → ∃ ρ', runFor b g (ds.map enc) ρ = .nx ρ' ∧ I [] ρ'
  | [], ρ, i => ⟨ρ, rfl, i⟩
  | d :: r, ρ, i => by
    obtain ⟨ρ1, ρ2, h1, h2, h3⟩ := h d r ρ i
    obtain ⟨ρ', e1, e2⟩ := runFor_rel I h r ρ2 h3
    refine ⟨ρ', ?_, e2⟩
    rw [List.map_cons]
    unfold runFor
    rw [h1]
    rcases h2 with h2 | h2
    · simp only [h2]; exact e1
    · simp only [h2]; exact e1
abbrev Ar := T3 Int Int Int
def arD (x : Ar) : D := .tup [.int x.a, .int x.b, .int x.c]
def webD (n : Nat) (as : List Ar) : D := .tup [.int n, .ktup (as.map arD)]
def arLt (x y : Ar) : Prop := x.a < y.a ∨ (x.a = y.a ∧ x.b < y.b)
structure WebOk (n : Nat) (as : List Ar) : Prop where
  n1 : 1 ≤ n
  n7 : n ≤ 7
  ar : ∀ x ∈ as, 0 ≤ x.a ∧ x.a < n ∧ 0 ≤ x.b ∧ x.b < n ∧ x.a ≠ x.b ∧ 1 ≤ x.c ∧ x.c ≤ 99
  so : as.Pairwise arLt
  len : as.length ≤ 1000
end Pv

set_option Elab.async false
set_option linter.all false
set_option maxRecDepth 100000
namespace Pv
open PySem PySem.Spec PyProof.Rows L2
open PySem.W (Datum DatumOrd Tup T3 T4)
def intsN (n : Nat) : List Int := (List.range n).map fun i : Nat => (i : Int)
theorem nats_intsN (n : Nat) : nats n = (intsN n).map D.int := by unfold nats intsN; rw [List.map_map]; rfl
theorem ints_len (n : Nat) : (intsN n).length = n := by unfold intsN; simp
theorem mem_intsN {n : Nat} {x : Int} : x ∈ intsN n ↔ 0 ≤ x ∧ x < n := by
  unfold intsN
  rw [List.mem_map]
  constructor
  · rintro ⟨i, hi, rfl⟩
    rw [List.mem_range] at hi
    omega
  · rintro ⟨h1, h2⟩
    exact ⟨x.toNat, List.mem_range.mpr (by omega), by omega⟩
theorem ints_lt (n : Nat) : (intsN n).Pairwise (· < ·) := by
  unfold intsN
  rw [List.pairwise_map]
  exact List.pairwise_lt_range.imp fun h => by omega
def rowD (r : List Int) : D := .ktup (r.map .int)
abbrev leI (a b : Int) : Bool := decide (a ≤ b)
theorem sortD_ints (r : List Int) : sortD (r.map .int) (r.map Datum.toD) = (r.mergeSort leI).map .int := by
  unfold sortD
  have hz : (r.map D.int).zip (r.map Datum.toD) = r.map fun x => (D.int x, (Datum.toD x : PyData)) := by
    induction r with
    | nil => rfl
    | cons x r ih => rw [List.map_cons, List.map_cons, List.zip_cons_cons, ih]; rfl
  rw [hz, ← List.map_mergeSort (r := leI) (f := fun x : Int => (D.int x, (Datum.toD x : PyData))), List.map_map]
  · rfl
  · intro a _ b _
    have := PySem.W.dataLe_int (fun x : Int => x)
    exact (congrFun (congrFun this a) b).symm
theorem sortable_ints (r : List Int) : sortableB (r.map Datum.toD) = true := by
  unfold sortableB
  rw [Bool.or_eq_true]
  refine .inr ?_
  rw [List.all_eq_true]
  intro p hp
  obtain ⟨x, _, rfl⟩ := List.mem_map.mp hp
  rfl
theorem depthB_is {α : Type} [DecidableEq α] [Datum α] (hd : Datum.depth α ≤ 60) (xs : List α) : depthB (xs.map Datum.toD) = true := by
  unfold depthB
  rw [List.all_eq_true]
  intro p hp
  obtain ⟨x, _, rfl⟩ := List.mem_map.mp hp
  exact decide_eq_true (Nat.le_trans (Datum.depth_le x) hd)
theorem fSorted_ints (r : List Int) : fSorted [.lst (r.map .int)] = .ow (.li ((r.mergeSort leI).map .int)) := by
  have h : toPys (r.map D.int) = some (r.map Datum.toD) := iss_ints r
  simp only [fSorted, lstOf, h, alikeB_is, sortable_ints, depthB_is (α := Int) (by decide) r, Bool.and_self, if_true, sortD_ints]
theorem sort_perm {n : Nat} {r : List Int} (h : r.Perm (intsN n)) : r.mergeSort leI = intsN n := by
  refine List.Perm.eq_of_pairwise (le := fun a b => a ≤ b) (fun a b _ _ h1 h2 => by omega) ?_ ((ints_lt n).imp fun h => by omega) ((List.mergeSort_perm r leI).trans h)
  have := List.pairwise_mergeSort (le := leI) (fun a b c h1 h2 => by simp [leI] at *; omega) (fun a b => by simp [leI]; omega) r
  exact this.imp fun h => by simpa [leI] using h
theorem putA_new {κ α : Type} [DecidableEq κ] {kvs : List (κ × α)} {k : κ} {v : α} (h : k ∉ kvs.map (·.1)) : putA kvs k v = kvs ++ [(k, v)] := by
  unfold putA
  rw [if_neg]
  intro z
  rw [List.any_eq_true] at z
  obtain ⟨x, hx, e⟩ := z
  exact h (List.mem_map.mpr ⟨x, hx, of_decide_eq_true e⟩)
theorem zip_unzip {κ α : Type} : ∀ l : List (κ × α), (l.map (·.1)).zip (l.map (·.2)) = l
  | [] => rfl
  | x :: l => by rw [List.map_cons, List.map_cons, List.zip_cons_cons, zip_unzip l]
def placeK (r : List Int) : List (Key × D) := (r.zipIdx).map fun p => (.inl p.1, .int (p.2 : Nat))
def turnedL (as : List Ar) (r : List Int) : List Ar := as.filter fun x => decide (r.idxOf x.b < r.idxOf x.a)
def weightI (as : List Ar) (r : List Int) : Int := ((turnedL as r).map (·.c)).sum
structure RowOk (n : Nat) (r : List Int) : Prop where
  p : r.Perm (intsN n)
theorem RowOk.len {n : Nat} {r : List Int} (h : RowOk n r) : r.length = n := by rw [h.p.length_eq, ints_len]
theorem eraseIdx_mapL {α β : Type} (f : α → β) : ∀ (l : List α) (j : Nat), (l.map f).eraseIdx j = (l.eraseIdx j).map f
  | [], _ => rfl
  | a :: l, 0 => rfl
  | a :: l, j + 1 => by rw [List.map_cons, List.eraseIdx_cons_succ, List.eraseIdx_cons_succ, List.map_cons, eraseIdx_mapL f l j]
theorem filterMap_ite {α β : Type} (f : α → β) (p : α → Prop) [DecidablePred p] : ∀ l : List α, l.filterMap (fun x => if p x then some (f x) else none) = (l.filter fun x => decide (p x)).map f
  | [] => rfl
  | a :: l => by
    by_cases h : p a
    · rw [List.filterMap_cons_some (by rw [if_pos h]), List.filter_cons_of_pos (by simpa using h), List.map_cons, filterMap_ite f p l]
    · rw [List.filterMap_cons_none (by rw [if_neg h]), List.filter_cons_of_neg (by simpa using h), filterMap_ite f p l]
end Pv

set_option Elab.async false
set_option linter.all false
set_option maxRecDepth 100000
namespace Pv
open PySem PySem.Spec PyProof.Rows L2
open PySem.W (Datum DatumOrd Tup T3 T4)
def putI (r : List Int) (x : Int) (p : Nat) : List Int := (r.filter fun y => decide (y ≠ x)).take p ++ [x] ++ (r.filter fun y => decide (y ≠ x)).drop p
theorem opSl_take {l : List D} {p : Nat} : opSl true (.ktup l) none (some (p : Int)) = some (.ktup (l.take p)) := by
  unfold opSl
  simp only [lstOf, tupOf]
  rw [HT.sIx_none, HT.sIx_nat]
  by_cases h : min p l.length = l.length
  · rw [if_pos ⟨rfl, h⟩, List.take_of_length_le (by omega)]
  · rw [if_neg (fun z => h z.2)]
    simp only [if_true, cutD, HT.sIx_none, HT.sIx_nat, List.drop_zero, Nat.sub_zero]
    rw [← List.take_take, List.take_of_length_le (Nat.le_refl l.length)]
theorem opSl_drop {l : List D} {p : Nat} : opSl true (.ktup l) (some (p : Int)) none = some (.ktup (l.drop p)) := by
  unfold opSl
  simp only [lstOf, tupOf]
  rw [HT.sIx_none, HT.sIx_nat]
  by_cases h : min p l.length = 0
  · rw [if_pos ⟨h, rfl⟩]
    by_cases hp : p = 0
    · subst hp; rfl
    · have : l = [] := List.eq_nil_of_length_eq_zero (by omega)
      subst this; simp
  · rw [if_neg (fun z => h z.1)]
    simp only [if_true, cutD, HT.sIx_none, HT.sIx_nat]
    congr 2
    have h1 : (l.drop (min p l.length)) = l.drop p := by
      by_cases hp : p ≤ l.length
      · rw [Nat.min_eq_left hp]
      · rw [Nat.min_eq_right (by omega), List.drop_of_length_le (Nat.le_refl _), List.drop_of_length_le (by omega)]
    rw [h1, List.take_of_length_le]
    rw [List.length_drop]; omega
abbrev Cand := T4 Int Int Int (Tup Int)
def candD (c : Cand) : D := .tup [.int c.a, .int c.b, .int c.c, rowD c.d.items]
def fstMin (o : Option Cand) (c : Cand) : Option Cand := match o with
  | none => some c
  | some a => if c.a < a.a then some c else some a
def candLt (x y : Cand) : Prop := x.b < y.b ∨ (x.b = y.b ∧ x.c < y.c)
def candOf (as : List Ar) (r : List Int) (i p : Nat) : Cand := ⟨weightI as (putI r i p), i, p, ⟨putI r i p⟩⟩
def candRow (as : List Ar) (r : List Int) (i : Nat) (ps : List Nat) : List Cand := ps.map fun p => candOf as r i p
def cands (as : List Ar) (r : List Int) (n : Nat) (is : List Nat) : List Cand := is.flatMap fun i => candRow as r i (List.range n)
def bestC (as : List Ar) (n : Nat) (r : List Int) : Option Cand := (cands as r n (List.range n)).foldl fstMin none
def bestR (as : List Ar) (n : Nat) (r : List Int) : List Int := match bestC as n r with
  | some c => c.d.items
  | none => []
def stepsR (as : List Ar) (n : Nat) : Nat → List Int → List (List Int)
  | 0, _ => []
  | k + 1, r => if weightI as (bestR as n r) < weightI as r then bestR as n r :: stepsR as n k (bestR as n r) else []
@[simp] theorem y_whileN {N : Nat} {c : Envi → R Bool} {g : Sem} {ρ : Envi} : sWhileN N c g ρ = runW c g N ρ := id rfl
theorem runW_stop {N : Nat} {c : Envi → R Bool} {g : Sem} {ρ ρ1 : Envi} (h : c ρ = .ok false ρ1) : runW c g (N + 1) ρ = .nx ρ1 := by
  unfold runW; rw [h]; rfl
theorem runW_go {N : Nat} {c : Envi → R Bool} {g : Sem} {ρ ρ1 ρ2 : Envi} (h : c ρ = .ok true ρ1) (h2 : g ρ1 = .nx ρ2) : runW c g (N + 1) ρ = runW c g N ρ2 := by
  show (c ρ).toFl _ = _
  rw [h]
  simp [h2]
end Pv

set_option Elab.async false
set_option linter.all false
set_option maxRecDepth 100000
namespace Pv
open PySem PySem.Spec PyProof.Rows L2
structure FldW (P : Pr) (B F H : Hp) (p : Addr) (fv : List (Option V)) (fs : List Slot) : Prop where
  ob : ObR P B F H p fv
  len : fs.length = fv.length
  sl : ∃ al : Nat → Addr, (∀ (i : Nat) (s : Slot), fs[i]? = some s → SlotR P.K F H (some (p, fv)) (al i) (fv[i]?).join s) ∧
    (∀ (i : Nat) (s : Slot), fs[i]? = some s → s.isOw = true → F (al i) = none ∧ B (al i) = none) ∧
    (∀ (i j : Nat) (s t : Slot), fs[i]? = some s → fs[j]? = some t → s.isOw = true → t.isOw = true → al i = al j → i = j)
def initM (n : Nat) (ds : List D) : Envi := .self :: (ds.map Slot.fz ++ List.replicate (n - (ds.length + 1)) .un)
theorem initM_len {n : Nat} {ds : List D} (h : ds.length + 1 ≤ n) : (initM n ds).length = n := by
  unfold initM
  rw [List.length_cons, List.length_append, List.length_map, List.length_replicate]; omega
theorem initM_ow {n : Nat} {ds : List D} {i : Nat} {s : Slot} (h : (initM n ds)[i]? = some s) : s.isOw = false := by
  unfold initM at h
  cases i with
  | zero => cases h; rfl
  | succ i =>
    rw [List.getElem?_cons_succ] at h
    by_cases hi : i < ds.length
    · rw [List.getElem?_append_left (by simpa using hi), List.getElem?_map, List.getElem?_eq_getElem hi] at h
      cases h; rfl
    · rw [List.getElem?_append_right (by simpa using Nat.le_of_not_lt hi), List.getElem?_replicate] at h
      split at h
      · cases h; rfl
      · cases h
section
variable {P : Pr} {B F0 F H : Hp} {σ : L2.St} {p : Addr} {fv : List (Option V)} {fs : List Slot}
/-- at a method's start -/
theorem Wf.initM {N : List Str} {vs : List V} {ds : List D} (hn : P.n = N.length) (hl : vs.length + 1 ≤ N.length) (s : Same F H) (sb : Same B H) (r : Reps P.K F vs ds) (w : FldW P B F H p fv fs) :
    Wf P B F F H (L2.start N (.ref p :: vs)) (some (p, fv)) (Pv.initM N.length ds ++ fs) := by
  have hd := r.length
  have l1 : (L2.start N (.ref p :: vs)).length = N.length := by
    unfold L2.start
    rw [List.length_append, List.length_map, List.length_replicate, List.length_cons]; omega
  have l2 : (Pv.initM N.length ds).length = N.length := initM_len (by omega)
  obtain ⟨al, s1, s2, s3⟩ := w.sl
  have hi1 : ∀ {i : Nat}, i < N.length → (tau (L2.start N (.ref p :: vs)) (some (p, fv)))[i]? = (L2.start N (.ref p :: vs))[i]? := fun {i} hi => tau_lt (by rw [l1]; exact hi)
  have hi2 : ∀ {i : Nat}, ¬ i < N.length → (tau (L2.start N (.ref p :: vs)) (some (p, fv)))[i]? = fv[i - N.length]? := fun {i} hi => by
    show (L2.start N (.ref p :: vs) ++ fv)[i]? = _
    rw [List.getElem?_append_right (by rw [l1]; omega), l1]
  refine ⟨s, sb, Same.refl _, fun b o e => .inl e, by rw [l1, hn], ?_, ⟨fun i => al (i - N.length), fun i t h => ?_, fun i t h ht => ?_, fun i j t u h h' ht hu e => ?_⟩, fun q gv e => by cases e; exact w.ob⟩
  · show (Pv.initM N.length ds ++ fs).length = (L2.start N (.ref p :: vs) ++ fv).length
    rw [List.length_append, List.length_append, l1, l2, w.len]
  · by_cases hi : i < N.length
    · rw [List.getElem?_append_left (by rw [l2]; exact hi)] at h
      rw [hi1 hi]
      unfold Pv.initM at h
      cases i with
      | zero =>
        cases h
        refine ⟨p, fv, rfl, ?_⟩
        unfold L2.start
        rfl
      | succ i =>
        rw [List.getElem?_cons_succ] at h
        by_cases hi' : i < ds.length
        · rw [List.getElem?_append_left (by simpa using hi'), List.getElem?_map] at h
          cases e : ds[i]? with
          | none => rw [e] at h; cases h
          | some d =>
            rw [e] at h
            cases h
            obtain ⟨v, h1, h2⟩ := r.get e
            refine ⟨v, ?_, h2⟩
            unfold L2.start
            rw [List.getElem?_append_left (by simp; omega), List.getElem?_map, List.getElem?_cons_succ, h1]
            rfl
        · rw [List.getElem?_append_right (by simpa using Nat.le_of_not_lt hi'), List.getElem?_replicate] at h
          split at h
          · cases h; exact True.intro
          · cases h
    · rw [List.getElem?_append_right (by rw [l2]; omega), l2] at h
      rw [hi2 hi]
      exact s1 _ t h
  · by_cases hi : i < N.length
    · rw [List.getElem?_append_left (by rw [l2]; exact hi)] at h
      rw [initM_ow h] at ht; cases ht
    · rw [List.getElem?_append_right (by rw [l2]; omega), l2] at h
      exact s2 _ t h ht
  · by_cases hi : i < N.length
    · rw [List.getElem?_append_left (by rw [l2]; exact hi)] at h
      rw [initM_ow h] at ht; cases ht
    · by_cases hj : j < N.length
      · rw [List.getElem?_append_left (by rw [l2]; exact hj)] at h'
        rw [initM_ow h'] at hu; cases hu
      · rw [List.getElem?_append_right (by rw [l2]; omega), l2] at h h'
        have := s3 _ _ t u h h' ht hu e
        omega
/-- the fields behind a method's end -/
theorem Wf.toFld {ob : Ob} {ρ : Envi} (w : Wf P B F0 F H σ ob ρ) (h0 : ρ[0]? = some .self) : ∃ fv', ob = some (P.me, fv') ∧ FldW P B F H P.me fv' (ρ.drop P.n) := by
  obtain ⟨al, s1, s2, s3⟩ := w.sl
  obtain ⟨q, fv', e, _⟩ := s1 0 _ h0
  subst e
  have o := w.ob q fv' rfl
  have hm := o.me
  subst hm
  refine ⟨fv', rfl, o, ?_, fun i => al (P.n + i), fun i t h => ?_, fun i t h ht => ?_, fun i j t u h h' ht hu e => ?_⟩
  · have := w.len
    have t : (tau σ (some (P.me, fv'))).length = σ.length + fv'.length := by show (σ ++ fv').length = _; rw [List.length_append]
    rw [List.length_drop, this, t, w.n]; omega
  · rw [List.getElem?_drop] at h
    have := s1 _ t h
    have e2 : (tau σ (some (P.me, fv')))[P.n + i]? = fv'[i]? := by
      show (σ ++ fv')[P.n + i]? = _
      rw [List.getElem?_append_right (by rw [w.n]; omega), w.n]
      congr 1; omega
    rw [e2] at this
    exact this
  · rw [List.getElem?_drop] at h
    exact s2 _ t h ht
  · rw [List.getElem?_drop] at h h'
    have := s3 _ _ t u h h' ht hu e
    omega
open Classical in
/-- the rest of a frame, apart from its object's fields -/
theorem Wf.split {loc : Envi} (w : Wf P B F0 F H σ (some (p, fv)) (loc ++ fs)) (hl : loc.length = P.n) : ∃ B1, Same B1 H ∧ FldW P B1 F H p fv fs ∧
    ∀ F' H' fv' fs', Same F F' → Same F' H' → Same B1 H' → (∀ b o, F' b = some o → F b = some o ∨ B1 b = none ∨ ∃ vs, o = .tup vs) → FldW P B1 F' H' p fv' fs' → Wf P B F0 F' H' σ (some (p, fv')) (loc ++ fs') := by
  obtain ⟨fh, bh, ff, nw, n, len, ⟨al, s1, s2, s3⟩, hob⟩ := w
  have o := hob p fv rfl
  have lf : fs.length = fv.length := by
    have t : (tau σ (some (p, fv))).length = σ.length + fv.length := by show (σ ++ fv).length = _; rw [List.length_append]
    rw [List.length_append, t, hl, n] at len; omega
  have gl : ∀ {i : Nat} {s : Slot}, loc[i]? = some s → (loc ++ fs)[i]? = some s ∧ i < P.n := fun {i s} h => by
    have := (List.getElem?_eq_some_iff.mp h).1
    exact ⟨by rw [List.getElem?_append_left this]; exact h, by omega⟩
  have gf : ∀ {i : Nat} {s : Slot}, fs[i]? = some s → (loc ++ fs)[P.n + i]? = some s := fun {i s} h => by
    rw [List.getElem?_append_right (by omega), hl]
    rw [show P.n + i - P.n = i by omega]; exact h
  have tl : ∀ {i : Nat} (fv : List (Option V)), i < P.n → (tau σ (some (p, fv)))[i]? = σ[i]? := fun {i} fv hi => tau_lt (by rw [n]; exact hi)
  have tf : ∀ (i : Nat) (fv : List (Option V)), (tau σ (some (p, fv)))[P.n + i]? = fv[i]? := fun i fv => by
    show (σ ++ fv)[P.n + i]? = _
    rw [List.getElem?_append_right (by rw [n]; omega), n]
    congr 1; omega
  let own : Addr → Prop := fun b => ∃ i s, loc[i]? = some s ∧ s.isOw = true ∧ al i = b
  let B1 : Hp := fun b => if B b ≠ none ∨ own b then H b else none
  have b1n : ∀ {b : Addr}, B1 b = none → B b = none := fun {b} h => by
    cases e : B b with
    | none => rfl
    | some x =>
      have h : (if B b ≠ none ∨ own b then H b else none) = none := h
      rw [if_pos (.inl (by rw [e]; exact fun z => nomatch z)), bh b x e] at h
      cases h
  have b1o : ∀ {i : Nat} {s : Slot}, loc[i]? = some s → s.isOw = true → ∃ ho, H (al i) = some ho ∧ B1 (al i) = some ho := fun {i s} h hs => by
    obtain ⟨h', hi⟩ := gl h
    have x := s1 i s h'
    obtain ⟨ho, e, _⟩ := x.there hs
    refine ⟨ho, e, ?_⟩
    show (if B (al i) ≠ none ∨ own (al i) then H (al i) else none) = _
    rw [if_pos (.inr ⟨i, s, h, hs, rfl⟩), e]
  have b1p : ∀ {b : Addr}, B b = none → ¬ own b → B1 b = none := fun {b} h h' => by
    show (if B b ≠ none ∨ own b then H b else none) = none
    rw [if_neg (fun z => z.elim (fun z => z h) h')]
  have sB : Same B1 H := fun b x e => by
    have e : (if B b ≠ none ∨ own b then H b else none) = some x := e
    split at e
    · exact e
    · cases e
  refine ⟨B1, sB, ⟨⟨o.me, o.len, o.fp, b1p o.bp fun ⟨i, s, h, hs, e⟩ => ?_, o.at_⟩, lf, fun i => al (P.n + i), fun i t h => ?_, fun i t h ht => ?_, fun i j t u h h' ht hu e => ?_⟩, ?_⟩
  · obtain ⟨h', hi⟩ := gl h
    obtain ⟨ho, e2, hne, _⟩ := (s1 i s h').there hs
    obtain ⟨dx, g, e3⟩ := o.ins
    rw [e, e3] at e2
    cases e2
    exact hne _ _ _ rfl
  · have := s1 _ t (gf h)
    rw [tf i fv] at this
    exact this
  · obtain ⟨g1, g2⟩ := s2 _ t (gf h) ht
    refine ⟨g1, b1p g2 fun ⟨k, s, hk, hs, e⟩ => ?_⟩
    obtain ⟨h', hi⟩ := gl hk
    have := s3 _ _ s t h' (gf h) hs ht e
    omega
  · have := s3 _ _ t u (gf h) (gf h') ht hu e
    omega
  · intro F' H' fv' fs' sF sH sB' nw' w'
    obtain ⟨al', t1, t2, t3⟩ := w'.sl
    have fo : ∀ {i : Nat} {s : Slot}, loc[i]? = some s → s.isOw = true → F' (al i) = none := fun {i s} h hs => by
      obtain ⟨ho, e1, e2⟩ := b1o h hs
      cases e : F' (al i) with
      | none => rfl
      | some x =>
        rcases nw' _ _ e with z | z | ⟨us, rfl⟩
        · have := (s2 i s (gl h).1 hs).1
          rw [z] at this; cases this
        · rw [e2] at z; cases z
        · obtain ⟨ho', e1', _, hz⟩ := (s1 i s (gl h).1).there hs
          have q := sH _ _ e
          rw [sB' _ _ e2] at q
          rw [e1] at e1'
          cases e1'
          exact absurd (Option.some.inj q) (hz us)
    have cs : ∀ {i : Nat} {s : Slot}, (loc ++ fs')[i]? = some s → (i < P.n ∧ loc[i]? = some s) ∨ (¬ i < P.n ∧ fs'[i - P.n]? = some s) := fun {i s} h => by
      by_cases hi : i < P.n
      · rw [List.getElem?_append_left (by omega)] at h; exact .inl ⟨hi, h⟩
      · rw [List.getElem?_append_right (by omega), hl] at h; exact .inr ⟨hi, h⟩
    refine ⟨sH, fun b x e => ?_, ff.trans sF, fun b x e => ?_, n, ?_, ⟨fun i => if i < P.n then al i else al' (i - P.n), fun i s h => ?_, fun i s h hs => ?_, fun i j s t h h' hs ht e => ?_⟩, fun q gv e => ?_⟩
    · refine sB' b x ?_
      show (if B b ≠ none ∨ own b then H b else none) = some x
      rw [if_pos (.inl (by rw [e]; exact fun z => nomatch z)), bh b x e]
    · rcases nw' b x e with z | z
      · exact nw b x z
      · exact .inr (z.imp_left b1n)
    · show (loc ++ fs').length = (σ ++ fv').length
      rw [List.length_append, List.length_append, hl, n, w'.len]
    · rcases cs h with ⟨hi, h⟩ | ⟨hi, h⟩
      · simp only [hi, if_true]
        rw [tl fv' hi]
        have x := s1 i s (gl h).1
        rw [tl fv hi] at x
        cases s with
        | un => exact True.intro
        | fz d =>
          obtain ⟨u, e1, e2⟩ := x
          exact ⟨u, e1, e2.mono sF⟩
        | ow d =>
          obtain ⟨e1, ho, e2, e3⟩ := x
          obtain ⟨ho', g1, g2⟩ := b1o h rfl
          rw [e2] at g1
          cases g1
          exact ⟨e1, ho, sB' _ _ g2, e3.mono sF⟩
        | self =>
          obtain ⟨q, gv, e1, e2⟩ := x
          cases e1
          exact ⟨p, fv', rfl, e2⟩
      · simp only [hi, if_false]
        have := t1 _ s h
        have e : (tau σ (some (p, fv')))[i]? = fv'[i - P.n]? := by
          have := tf (i - P.n) fv'
          rw [show P.n + (i - P.n) = i by omega] at this
          exact this
        rw [e]
        exact this
    · rcases cs h with ⟨hi, h⟩ | ⟨hi, h⟩
      · simp only [hi, if_true]
        exact ⟨fo h hs, (s2 i s (gl h).1 hs).2⟩
      · simp only [hi, if_false]
        obtain ⟨g1, g2⟩ := t2 _ s h hs
        exact ⟨g1, b1n g2⟩
    · rcases cs h with ⟨hi, h⟩ | ⟨hi, h⟩
      · rcases cs h' with ⟨hj, h'⟩ | ⟨hj, h'⟩
        · simp only [hi, hj, if_true] at e
          exact s3 i j s t (gl h).1 (gl h').1 hs ht e
        · simp only [hi, hj, if_true, if_false] at e
          obtain ⟨ho, _, g⟩ := b1o h hs
          have := (t2 _ t h' ht).2
          rw [← e, g] at this; cases this
      · rcases cs h' with ⟨hj, h'⟩ | ⟨hj, h'⟩
        · simp only [hi, hj, if_true, if_false] at e
          obtain ⟨ho, _, g⟩ := b1o h' ht
          have := (t2 _ s h hs).2
          rw [e, g] at this; cases this
        · simp only [hi, hj, if_false] at e
          have := t3 _ _ s t h h' hs ht e
          omega
    · cases e
      exact ⟨w'.ob.me, w'.ob.len, w'.ob.fp, o.bp, w'.ob.at_⟩
end
end Pv

set_option Elab.async false
set_option linter.all false
set_option maxRecDepth 100000
namespace Pv
open PySem PySem.Spec PyProof.Rows L2
abbrev pP (K : PySem.W.Frag) (C : Addr) (fns : List Str) (p : Addr) : Pr := ⟨K, fun _ => .none, 0, fns, C, p⟩
theorem FldW.cast {P P' : Pr} {B F H : Hp} {p : Addr} {fv : List (Option V)} {fs : List Slot} (w : FldW P B F H p fv fs) (h1 : P'.K = P.K) (h2 : P'.fns = P.fns) (h3 : P'.C = P.C) (h4 : P'.me = P.me) : FldW P' B F H p fv fs := by
  obtain ⟨⟨me, l, fp, bp, a⟩, len, sl⟩ := w
  refine ⟨⟨by rw [h4]; exact me, by rw [h2]; exact l, fp, bp, by rw [h2, h3]; exact a⟩, len, by rw [h1]; exact sl⟩
/-- a method's promise: its fields' slots ahead and behind -/
def spM (K : PySem.W.Frag) (C : Addr) (fns : List Str) (n : Nat) (fm : List Slot → List D → Option (D × List Slot)) : Sp := fun vs H Q E => vs.length = n + 1 ∧ ∃ p vs', vs = .ref p :: vs' ∧ ∃ B F ds fv fs, Same B H ∧ Same F H ∧ Reps K F vs' ds ∧ FldW (pP K C fns p) B F H p fv fs ∧
  ∃ d fs', fm fs ds = some (d, fs') ∧ ∀ F' H' v fv', Same F F' → Same F' H' → Same B H' → (∀ b o, F' b = some o → F b = some o ∨ B b = none ∨ ∃ vs, o = .tup vs) → FldW (pP K C fns p) B F' H' p fv' fs' → Rep K F' v d → Q v H'
def endM (n : Nat) (ρ : Envi) (d : D) : Option (D × List Slot) := match ρ[0]? with
  | some Pv.Slot.self => some (d, ρ.drop n)
  | _ => none
def endF (n : Nat) : Fl → Option (D × List Slot)
  | .nx ρ => endM n ρ .non
  | .ret (.fz d) ρ => endM n ρ d
  | .ret (.ow o) ρ => endM n ρ o.toD
  | _ => none
def fmOf (n : Nat) (g : Sem) (fs : List Slot) (ds : List D) : Option (D × List Slot) := endF n (g (initM n ds ++ fs))
theorem endM_some {n : Nat} {ρ : Envi} {d d' : D} {fs : List Slot} (h : endM n ρ d = some (d', fs)) : ρ[0]? = some .self ∧ d' = d ∧ fs = ρ.drop n := by
  unfold endM at h
  split at h
  · rename_i e
    cases h
    exact ⟨e, rfl, rfl⟩
  · cases h
theorem fin_genM {K : PySem.W.Frag} {ec : Exc → Value} {C : Addr} {fns : List Str} {N : List Str} {n : Nat} {ts : TS} {g : Sem} {vs : List V} {H : Hp} {Q : VK} {E : XK} (hs : ∀ p, SndS ⟨K, ec, N.length, fns, C, p⟩ (fun cls d _ H => E cls d H) ts g) (hn : n + 1 ≤ N.length)
    (h : spM K C fns n (fmOf N.length g) vs H Q E) : ts { nx := fun _ H' => Q .non H', rt := Q } (L2.start N vs) H := by
  obtain ⟨hl, p, vs', rfl, B, F, ds, fv, fs, sB, sF, r, w, d, fs', e, q⟩ := h
  rw [List.length_cons] at hl
  have wf := Wf.initM (P := ⟨K, ec, N.length, fns, C, p⟩) (N := N) rfl (by omega) sF sB r (w.cast rfl rfl rfl rfl)
  refine hs p B F F H _ _ _ _ wf ?_
  unfold fmOf at e
  have fin : ∀ {F' H' σ' ob' ρ' u d'}, Wf (⟨K, ec, N.length, fns, C, p⟩ : Pr) B F F' H' σ' ob' ρ' → Same F F' → Rep K F' u d' → endM N.length ρ' d' = some (d, fs') → Q u H' := fun {F' H' σ' ob' ρ' u d'} w' s r e => by
    obtain ⟨e0, rfl, rfl⟩ := endM_some e
    obtain ⟨fv', rfl, w2⟩ := w'.toFld e0
    exact q F' H' u fv' s w'.fh w'.bh w'.nw (w2.cast rfl rfl rfl rfl) r
  cases eg : g (initM N.length ds ++ fs) with
  | nx ρ' =>
    rw [eg] at e
    exact fun F' H' σ' ob' w' s => fin w' s .non e
  | ret v ρ' =>
    rw [eg] at e
    cases v with
    | fz d' =>
      rintro B' F' H' σ' ob' u w' s ⟨rfl, r⟩
      exact fin w' s r e
    | ow o =>
      rintro B' F' H' σ' ob' u w' s ⟨a, ho, rfl, rfl, e3, e4, e5⟩
      exact fin (w'.tmpFrz e4 e3) (s.trans (same_new e4)) ((e5.mono (same_new e4)).rep upd_same) e
  | exc c ρ' => rw [eg] at e; cases e
  | bk ρ' => rw [eg] at e; cases e
  | ct ρ' => rw [eg] at e; cases e
  | stuck => rw [eg] at e; cases e
section
variable {P : Pr} {m : Bool} {W : WX} {te ta tb to : TE} {f g : Envi → R Hd} {n : Nat} {fa : Envi → R (List Hd)} {tr : TA} {B F0 F H : Hp} {σ : L2.St} {ob : Ob} {ρ : Envi}
/-- the local i is the object -/
theorem Wf.self (w : Wf P B F0 F H σ ob ρ) {i : Nat} (hi : i < P.n) (e : ρ[i]? = some .self) : ∃ fv, ob = some (P.me, fv) ∧ σ[i]? = some (some (.ref P.me)) := by
  obtain ⟨al, s1, _⟩ := w.sl
  obtain ⟨q, fv, e1, e2⟩ := s1 i _ e
  subst e1
  have hm := (w.ob q fv rfl).me
  subst hm
  have hi' : i < σ.length := by rw [w.n]; exact hi
  rw [tau_lt hi'] at e2
  refine ⟨fv, rfl, ?_⟩
  rw [List.getElem?_eq_getElem hi'] at e2 ⊢
  rw [show σ[i] = some (.ref P.me) from e2]
/-- self.f -/
def eFld (i k : Nat) : Envi → R Hd := fun ρ => match ρ[i]?, ρ[k]? with
  | some .self, some (.fz d) => .ok (.dat d) ρ
  | some .self, some (.ow _) => .ok (.fl k) ρ
  | _, _ => .stuck
theorem fld_at (w : Wf P B F0 F H σ (some (P.me, fv)) ρ) {k j : Nat} {x : Str} {v : V} (hk : k = P.n + j) (hx : P.fns[j]? = some x) (e : (tau σ (some (P.me, fv)))[k]? = some (some v)) : ∃ dx fs, H P.me = some (.ins P.C dx fs) ∧ fs.lookup x = some v := by
  obtain ⟨_, _, _, _, dx, fs, h1, h2, _⟩ := w.ob P.me fv rfl
  refine ⟨dx, fs, h1, ?_⟩
  rw [h2 j x hx]
  have : (σ ++ fv)[k]? = some (some v) := e
  rw [hk, List.getElem?_append_right (by rw [w.n]; omega), w.n, show P.n + j - P.n = j by omega] at this
  rw [this]; rfl
theorem snd_fld {i k j : Nat} {x : Str} (hi : i < P.n) (hk : k = P.n + j) (hx : P.fns[j]? = some x) (hc : Cls P.K P.C) (hn : NoAttr P.K P.C x) : SndE P m W (tFld P.K (tVar i) x) (eFld i k) := fun B F0 F H σ ob ρ Q w q => by
  unfold eFld at q
  split at q
  · rename_i d e0 e1
    obtain ⟨fv, rfl, e2⟩ := w.self hi e0
    obtain ⟨al, s1, _⟩ := w.sl
    obtain ⟨u, h1, h2⟩ := s1 k _ e1
    have h1' : (tau σ (some (P.me, fv)))[k]? = some (some u) := by
      cases z : (tau σ (some (P.me, fv)))[k]? with
      | none => rw [z] at h1; cases h1
      | some o => rw [z] at h1; exact congrArg some h1
    obtain ⟨dx, fs, g1, g2⟩ := fld_at w hk hx h1'
    exact ⟨_, e2, P.me, P.C, dx, fs, u, rfl, g1, hc, hn, g2, q B F H _ u w (Same.refl _) (fun _ => rfl) ⟨rfl, h2⟩⟩
  · rename_i o e0 e1
    obtain ⟨fv, rfl, e2⟩ := w.self hi e0
    obtain ⟨a, ho, h1, h2, _⟩ := w.owned e1
    obtain ⟨dx, fs, g1, g2⟩ := fld_at w hk hx h1
    exact ⟨_, e2, P.me, P.C, dx, fs, _, rfl, g1, hc, hn, g2, q B F H _ _ w (Same.refl _) (fun _ => rfl) ⟨rfl, by omega, h1⟩⟩
  · exact q.elim
def isSelf (i : Nat) : Envi → Bool := fun ρ => match ρ[i]? with
  | some .self => true
  | _ => false
theorem sp_fld {i k j : Nat} {x : Str} (hi : i < P.n) (hk : k = P.n + j) (hx : P.fns[j]? = some x) (hc : Cls P.K P.C) (hn : NoAttr P.K P.C x) : SndP P (tFld P.K (tVar i) x) k (isSelf i) := fun B F0 F H σ ob ρ Q v w e0 e q => by
  unfold isSelf at e0
  split at e0
  · rename_i e1
    obtain ⟨fv, rfl, e2⟩ := w.self hi e1
    obtain ⟨dx, fs, g1, g2⟩ := fld_at w hk hx e
    exact ⟨_, e2, P.me, P.C, dx, fs, v, rfl, g1, hc, hn, g2, q⟩
  · cases e0
/-- self.m(..) -/
def selfM (N : Nat) (fm : List Slot → List D → Option (D × List Slot)) (ρ : Envi) (ds : List D) : R Hd := match fm (ρ.drop N) ds with
  | some (d, fs') => .ok (.dat d) (ρ.take N ++ fs')
  | none => .stuck
def eSelf (i N : Nat) (fm : List Slot → List D → Option (D × List Slot)) (g : Envi → R (List Hd)) : Envi → R Hd := fun ρ => if isSelf i ρ = true then (g ρ).bind fun hs ρ1 => match matAll ρ1 hs with
    | some (ds, ρ2) => if isSelf i ρ2 = true then selfM N fm ρ2 ds else .stuck
    | none => .stuck
  else .stuck
theorem isSelf_at {i : Nat} {ρ : Envi} (h : isSelf i ρ = true) : ρ[i]? = some .self := by
  unfold isSelf at h
  split at h
  · assumption
  · cases h
theorem snd_self {i N : Nat} {x : Str} {fm : List Slot → List D → Option (D × List Slot)} (hi : i < P.n) (hN : P.n = N) (hx : x ∉ P.fns) (ha : SndA P true W n tr fa) : SndE P true W (tMeth P.C x (spM P.K P.C P.fns n fm) [] (fun _ _ _ => False) (tVar i) tr) (eSelf i N fm fa) := fun B F0 F H σ ob ρ Q w q => by
  subst hN
  unfold eSelf at q
  split at q
  · rename_i h0
    obtain ⟨fv, rfl, e2⟩ := w.self hi (isSelf_at h0)
    obtain ⟨_, _, _, _, dx, fs, g1, _, g3, _⟩ := w.ob P.me fv rfl
    refine ⟨_, e2, P.me, dx, fs, rfl, g1, g3 x hx, ?_⟩
    refine ha B F0 F H σ _ ρ _ w (Post.of_bind (k := fun hs ρ1 => match matAll ρ1 hs with | some (ds, ρ2) => if isSelf i ρ2 = true then selfM P.n fm ρ2 ds else R.stuck | none => R.stuck) q ?_)
    rintro hs ρ1 B' F1 H1 ob1 ys w1 s1 i1 ⟨⟨rfl, r1⟩, hl⟩ q
    cases e : matAll ρ1 hs with
    | none => rw [e] at q; exact q.elim
    | some y =>
      obtain ⟨ds, ρ2⟩ := y
      rw [e] at q
      try dsimp only at q
      split at q
      · rename_i h2
        obtain ⟨F2, w2, s2, r2⟩ := w1.matAll r1 e
        obtain ⟨fv2, rfl, e3⟩ := w2.self hi (isSelf_at h2)
        unfold selfM at q
        cases ef : fm (ρ2.drop P.n) ds with
        | none => rw [ef] at q; exact q.elim
        | some z =>
          obtain ⟨d, fs'⟩ := z
          rw [ef] at q
          have hl2 : (ρ2.take P.n).length = P.n := by
            have t : (tau σ (some (P.me, fv2))).length = σ.length + fv2.length := by show (σ ++ fv2).length = _; rw [List.length_append]
            have := w2.len
            rw [t, w2.n] at this
            rw [List.length_take]; omega
          have w3 : Wf P B' F0 F2 H1 σ (some (P.me, fv2)) (ρ2.take P.n ++ ρ2.drop P.n) := by rw [List.take_append_drop]; exact w2
          obtain ⟨B1, sB, fw, back⟩ := w3.split hl2
          rw [List.append_nil]
          refine ⟨by rw [List.length_cons, hl], P.me, ys, rfl, B1, F2, ds, fv2, _, sB, w2.fh, r2, fw.cast rfl rfl rfl rfl, d, fs', ef, fun F' H' v fv' k1 k2 k3 k4 fw' rv => ?_⟩
          have w4 := back F' H' fv' fs' k1 k2 k3 k4 (fw'.cast rfl rfl rfl rfl)
          exact q B' F' H' _ v w4 ((s1.trans s2).trans k1) (fun z => nomatch z) ⟨rfl, rv⟩
      · exact q.elim
  · exact q.elim
def unsN (n : Nat) : List Slot := List.replicate n .un
def mkM (nf : Nat) (fi fm : List Slot → List D → Option (D × List Slot)) (ds ds2 : List D) : Option D := match fi (unsN nf) ds with
  | some (.non, fs1) => (fm fs1 ds2).map (·.1)
  | _ => none
theorem FldW.new {K : PySem.W.Frag} {C : Addr} {fns : List Str} {x dx : Addr} {F H : Hp} (hx : H x = none) (hd : H dx = none) (hne : dx ≠ x) (s : Same F H) : FldW (pP K C fns x) H F (upd (upd H dx (.own x)) x (.ins C dx [])) x (List.replicate fns.length none) (unsN fns.length) := by
  refine ⟨⟨rfl, List.length_replicate, s.free hx, hx, dx, [], upd_same, fun j f h => ?_, fun g _ => rfl, List.nodup_nil⟩, by unfold unsN; rw [List.length_replicate, List.length_replicate], fun _ => 0, fun i t h => ?_, fun i t h ht => ?_, fun i j t u h h' ht => ?_⟩
  · rw [List.getElem?_replicate]
    split <;> rfl
  all_goals
    unfold unsN at h
    rw [List.getElem?_replicate] at h
    split at h
    · cases h
      first | exact True.intro | cases ht
    · cases h
end
end Pv

set_option Elab.async false
set_option linter.all false
set_option maxRecDepth 100000
namespace Pv
open PySem PySem.Spec PyProof.Rows L2
theorem nodup_sub {α : Type} [BEq α] [LawfulBEq α] : ∀ {l m : List α}, l.Nodup → (∀ x ∈ l, x ∈ m) → l.length ≤ m.length
  | [], _, _, _ => Nat.zero_le _
  | a :: l, m, h, s => by
    rw [List.nodup_cons] at h
    have ha := s a List.mem_cons_self
    have ih := nodup_sub (l := l) (m := m.erase a) h.2 fun x hx => (List.mem_erase_of_ne (fun (e : x = a) => h.1 (by rw [← e]; exact hx))).mpr (s x (List.mem_cons_of_mem _ hx))
    have := List.length_erase_of_mem ha
    have := List.length_pos_of_mem ha
    rw [List.length_cons]; omega
theorem putF_keys (f : Str) (v : V) : ∀ fs : List (Str × V), (putF f v fs).map (·.1) = if f ∈ fs.map (·.1) then fs.map (·.1) else fs.map (·.1) ++ [f]
  | [] => rfl
  | (g, x) :: r => by
    show ((if g = f then (g, v) :: r else (g, x) :: putF f v r)).map (·.1) = _
    by_cases e : g = f
    · subst e
      rw [if_pos rfl, if_pos (by simp)]; rfl
    · rw [if_neg e, List.map_cons, putF_keys f v r]
      by_cases h : f ∈ r.map (·.1)
      · rw [if_pos h, if_pos (by simpa using .inr (by simpa using h))]; rfl
      · rw [if_neg h, if_neg (by
          rw [List.map_cons, List.mem_cons]
          exact fun z => z.elim (fun z => e z.symm) h)]; rfl
theorem lookup_none {f : Str} : ∀ {fs : List (Str × V)}, fs.lookup f = none → f ∉ fs.map (·.1)
  | [], _ => by simp
  | (g, x) :: r, h => by
    rw [List.lookup_cons] at h
    split at h
    · cases h
    · rename_i e
      rw [List.map_cons, List.mem_cons]
      exact fun z => z.elim (fun z => by subst z; simp at e) (lookup_none h)
section
variable {P : Pr} {m : Bool} {W : WX} {te : TE} {f : Envi → R Hd} {B B0 F0 F H : Hp} {σ : L2.St} {fv : List (Option V)} {ρ : Envi} {fs : List (Str × V)}
theorem Wf.setFld {x : Str} {v : V} {k j : Nat} {a0 : Addr} {s : Slot} {dx : Addr} (w : Wf P B0 F0 F H σ (some (P.me, fv)) ρ) (hk : k = P.n + j) (hx : P.fns[j]? = some x) (hnd : P.fns.Nodup) (hB : Same B B0)
    (hins : H P.me = some (.ins P.C dx fs)) (hl : (∀ (j : Nat) (f : Str), P.fns[j]? = some f → fs.lookup f = (fv[j]? : Option (Option V)).join) ∧ (∀ g, g ∉ P.fns → fs.lookup g = none) ∧ (fs.map (·.1)).Nodup)
    (hs : SlotR P.K F H (some (P.me, fv)) a0 (some v) s) (hself : s ≠ .self) (hsep : s.isOw = true → F a0 = none ∧ B a0 = none ∧ B0 a0 ≠ none) :
    Wf P B F0 F (upd H P.me (.ins P.C dx (putF x v fs))) σ (some (P.me, fv.set j (some v))) (ρ.set k s) := by
  obtain ⟨fh, bh, ff, nw, n, len, ⟨al, s1, s2, s3⟩, hob⟩ := w
  have o := hob P.me fv rfl
  have hj : j < fv.length := by rw [o.len]; exact (List.getElem?_eq_some_iff.mp hx).1
  have tl : (tau σ (some (P.me, fv))).length = σ.length + fv.length := by show (σ ++ fv).length = _; rw [List.length_append]
  have hkρ : k < ρ.length := by rw [len, tl, n]; omega
  have te : tau σ (some (P.me, fv.set j (some v))) = (tau σ (some (P.me, fv))).set k (some v) := by
    show σ ++ fv.set j (some v) = (σ ++ fv).set k (some v)
    rw [List.set_append, if_neg (by rw [n]; omega), n, show k - P.n = j by omega]
  have bme : B P.me = none := hB.free o.bp
  have neq : ∀ {i : Nat} {t : Slot}, ρ[i]? = some t → t.isOw = true → al i ≠ P.me := fun {i t} h ht e => by
    obtain ⟨ho, e2, hne, _⟩ := (s1 i t h).there ht
    rw [e, hins] at e2
    cases e2
    exact hne _ _ _ rfl
  have rs : ∀ {a : Addr} {u : Option V} {t : Slot}, (t.isOw = true → a ≠ P.me) → SlotR P.K F H (some (P.me, fv)) a u t → SlotR P.K F (upd H P.me (.ins P.C dx (putF x v fs))) (some (P.me, fv.set j (some v))) a u t := fun {a u t} hne h => by
    cases t with
    | un => exact True.intro
    | fz d => exact h
    | ow d =>
      obtain ⟨e1, ho, e2, e3⟩ := h
      exact ⟨e1, ho, by rw [upd_ne (hne rfl)]; exact e2, e3⟩
    | self =>
      obtain ⟨q, gv, e1, e2⟩ := h
      cases e1
      exact ⟨P.me, _, rfl, e2⟩
  refine ⟨fun b y e => ?_, fun b y e => ?_, ff, fun b y e => ?_, n, ?_, ⟨fun i => if i = k then a0 else al i, fun i t h => ?_, fun i t h ht => ?_, fun i i' t u h h' ht hu e => ?_⟩, fun q gv e => ?_⟩
  · rw [upd_ne (ne_of_none e o.fp)]; exact fh b y e
  · rw [upd_ne (ne_of_none e bme)]; exact bh b y (hB b y e)
  · rcases nw b y e with z | z
    · exact .inl z
    · exact .inr (z.imp_left hB.free)
  · rw [te, List.length_set, List.length_set]; exact len
  · rw [te]
    by_cases hi : i = k
    · subst hi
      rw [List.getElem?_set_self hkρ] at h
      cases h
      rw [List.getElem?_set_self (by rw [← len]; exact hkρ)]
      simp only [if_true]
      refine rs (fun ho e => ?_) hs
      have := (hsep ho).2.2
      rw [e, o.bp] at this
      exact this rfl
    · rw [List.getElem?_set_ne (fun z => hi z.symm)] at h ⊢
      simp only [hi, if_false]
      exact rs (neq h) (s1 i t h)
  · by_cases hi : i = k
    · subst hi
      rw [List.getElem?_set_self hkρ] at h
      cases h
      simp only [if_true]
      exact ⟨(hsep ht).1, (hsep ht).2.1⟩
    · rw [List.getElem?_set_ne (fun z => hi z.symm)] at h
      simp only [hi, if_false]
      exact ⟨(s2 i t h ht).1, hB.free (s2 i t h ht).2⟩
  · by_cases hi : i = k
    · by_cases hi' : i' = k
      · rw [hi, hi']
      · subst hi
        rw [List.getElem?_set_self hkρ] at h
        cases h
        rw [List.getElem?_set_ne (fun z => hi' z.symm)] at h'
        simp only [hi', if_true, if_false] at e
        have := (s2 i' u h' hu).2
        rw [← e] at this
        exact absurd this (hsep ht).2.2
    · by_cases hi' : i' = k
      · subst hi'
        rw [List.getElem?_set_self hkρ] at h'
        cases h'
        rw [List.getElem?_set_ne (fun z => hi z.symm)] at h
        simp only [hi, if_true, if_false] at e
        have := (s2 i t h ht).2
        rw [e] at this
        exact absurd this (hsep hu).2.2
      · rw [List.getElem?_set_ne (fun z => hi z.symm)] at h
        rw [List.getElem?_set_ne (fun z => hi' z.symm)] at h'
        simp only [hi, hi', if_false] at e
        exact s3 i i' t u h h' ht hu e
  · cases e
    refine ⟨rfl, by rw [List.length_set]; exact o.len, o.fp, bme, dx, putF x v fs, upd_same, fun j' g hg => ?_, fun g hg => ?_, ?_⟩
    · rw [lookup_putF]
      by_cases hgx : g = x
      · subst hgx
        have : j' = j := by
          have h1 := (List.getElem?_eq_some_iff.mp hg)
          have h2 := (List.getElem?_eq_some_iff.mp hx)
          exact (List.getElem_inj hnd).mp (h1.2.trans h2.2.symm)
        subst this
        rw [if_pos rfl, List.getElem?_set_self hj]; rfl
      · rw [if_neg hgx, List.getElem?_set_ne (fun z => by subst z; rw [hx] at hg; exact hgx (Option.some.inj hg).symm)]
        exact hl.1 j' g hg
    · rw [lookup_putF, if_neg (fun z => hg (by rw [z]; exact List.mem_of_getElem? hx))]
      exact hl.2.1 g hg
    · rw [putF_keys]
      split
      · exact hl.2.2
      · rename_i hn
        rw [List.nodup_append]
        exact ⟨hl.2.2, List.nodup_cons.mpr ⟨by simp, List.nodup_nil⟩, fun a ha b hb e => hn (by rw [← show b = x by simpa using hb, ← e]; exact ha)⟩
def setFH (i k : Nat) (ρ : Envi) (h : Hd) : Fl := if isSelf i ρ = true then (match h with
  | .tm o => .nx (ρ.set k (.ow o))
  | .dat d => .nx (ρ.set k (.fz d))
  | _ => .stuck) else .stuck
/-- self.f = e; e new, or data -/
def sSetF (i k : Nat) (f : Envi → R Hd) : Sem := fun ρ => (f ρ).toFl fun h ρ1 => setFH i k ρ1 h
theorem snd_setF {i k j : Nat} {x : Str} (hi : i < P.n) (hk : k = P.n + j) (hx : P.fns[j]? = some x) (hnd : P.fns.Nodup) (h9 : P.fns.length < 1000) (hc : Cls P.K P.C) (hn : NoAttr P.K P.C x) (he : SndE P true W te f) : SndS P W (sFld P.K (tVar i) te x) (sSetF i k f) := fun B F0 F H σ ob ρ D w q => by
  refine he B F0 F H σ ob ρ _ w (Post.of_toFl (H := H) (ρ := ρ) q ?_)
  intro a ρ' B' F' H' ob' v w' s i' r q
  unfold setFH at q
  split at q
  · rename_i h0
    obtain ⟨fv, rfl, e2⟩ := w'.self hi (isSelf_at h0)
    obtain ⟨me, ol, _, _, dx, fs, g1, g2, g3, g4⟩ := w'.ob P.me fv rfl
    have hlen : fs.length < 1000 := by
      have := nodup_sub (m := P.fns) g4 fun y hy => by
        by_cases z : y ∈ P.fns
        · exact z
        · exact absurd hy (lookup_none (g3 y z))
      rw [List.length_map] at this
      omega
    refine ⟨_, e2, P.me, P.C, dx, fs, rfl, g1, hc, hn, hlen, ?_⟩
    cases a with
    | tm o =>
      obtain ⟨a, ho, rfl, rfl, e3, e4, e5⟩ := r
      have w2 := w'.setFld (B := B) (v := .ref a) (a0 := a) (s := .ow o) hk hx hnd (same_new e3) g1 ⟨g2, g3, g4⟩ ⟨rfl, ho, w'.getH, e5⟩ (fun z => nomatch z) fun _ => ⟨e4, e3, by rw [upd_same]; exact fun z => nomatch z⟩
      exact q F' _ σ _ w2 s
    | dat d =>
      obtain ⟨rfl, r⟩ := r
      have w2 := w'.setFld (B := B') (v := v) (a0 := 0) (s := .fz d) hk hx hnd (Same.refl _) g1 ⟨g2, g3, g4⟩ ⟨v, rfl, r⟩ (fun z => nomatch z) fun z => nomatch z
      exact q F' _ σ _ w2 s
    | _ => exact q.elim
  · exact q.elim
end
end Pv

set_option Elab.async false
set_option linter.all false
set_option maxRecDepth 100000
namespace Pv
open PySem PySem.Spec PyProof.Rows L2
section
variable {P : Pr} {m : Bool} {W : WX} {te ta tb : TE} {f g : Envi → R Hd} {n : Nat} {fa : Envi → R (List Hd)} {tr : TA} {B F0 F H : Hp} {σ : L2.St} {ob : Ob} {ρ : Envi}
def eNew (o : Own) : Envi → R Hd := fun ρ => .ok (.tm o) ρ
theorem snd_dnewK : SndE P m W tDNewK (eNew (.di [])) := fun B F0 F H σ ob ρ Q w q p hp =>
  q _ F _ ob _ (w.tmp hp) (Same.refl _) (fun _ => rfl) ⟨p, _, rfl, rfl, w.bh.free hp, w.fh.free hp, [], rfl, Nat.zero_le _, .nil⟩
def dsp2 (h k : Hd) (ρ2 : Envi) : R Hd := match h, k with
  | .dat a, .dat d => match keyOf a with
    | some k => .ok (.tm (.di [(k, d)])) ρ2
    | none => .stuck
  | _, _ => .stuck
def dsp1 (g : Envi → R Hd) (h : Hd) (ρ1 : Envi) : R Hd := (eMat g ρ1).bind (dsp2 h)
def eDisp1 (f g : Envi → R Hd) : Envi → R Hd := fun ρ => (eMat f ρ).bind (dsp1 g)
theorem eMat_ok {f : Envi → R Hd} {ρ ρ' : Envi} {h : Hd} (e : eMat f ρ = .ok h ρ') : ∃ d, h = .dat d := by
  unfold eMat at e
  cases e1 : (f ρ).frz with
  | stuck => rw [e1] at e; cases e
  | exc c ρ1 => rw [e1] at e; cases e
  | ok k ρ1 =>
    rw [e1] at e
    have e : (match mat ρ1 k with | some (d, ρ2) => R.ok (Hd.dat d) ρ2 | none => R.stuck) = .ok h ρ' := e
    split at e
    · cases e; exact ⟨_, rfl⟩
    · cases e
theorem snd_disp1 (ha : SndE P m W ta f) (hb : SndE P m W tb g) : SndE P m W (tDisp [(ta, tb)]) (eDisp1 f g) := fun B F0 F H σ ob ρ Q w q p hp => by
  have fp := w.fh.free hp
  have bp := w.bh.free hp
  refine snd_mat ha _ F0 F _ σ ob ρ _ (w.tmp hp) ?_
  -- what follows is asked under the larger B
  have key : ∀ {α β : Type} {Rel : Hp → Hp → Ob → β → α → Prop} {Q' : β → Hp → Prop} {r : R α} {m' : Bool}, (∀ a ρ', r = .ok a ρ' → ∀ B' F' H' ob' v, Wf P B' F0 F' H' σ ob' ρ' → Same F F' → (m' = false → ob' = ob) → Rel B' F' ob' v a → Q' v H') →
      (∀ c ρ', r = .exc c ρ' → ∀ F' H' ob', Wf P (upd B p (.dK [])) F0 F' H' σ ob' ρ' → Same F F' → W (P.ec c) none σ H') → r ≠ .stuck → Post P (upd B p (.dK [])) F0 F σ ob m' W Rel Q' r := fun {α β Rel Q' r m'} h1 h2 h3 => by
    cases r with
    | ok a ρ' => exact fun B' F' H' ob' v w s i r => h1 a ρ' rfl B' F' H' ob' v w s i r
    | exc c ρ' => exact fun F' H' ob' w s => h2 c ρ' rfl F' H' ob' w s
    | stuck => exact h3 rfl
  cases e1 : eMat f ρ with
  | stuck => unfold eDisp1 at q; rw [e1] at q; exact q.elim
  | exc c ρ1 =>
    intro F' H' ob' w' s
    unfold eDisp1 at q
    rw [e1] at q
    exact q F' H' ob' (w'.lessB (same_new bp)) s
  | ok h ρ1 =>
    intro B1 F1 H1 ob1 x w1 s1 i1 r1
    unfold eDisp1 at q
    rw [e1] at q
    have q : Post P B F0 F σ ob m W (RelE P B σ) Q ((eMat g ρ1).bind (dsp2 h)) := q
    obtain ⟨a, rfl⟩ : ∃ a, h = .dat a := eMat_ok e1
    obtain ⟨rfl, r1⟩ := r1
    refine snd_mat hb _ F0 F1 H1 σ ob1 ρ1 _ w1 ?_
    cases e2 : eMat g ρ1 with
    | stuck => rw [e2] at q; exact q.elim
    | exc c ρ2 =>
      intro F' H' ob' w' s
      rw [e2] at q
      exact q F' H' ob' (w'.lessB (same_new bp)) (s1.trans s)
    | ok k ρ2 =>
      intro B2 F2 H2 ob2 y w2 s2 i2 r2
      rw [e2] at q
      obtain ⟨d, rfl⟩ : ∃ d, k = .dat d := eMat_ok e2
      obtain ⟨rfl, r2⟩ := r2
      have q : Post P B F0 F σ ob m W (RelE P B σ) Q (match keyOf a with | some k => R.ok (Hd.tm (.di [(k, d)])) ρ2 | none => R.stuck) := q
      cases e3 : keyOf a with
      | none => rw [e3] at q; exact q.elim
      | some k =>
        rw [e3] at q
        have f2 : F2 p = none := by
          cases z : F2 p with
          | none => rfl
          | some o =>
            rcases w2.nw p o z with z' | z' | ⟨us, rfl⟩
            · have := w.ff p o z'
              rw [fp] at this; cases this
            · rw [upd_same] at z'; cases z'
            · have z' := w2.fh _ _ z
              rw [w2.getH] at z'; cases z'
        refine ⟨w2.getH, [(k, y)], ?_, by show 1 ≤ 15; decide, ?_⟩
        · have := keyOf_rep r1 e3
          rw [this]; rfl
        · exact q _ F2 _ ob2 _ (w2.tmpUpd f2) (s1.trans s2) (fun z => (i2 z).trans (i1 z)) ⟨p, _, rfl, rfl, bp, f2, [(k, y)], rfl, by show 1 ≤ sizeLine; decide, .cons ⟨rfl, r2⟩ .nil⟩
/-- an object made for one call of a method; the method's arguments a number, or none -/
def eMk (nf : Nat) (fi fm : List Slot → List D → Option (D × List Slot)) (g : Envi → R (List Hd)) (ds2 : List D) : Envi → R Hd := fun ρ => (g ρ).bind fun hs ρ1 => match matAll ρ1 hs with
  | some (ds, ρ2) => match mkM nf fi fm ds ds2 with
    | some d => .ok (.dat d) ρ2
    | none => .stuck
  | none => .stuck
theorem mk_call {K : PySem.W.Frag} {C : Addr} {fns : List Str} {n n2 : Nat} {fi fm : List Slot → List D → Option (D × List Slot)} {F H : Hp} {vs vs2 : List V} {ds ds2 : List D} {d : D} {Q : VK} {mt : Str} (hm : mt ∉ fns) (hv : vs.length = n) (hv2 : vs2.length = n2) (s : Same F H) (r : Reps K F vs ds) (r2 : ∀ F, Reps K F vs2 ds2) (e : mkM fns.length fi fm ds ds2 = some d)
    (q : ∀ F' H' v, Same F F' → Same F' H' → Same H H' → (∀ b o, F' b = some o → F b = some o ∨ H b = none ∨ ∃ vs, o = .tup vs) → Rep K F' v d → Q v H') (x dx : Addr) (hx : H x = none) (hd : H dx = none) (hne : dx ≠ x) :
    spM K C fns n fi (.ref x :: vs) (upd (upd H dx (.own x)) x (.ins C dx [])) (fun v H2 => v = .non ∧ ∃ a dx fs, V.ref x = .ref a ∧ H2 a = some (.ins C dx fs) ∧ fs.lookup mt = none ∧ spM K C fns n2 fm (.ref x :: vs2) H2 Q fun _ _ _ => False) fun _ _ _ => False := by
  unfold mkM at e
  split at e
  · rename_i fs1 e1
    obtain ⟨⟨d', fs2⟩, e2, rfl⟩ := Option.map_eq_some_iff.mp e
    have hh : Same H (upd (upd H dx (.own x)) x (.ins C dx [])) := (same_new hd).trans (same_new (by rw [upd_ne (Ne.symm hne)]; exact hx))
    refine ⟨by rw [List.length_cons, hv], x, vs, rfl, H, F, ds, _, _, hh, s.trans hh, r, FldW.new hx hd hne s, .non, fs1, e1, fun F1 H1 v fv1 k1 k2 k3 k4 w1 rv => ?_⟩
    cases rv
    obtain ⟨_, _, _, _, dx1, g1, h1, _, h3, _⟩ := w1.ob
    refine ⟨rfl, x, dx1, g1, rfl, h1, h3 mt hm, by rw [List.length_cons, hv2], x, vs2, rfl, H, F1, ds2, fv1, fs1, k3, k2, r2 F1, w1, d', fs2, e2, fun F2 H2 v fv2 j1 j2 j3 j4 w2 rv => ?_⟩
    refine q F2 H2 v (k1.trans j1) j2 j3 (fun b o z => ?_) rv
    rcases j4 b o z with z | z
    · exact k4 b o z
    · exact .inr z
  · cases e
theorem snd_mk {fns : List Str} {C : Addr} {n2 : Nat} {fi fm : List Slot → List D → Option (D × List Slot)} {mt : Str} {t2 : TA} {vs2 : List V} {ds2 : List D} (hm : mt ∉ fns) (h2 : ∀ σ H Q, Q vs2 H → t2 σ H Q) (hv2 : vs2.length = n2) (r2 : ∀ F, Reps P.K F vs2 ds2) (ha : SndA P m W n tr fa) :
    SndE P m W (tMeth C mt (spM P.K C fns n2 fm) [] (fun _ _ _ => False) (tMake C (spM P.K C fns n fi) [] (fun _ _ _ => False) tr) t2) (eMk fns.length fi fm fa ds2) := fun B F0 F H σ ob ρ Q w q => by
  refine ha B F0 F H σ ob ρ _ w (Post.of_bind (k := fun hs ρ1 => match matAll ρ1 hs with | some (ds, ρ2) => (match mkM fns.length fi fm ds ds2 with | some d => R.ok (Hd.dat d) ρ2 | none => R.stuck) | none => R.stuck) q ?_)
  rintro hs ρ1 B' F1 H1 ob1 ys w1 s1 i1 ⟨⟨rfl, r1⟩, hl⟩ q
  cases e : matAll ρ1 hs with
  | none => rw [e] at q; exact q.elim
  | some y =>
    obtain ⟨ds, ρ2⟩ := y
    rw [e] at q
    have q : Post P B' F0 F σ ob m W (RelE P B' σ) Q (match mkM fns.length fi fm ds ds2 with | some d => R.ok (Hd.dat d) ρ2 | none => R.stuck) := q
    cases e2 : mkM fns.length fi fm ds ds2 with
    | none => rw [e2] at q; exact q.elim
    | some d =>
      rw [e2] at q
      obtain ⟨F2, w2, s2, rr⟩ := w1.matAll r1 e
      intro x dx hx hd hne
      rw [List.append_nil]
      have := mk_call (C := C) (n := n) (n2 := n2) (Q := Q) hm hl hv2 w2.fh rr r2 e2 (fun F' H' v k1 k2 k3 k4 rv => q B' F' H' ob1 v (w2.call k1 k2 k3 k4) ((s1.trans s2).trans k1) i1 ⟨rfl, rv⟩) x dx hx hd hne
      obtain ⟨z0, p, vs', z1, B1, F', ds', fv, fs, z2, z3, z4, z5, d', fs', z6, z7⟩ := this
      refine ⟨z0, p, vs', z1, B1, F', ds', fv, fs, z2, z3, z4, z5, d', fs', z6, fun F'' H'' v fv' k1 k2 k3 k4 k5 k6 => ?_⟩
      obtain ⟨y1, a, dx', g, y2, y3, y4, y5⟩ := z7 F'' H'' v fv' k1 k2 k3 k4 k5 k6
      refine ⟨y1, a, dx', g, y2, y3, y4, h2 _ _ _ ?_⟩
      rw [List.append_nil]
      exact y5
end
end Pv

set_option Elab.async false
set_option linter.all false
set_option maxRecDepth 100000
namespace Pv
open PySem PySem.Spec PyProof.Rows L2
def noSelf (ρ : Envi) : Bool := ρ.all fun s => match s with
  | .self => false
  | _ => true
def letEnd (n : Nat) : Fl → Fl
  | .ret v _ => .ret v (unsN n)
  | .exc c _ => .exc c (unsN n)
  | _ => .stuck
def sLet (i n nf : Nat) (fi : List Slot → List D → Option (D × List Slot)) (g : Envi → R (List Hd)) (rest : Sem) : Sem := fun ρ => (g ρ).toFl fun hs ρ1 => match matAll ρ1 hs with
  | some (ds, ρ2) => if (decide (ρ2.length = n) && noSelf ρ2) = true then (match fi (unsN nf) ds with
    | some (.non, fs1) => letEnd n (rest (ρ2.set i .self ++ fs1))
    | _ => .stuck) else .stuck
  | none => .stuck
section
variable {P : Pr} {m : Bool} {W : WX} {n : Nat} {fa : Envi → R (List Hd)} {tr : TA} {B F0 F H : Hp} {σ : L2.St} {ob : Ob} {ρ : Envi} {D : Ends}
end
end Pv

set_option Elab.async false
set_option linter.all false
set_option maxRecDepth 100000
namespace Pv
open PySem PySem.Spec PyProof.Rows L2
structure Mth (K : PySem.W.Frag) (C : Addr) (x qual : Str) (st : Stmt) (ps : List Str) where
  f : Addr
  fd : FuncData
  F : Fun K x qual st f fd
  b : Binds K fd ps []
  m : Meth K C x f
structure Ini (K : PySem.W.Frag) (C : Addr) (qual : Str) (st : Stmt) (ps : List Str) where
  f : Addr
  fd : FuncData
  F : Fun K "__init__" qual st f fd
  b : Binds K fd ps []
  mo : Mk K C f
theorem nmem {l : List Str} {x : Str} (h : l.contains x = false) : x ∉ l := fun z => by
  rw [List.contains_iff_mem.mpr z] at h
  cases h
theorem pass0E {X : Cx} : Passes (L2.CX X.prog X.w) X (fun _ _ _ => False) := fun pins σ H s e s' I c => passAt takes0 σ pins H s e s' I c
theorem ktup_K {K : PySem.W.Frag} {a : Addr} {its : List Value} {n : Nat} {sl : Array (Option Value)} {vs : List V} (h : K.lookup a = some ⟨.type "tuple", none, .seq its.toArray n, sl⟩) (hs : its.length ≤ sizeLine) (r : Vals vs its) : KTup K (fun _ => none) a vs :=
  .inr ⟨_, its.toArray, n, h, rfl, rfl, rfl, by simpa using hs, by simpa using r⟩
theorem op_eqK {X : Cx} {K : PySem.W.Frag} (hu : X.A.units + 64 < cLine) (hK : X.K = K := by rfl) : OpR X (compareOp .Eq) (rEqD K) := by subst hK; exact op_eqD hu
theorem op_neK {X : Cx} {K : PySem.W.Frag} (hu : X.A.units + 64 < cLine) (hK : X.K = K := by rfl) : OpR X (compareOp .NotEq) (rNeD K) := by subst hK; exact op_neD hu
theorem pg_tupK {X : Cx} {K : PySem.W.Frag} {es : List Expr} {k : Nat} {t : TGs} {n : Nat} {pos : Pos} (hc : X.calm = true) (h : PGs X es t)
    (hn : (assignEach es X.env).length = n := by rfl) (hst : (assignEach es X.env).findIdx? (·.1) = none := by rfl) (hK : X.K = K := by rfl) : PG X (.Tuple es k pos) (gTup K n t) := by subst hK; exact pg_tup hc h hn hst
theorem ix_seqK {X : Cx} {K : PySem.W.Frag} (hK : X.K = K := by rfl) : IxR X (rIx K) := by subst hK; exact ix_seq
end Pv

set_option Elab.async false
set_option linter.all false
set_option maxRecDepth 100000
namespace Pv
open PySem PySem.Spec PyProof.Rows L2
section
variable {ρ : Envi} {i k n : Nat} {d a b : D} {o : Own} {c : Exc}
def fldM (k : Nat) (ρ : Envi) : Option Slot → Option Slot → R Hd
  | some .self, some (.fz d) => .ok (.dat d) ρ
  | some .self, some (.ow _) => .ok (.fl k) ρ
  | _, _ => .stuck
def selM : Option Slot → Bool
  | some .self => true
  | _ => false
def sfM (N : Nat) (fm : List Slot → List D → Option (D × List Slot)) (i : Nat) : Option (List D × Envi) → R Hd
  | some (ds, ρ2) => if isSelf i ρ2 = true then selfM N fm ρ2 ds else .stuck
  | none => .stuck
def sfk (i N : Nat) (fm : List Slot → List D → Option (D × List Slot)) (hs : List Hd) (ρ1 : Envi) : R Hd := sfM N fm i (matAll ρ1 hs)
def smM (N : Nat) (ρ : Envi) : Option (D × List Slot) → R Hd
  | some (d, fs') => .ok (.dat d) (ρ.take N ++ fs')
  | none => .stuck
def stfk (i k : Nat) (h : Hd) (ρ1 : Envi) : Fl := setFH i k ρ1 h
@[simp] theorem y_dsp1 {g : Envi → R Hd} {h : Hd} : dsp1 g h ρ = (eMat g ρ).bind (dsp2 h) := id rfl
@[simp] theorem y_disp1 {f g : Envi → R Hd} : eDisp1 f g ρ = (eMat f ρ).bind (dsp1 g) := id rfl
def mkkM (nf : Nat) (fi fm : List Slot → List D → Option (D × List Slot)) (ds2 : List D) : Option (List D × Envi) → R Hd
  | some (ds, ρ2) => match mkM nf fi fm ds ds2 with
    | some d => .ok (.dat d) ρ2
    | none => .stuck
  | none => .stuck
def mkk (nf : Nat) (fi fm : List Slot → List D → Option (D × List Slot)) (ds2 : List D) (hs : List Hd) (ρ1 : Envi) : R Hd := mkkM nf fi fm ds2 (matAll ρ1 hs)
@[simp] theorem y_mk {nf : Nat} {fi fm : List Slot → List D → Option (D × List Slot)} {g : Envi → R (List Hd)} {ds2 : List D} : eMk nf fi fm g ds2 ρ = (g ρ).bind (mkk nf fi fm ds2) := by unfold eMk mkk mkkM; rfl
def dg5 (a b z : D) (ρ : Envi) : Option (Option D) → R Hd
  | some (some d) => .ok (.dat d) ρ
  | some none => .ok (.dat z) ρ
  | none => .stuck
end
end Pv

set_option Elab.async false
set_option linter.all false
set_option maxRecDepth 100000
namespace Pv
open PySem PySem.Spec PyProof.Rows L2
section
variable {ρ : Envi} {i k n : Nat} {d a b z : D} {o : Own} {c : Exc} {f g e : Envi → R Hd}
def dgD (a : D) (ρ3 : Envi) : Option D → Hd → R Hd
  | some b, .dat z => dg5 a b z ρ3 (dLook a b)
  | _, _ => .stuck
def dgC (a : D) (k : Hd) (x : Hd) (ρ3 : Envi) : R Hd := dgD a ρ3 (deref ρ3 k) x
def dgB (a : D) (e : Envi → R Hd) (k : Hd) (ρ2 : Envi) : R Hd := (eMat e ρ2).bind (dgC a k)
def dgA (g e : Envi → R Hd) (h : Hd) (ρ1 : Envi) : R Hd := match h with
  | .dat a => if isDictD a = true then (g ρ1).frz.bind (dgB a e) else .stuck
  | _ => .stuck
def dpC (k : Nat) (ρ2 : Envi) : Option Own → Fl
  | some o' => .nx (ρ2.set k (.ow o'))
  | none => .stuck
def dpM (k : Nat) (d : D) (ρ2 : Envi) : Hd → Option Slot → Fl
  | .dat b, some (.ow o) => dpC k ρ2 (dPut o b d)
  | _, _ => .stuck
def dpB (k : Nat) (d : D) (y : Hd) (ρ2 : Envi) : Fl := dpM k d ρ2 y ρ2[k]?
def owS : Option Slot → Bool
  | some (.ow _) => true
  | _ => false
def dpA (k : Nat) (ok : Envi → Bool) (g : Envi → R Hd) (x : Hd) (ρ1 : Envi) : Fl := match x with
  | .dat d => if ok ρ1 = true then (if owS ρ1[k]? = true then (eMat g ρ1).toFl (dpB k d) else .stuck) else .stuck
  | _ => .stuck
@[simp] theorem y_dpC {o' : Own} : dpC k ρ (some o') = .nx (ρ.set k (.ow o')) := id rfl
@[simp] theorem y_dpM : dpM k d ρ (.dat b) (some (.ow o)) = dpC k ρ (dPut o b d) := id rfl
@[simp] theorem y_dpB {y : Hd} : dpB k d y ρ = dpM k d ρ y ρ[k]? := id rfl
@[simp] theorem y_owS : owS (some (.ow o)) = true := id rfl
@[simp] theorem y_dpA {ok : Envi → Bool} : dpA k ok g (.dat d) ρ = if ok ρ = true then (if owS ρ[k]? = true then (eMat g ρ).toFl (dpB k d) else .stuck) else .stuck := id rfl
theorem toFl_congr {α : Type} {r : R α} {h h' : α → Envi → Fl} (e : ∀ x ρ, h x ρ = h' x ρ) : r.toFl h = r.toFl h' := by
  cases r <;> first | rfl | exact e _ _
@[simp] theorem y_dput {ok : Envi → Bool} : sDPutP k ok g e ρ = (eMat e ρ).toFl (dpA k ok g) := by
  unfold sDPutP
  refine toFl_congr fun h ρ1 => ?_
  cases h with
  | dat d =>
    show (if _ then _ else _) = (if _ then _ else _)
    split
    · cases ρ1[k]? with
      | none => rfl
      | some s =>
        cases s with
        | ow o0 =>
          show _ = (if true = true then _ else _)
          rw [if_pos rfl]
          refine toFl_congr fun y ρ2 => ?_
          show _ = dpM k d ρ2 y ρ2[k]?
          cases y with
          | dat b =>
            cases ρ2[k]? with
            | none => rfl
            | some s =>
              cases s with
              | ow o =>
                show _ = dpC k ρ2 (dPut o b d)
                cases h : dPut o b d with
                | none => simp only [h]; rfl
                | some o' => simp only [h]; rfl
              | _ => rfl
          | _ => rfl
        | _ => rfl
    · rfl
  | _ => rfl
@[simp] theorem y_dPut_i {kvs : List (Key × D)} {x : Int} : dPut (.di kvs) (.int x) d = if kvs.length < big then some (.di (putA kvs (.inl x) d)) else none := id rfl
@[simp] theorem y_dLook_i {ks : List Key} {l : List D} {x : Int} : dLook (.dk ks l) (.int x) = some (lookA (ks.zip l) (.inl x)) := id rfl
def enM1 (n : Nat) (ρ : Envi) (d : D) : Option Slot → Option (D × List Slot)
  | some .self => some (d, ρ.drop n)
  | _ => none
def sloB (i n nf : Nat) (rest : Sem) (ρ2 : Envi) : Option (D × List Slot) → Fl
  | some (.non, fs1) => letEnd n (rest (ρ2.set i .self ++ fs1))
  | _ => .stuck
def sloM (i n nf : Nat) (fi : List Slot → List D → Option (D × List Slot)) (rest : Sem) : Option (List D × Envi) → Fl
  | some (ds, ρ2) => if (decide (ρ2.length = n) && noSelf ρ2) = true then sloB i n nf rest ρ2 (fi (unsN nf) ds) else .stuck
  | none => .stuck
def slok (i n nf : Nat) (fi : List Slot → List D → Option (D × List Slot)) (rest : Sem) (hs : List Hd) (ρ1 : Envi) : Fl := sloM i n nf fi rest (matAll ρ1 hs)
theorem runFor_nx {b : Bnd} {g : Sem} {d : D} {l : List D} {ρ1 ρ2 : Envi} (h1 : b d ρ = some ρ1) (h2 : g ρ1 = .nx ρ2) : runFor b g (d :: l) ρ = runFor b g l ρ2 := by
  show (match b d ρ with | none => Fl.stuck | some ρ1 => match g ρ1 with | .nx ρ2 => runFor b g l ρ2 | .ct ρ2 => runFor b g l ρ2 | .bk ρ2 => .nx ρ2 | r => r) = _
  rw [h1]
  simp only [h2]
end
end Pv

set_option Elab.async false
set_option linter.all false
set_option maxRecDepth 100000
namespace Pv
open PySem PySem.Spec PyProof.Rows L2
section
variable {P : Pr} {m : Bool} {W : WX} {te ta tb tc to : TE} {f g e : Envi → R Hd} {n : Nat} {fa : Envi → R (List Hd)} {tr : TA} {B F0 F H : Hp} {σ : L2.St} {ob : Ob} {ρ : Envi} {K : PySem.W.Frag}
def eDGet3 (f g e : Envi → R Hd) : Envi → R Hd := fun ρ => (f ρ).frz.bind fun h ρ1 => match deref ρ1 h with
  | some a0 => if isDictD a0 = true then (g ρ1).frz.bind fun k ρ2 => (eMat e ρ2).bind fun x ρ3 => match deref ρ3 h, deref ρ3 k, x with
    | some a, some b, .dat z => match dLook a b with
      | some (some d) => .ok (.dat d) ρ3
      | some none => .ok (.dat z) ρ3
      | none => .stuck
    | _, _, _ => .stuck
    else .stuck
  | none => .stuck
def dOfK : Key → D
  | .inl i => .int i
  | .inr x => .str x
def keysD : Own → Option (List D)
  | .di l => some (l.map fun x => dOfK x.1)
  | .ti l => some (l.map fun x => .tup (x.1.map dOfK))
  | .li _ => none
/-- what was locked is open again -/
def Unl (F F' : Hp) : Prop := ∀ b x, F b = some x → F' b = some x ∨ ∃ od u, x = .frz od u ∧ F' b = some u ∧ (∀ vs, u ≠ .tup vs) ∧ ∀ vs, u ≠ .lst vs
end
end Pv

set_option Elab.async false
set_option linter.all false
set_option maxRecDepth 100000
namespace Pv
open PySem PySem.Spec PyProof.Rows L2
section
variable {P : Pr} {m : Bool} {W : WX} {te ta tb : TE} {f : Envi → R Hd} {B F0 F H : Hp} {σ : L2.St} {ob : Ob} {ρ : Envi} {K : PySem.W.Frag}
def shortK : Own → Bool
  | .ti l => l.all fun x => decide (x.1.length ≤ 100)
  | _ => true
def eKComp (i : Nat) (b : Bnd) (c : Envi → R Bool) (e : Envi → R Hd) (vs : List Nat) : Envi → R Hd := fun ρ => match ρ[i]? with
  | some (.ow o) => match keysD o with
    | some ds => if shortK o = true then opt3 (runComp b c e vs ds (wipeE (ρ.set i (.fz o.toD)) vs)) else .stuck
    | none => .stuck
  | _ => .stuck
end
end Pv

set_option Elab.async false
set_option linter.all false
set_option maxRecDepth 100000
namespace Pv
open PySem PySem.Spec PyProof.Rows L2
section
variable {ρ : Envi} {i k n : Nat} {d a b z : D} {o : Own} {c : Exc} {f g e : Envi → R Hd}
def dhD (ρ3 : Envi) : Option D → Option D → Hd → R Hd
  | some a, some b, .dat z => dg5 a b z ρ3 (dLook a b)
  | _, _, _ => .stuck
def dhC (h k x : Hd) (ρ3 : Envi) : R Hd := dhD ρ3 (deref ρ3 h) (deref ρ3 k) x
def dhB (h : Hd) (e : Envi → R Hd) (k : Hd) (ρ2 : Envi) : R Hd := (eMat e ρ2).bind (dhC h k)
def dhE (g e : Envi → R Hd) (h : Hd) (ρ1 : Envi) : Option D → R Hd
  | some a0 => if isDictD a0 = true then (g ρ1).frz.bind (dhB h e) else .stuck
  | none => .stuck
def dhA (g e : Envi → R Hd) (h : Hd) (ρ1 : Envi) : R Hd := dhE g e h ρ1 (deref ρ1 h)
def kcC (i : Nat) (b : Bnd) (c : Envi → R Bool) (e : Envi → R Hd) (vs : List Nat) (ρ : Envi) (o : Own) : Option (List D) → R Hd
  | some ds => if shortK o = true then opt3 (runComp b c e vs ds (wipeE (ρ.set i (.fz o.toD)) vs)) else .stuck
  | none => .stuck
def kcA (i : Nat) (b : Bnd) (c : Envi → R Bool) (e : Envi → R Hd) (vs : List Nat) (ρ : Envi) : Option Slot → R Hd
  | some (.ow o) => kcC i b c e vs ρ o (keysD o)
  | _ => .stuck
end
end Pv


set_option Elab.async false
set_option linter.all false
set_option maxRecDepth 100000
set_option maxHeartbeats 4000000
namespace Fw
open PySem PySem.Spec PyProof.Rows L2 Pv
def sem_is_whole : Sem :=
  (sRet (eIf (tsE (eCB fIsi (aCons (eVar 0) (aCons (eC (.ty "int")) aNil)))) (eOfT (tsNot (tsE (eCB fIsi (aCons (eVar 0) (aCons (eC (.ty "bool")) aNil)))))) (eC (.bl false))))
def fs_is_whole : List D → Rf := fsOf 1 sem_is_whole
def sem_between : Sem :=
  (sRet (eIf (tsE (eCall fs_is_whole (aCons (eVar 0) aNil))) (eChain opLe opLe (eVar 1) (eVar 0) (eVar 2)) (eC (.bl false))))
def fs_between : List D → Rf := fsOf 3 sem_between
def sem_is_arrow : Sem :=
  (sSeq (sIf (tsOr (tsNot (tsE (eCB fIsi (aCons (eVar 0) (aCons (eC (.ty "tuple")) aNil))))) (tsE (eBin opNe (eCB fLen (aCons (eVar 0) aNil)) (eC (.int 3))))) (sRet (eC (.bl false))) sNext)
    (sSeq (sIf (tsOr (tsNot (tsE (eCall fs_between (aCons (eBin opIx (eVar 0) (eC (.int 0))) (aCons (eC (.int 0)) (aCons (eBin opSub (eVar 1) (eC (.int 1))) aNil)))))) (tsNot (tsE (eCall fs_between (aCons (eBin opIx (eVar 0) (eC (.int 1))) (aCons (eC (.int 0)) (aCons (eBin opSub (eVar 1) (eC (.int 1))) aNil))))))) (sRet (eC (.bl false))) sNext)
    (sRet (eIf (tsE (eBin opNe (eBin opIx (eVar 0) (eC (.int 0))) (eBin opIx (eVar 0) (eC (.int 1))))) (eCall fs_between (aCons (eBin opIx (eVar 0) (eC (.int 2))) (aCons (eC (.int 1)) (aCons (eC (.int 99)) aNil)))) (eC (.bl false))))))
def fs_is_arrow : List D → Rf := fsOf 2 sem_is_arrow
def ce_is_web_1 : Envi → R Hd :=
  (eCall fs_is_arrow (aCons (eVar 2) (aCons (eBin opIx (eVar 0) (eC (.int 0))) aNil)))
def ce_is_web_2 : Envi → R Hd :=
  (eBin opLtA (eSl (opSl false) (eBin opIx (eVar 1) (eVar 3)) pNo (pSome (eC (.int 2)))) (eSl (opSl false) (eBin opIx (eVar 1) (eBin opAdd (eVar 3) (eC (.int 1)))) pNo (pSome (eC (.int 2)))))
def sem_is_web : Sem :=
  (sSeq (sIf (tsOr (tsNot (tsE (eCB fIsi (aCons (eVar 0) (aCons (eC (.ty "tuple")) aNil))))) (tsOr (tsE (eBin opNe (eCB fLen (aCons (eVar 0) aNil)) (eC (.int 2)))) (tsNot (tsE (eCall fs_between (aCons (eBin opIx (eVar 0) (eC (.int 0))) (aCons (eC (.int 1)) (aCons (eC (.int 7)) aNil)))))))) (sRet (eC (.bl false))) sNext)
    (sSeq (sSet 1 (eBin opIx (eVar 0) (eC (.int 1))))
    (sSeq (sIf (tsOr (tsNot (tsE (eCB fIsi (aCons (eVar 1) (aCons (eC (.ty "tuple")) aNil))))) (tsNot (tsE (eCB fAll (aCons (eComp (itBy tupOf (eVar 1)) (bN 2) tTrue ce_is_web_1 [2]) aNil))))) (sRet (eC (.bl false))) sNext)
    (sRet (eCB fAll (aCons (eComp (itRng1 (aCons (eBin opSub (eCB fLen (aCons (eVar 1) aNil)) (eC (.int 1))) aNil)) (bN 3) tTrue ce_is_web_2 [3]) aNil))))))
def fs_is_web : List D → Rf := fsOf 4 sem_is_web
def sem_checked : Sem :=
  (sSeq (sIf (tsNot (tsE (eCall fs_is_web (aCons (eVar 0) aNil)))) (sRaise .noWeb) sNext)
    (sRet (eVar 0)))
def fs_checked : List D → Rf := fsOf 1 sem_checked
def ce_need_row_1 : Envi → R Hd :=
  (eCall fs_is_whole (aCons (eVar 2) aNil))
def sem_need_row : Sem :=
  (sSeq (sDrop (eCall fs_checked (aCons (eVar 0) aNil)))
    (sSeq (sIf (tsOr (tsNot (tsE (eCB fIsi (aCons (eVar 1) (aCons (eC (.ty "tuple")) aNil))))) (tsNot (tsE (eCB fAll (aCons (eComp (itBy tupOf (eVar 1)) (bN 2) tTrue ce_need_row_1 [2]) aNil))))) (sRaise .noRow) sNext)
    (sIf (tsE (eBin opNe (eCB fSorted (aCons (eCB fList (aCons (eVar 1) aNil)) aNil)) (eLRg1 (eBin opIx (eVar 0) (eC (.int 0)))))) (sRaise .noRow) sNext)))
def fs_need_row : List D → Rf := fsOf 3 sem_need_row
def ce_turned_by_1 : Envi → R Hd :=
  (eTup (aCons (eVar 4) (aCons (eVar 3) aNil)))
def ct_turned_by_2 : Envi → R Bool :=
  (tsE (eBin opGt (eBin opDGet (eVar 2) (eBin opIx (eVar 5) (eC (.int 0)))) (eBin opDGet (eVar 2) (eBin opIx (eVar 5) (eC (.int 1))))))
def sem_turned_by : Sem :=
  (sSeq (sSet 2 (eCB fDictK (aCons (eComp (itEnumT (aCons (eMat (eVar 1)) aNil)) (bT 2 (bsCons (bN 3) (bsCons (bN 4) bsNil))) tTrue ce_turned_by_1 [3, 4]) aNil)))
    (sRet (eComp (itBy tupOf (eBin opIx (eVar 0) (eC (.int 1)))) (bN 5) ct_turned_by_2 (eVar 5) [5])))
def fs_turned_by : List D → Rf := fsOf 6 sem_turned_by
def sem_turned : Sem :=
  (sSeq (sDrop (eCall fs_need_row (aCons (eVar 0) (aCons (eVar 1) aNil))))
    (sRet (eCall fs_turned_by (aCons (eVar 0) (aCons (eVar 1) aNil)))))
def fs_turned : List D → Rf := fsOf 2 sem_turned
def ce_weight_of_1 : Envi → R Hd :=
  (eBin opIx (eVar 2) (eC (.int 2)))
def sem_weight_of : Sem :=
  (sRet (eCB fSum (aCons (eComp (itBy lstOf (eCall fs_turned_by (aCons (eVar 0) (aCons (eVar 1) aNil)))) (bN 2) tTrue ce_weight_of_1 [2]) aNil)))
def fs_weight_of : List D → Rf := fsOf 3 sem_weight_of
def sem_weight : Sem :=
  (sSeq (sDrop (eCall fs_need_row (aCons (eVar 0) (aCons (eVar 1) aNil))))
    (sRet (eCall fs_weight_of (aCons (eVar 0) (aCons (eVar 1) aNil)))))
def fs_weight : List D → Rf := fsOf 2 sem_weight
def sem_L_cell_at : Sem :=
  (sSeq (sIf (tsE (eBin opLtA (eVar 1) (eCB fLen (aCons (eVar 0) aNil)))) (sRet (eBin opIx (eVar 0) (eVar 1))) sNext)
    (sSeq (sIf (tsE (eBin opEq (eVar 0) (eLst aNil))) (sRet (eC (.int 0))) sNext)
    (sRet (eBin opAdd (eBin opMul (eBin opIx (eVar 0) (eBin opMod (eVar 1) (eCB fLen (aCons (eVar 0) aNil)))) (eC (.int 31))) (eVar 1)))))
def fs_L_cell_at : List D → Rf := fsOf 2 sem_L_cell_at
def sem_L_mixed : Sem :=
  (sSeq (sSet 3 (eBin opMod (eBin opMul (eBin opAdd (eBin opAdd (eCall fs_L_cell_at (aCons (eVar 0) (aCons (eVar 1) aNil))) (eBin opMul (eC (.int 7919)) (eVar 1))) (eC (.int 1))) (eC (.int 48271))) (eC (.int 2147483647))))
    (sRet (eBin opMod (eBin opMod (eBin opAdd (eBin opAdd (eBin opMul (eVar 3) (eVar 3)) (eBin opMul (eC (.int 7)) (eVar 3))) (eVar 1)) (eC (.int 2147483629))) (eVar 2))))
def fs_L_mixed : List D → Rf := fsOf 4 sem_L_mixed
def bd_L_web_1 : Sem :=
  (sSeq (sSet 9 (eCall fs_L_mixed (aCons (eVar 0) (aCons (eBin opAdd (eBin opAdd (eBin opAdd (eVar 1) (eC (.int 3))) (eBin opMul (eC (.int 5)) (eVar 7))) (eVar 8)) (aCons (eBin opMul (eC (.int 10)) (eVar 5)) aNil)))))
    (sIf (tsAnd (tsE (eBin opNe (eVar 7) (eVar 8))) (tsE (eBin opLtA (eBin opMod (eVar 9) (eC (.int 10))) (eVar 4)))) (sDrop (eMut 6 okT "list" muAppend (aCons (eTup (aCons (eVar 7) (aCons (eVar 8) (aCons (eBin opAdd (eC (.int 1)) (eBin opDiv (eVar 9) (eC (.int 10)))) aNil)))) aNil))) sNext))
def bd_L_web_2 : Sem :=
  (sFor (itRng1 (aCons (eVar 3) aNil)) (bN 8) bd_L_web_1)
def sem_L_web : Sem :=
  (sSeq (sSet 3 (eBin opAdd (eC (.int 1)) (eCall fs_L_mixed (aCons (eVar 0) (aCons (eVar 1) (aCons (eVar 2) aNil))))))
    (sSeq (sSet 4 (eBin opAdd (eC (.int 3)) (eCall fs_L_mixed (aCons (eVar 0) (aCons (eBin opAdd (eVar 1) (eC (.int 1))) (aCons (eC (.int 6)) aNil))))))
    (sSeq (sSet 5 (eBin opIx (eLst (aCons (eC (.int 1)) (aCons (eC (.int 3)) (aCons (eC (.int 9)) (aCons (eC (.int 99)) aNil))))) (eCall fs_L_mixed (aCons (eVar 0) (aCons (eBin opAdd (eVar 1) (eC (.int 2))) (aCons (eC (.int 4)) aNil))))))
    (sSeq (sSet 6 (eLst aNil))
    (sSeq (sFor (itRng1 (aCons (eVar 3) aNil)) (bN 7) bd_L_web_2)
    (sRet (eTup (aCons (eVar 3) (aCons (eCB fTup (aCons (eVar 6) aNil)) aNil)))))))))
def fs_L_web : List D → Rf := fsOf 10 sem_L_web
def bd_L_row_1 : Sem :=
  (sDrop (eMut 4 okT "list" muAppend (aCons (eMut 3 okT "list" muPopAt (aCons (eCall fs_L_mixed (aCons (eVar 0) (aCons (eBin opAdd (eVar 1) (eVar 5)) (aCons (eCB fLen (aCons (eVar 3) aNil)) aNil)))) aNil)) aNil)))
def sem_L_row : Sem :=
  (sSeq (sSet 3 (eLRg1 (eVar 2)))
    (sSeq (sSet 4 (eLst aNil))
    (sSeq (sFor (itRng1 (aCons (eVar 2) aNil)) (bN 5) bd_L_row_1)
    (sRet (eCB fTup (aCons (eVar 4) aNil))))))
def fs_L_row : List D → Rf := fsOf 6 sem_L_row
def bd_L_weight_1 : Sem :=
  (sIf (tsE (eBin opGt (eMeth isKT opIndexT (eVar 1) (aCons (eVar 3) aNil)) (eMeth isKT opIndexT (eVar 1) (aCons (eVar 4) aNil)))) (sSet 2 (eBin opAdd (eVar 2) (eVar 5))) sNext)
def sem_L_weight : Sem :=
  (sSeq (sSet 2 (eC (.int 0)))
    (sSeq (sFor (itBy tupOf (eBin opIx (eVar 0) (eC (.int 1)))) (bT 3 (bsCons (bN 3) (bsCons (bN 4) (bsCons (bN 5) bsNil)))) bd_L_weight_1)
    (sRet (eVar 2))))
def fs_L_weight : List D → Rf := fsOf 6 sem_L_weight
def ce_weights_of_1 : Envi → R Hd :=
  (eTup (aCons (eTup (aCons (eVar 1) (aCons (eVar 2) aNil))) (aCons (eVar 3) aNil)))
def sem_weights_of : Sem :=
  (sRet (eCB fDictT (aCons (eComp (itBy tupOf (eBin opIx (eVar 0) (eC (.int 1)))) (bT 3 (bsCons (bN 1) (bsCons (bN 2) (bsCons (bN 3) bsNil)))) tTrue ce_weights_of_1 [1, 2, 3]) aNil)))
def fs_weights_of : List D → Rf := fsOf 4 sem_weights_of
def ce_turned_about_1 : Envi → R Hd :=
  (eTup (aCons (eVar 2) (aCons (eVar 1) (aCons (eVar 3) aNil))))
def sem_turned_about : Sem :=
  (sSeq (sDrop (eCall fs_checked (aCons (eVar 0) aNil)))
    (sRet (eTup (aCons (eBin opIx (eVar 0) (eC (.int 0))) (aCons (eCB fTup (aCons (eCB fSorted (aCons (eComp (itBy tupOf (eBin opIx (eVar 0) (eC (.int 1)))) (bT 3 (bsCons (bN 1) (bsCons (bN 2) (bsCons (bN 3) bsNil)))) tTrue ce_turned_about_1 [1, 2, 3]) aNil)) aNil)) aNil)))))
def fs_turned_about : List D → Rf := fsOf 4 sem_turned_about
def ce_joined_1 : Envi → R Hd :=
  (eTup (aCons (eBin opAdd (eVar 3) (eBin opIx (eVar 0) (eC (.int 0)))) (aCons (eBin opAdd (eVar 4) (eBin opIx (eVar 0) (eC (.int 0)))) (aCons (eVar 5) aNil))))
def sem_joined : Sem :=
  (sSeq (sDrop (eCall fs_checked (aCons (eVar 0) aNil)))
    (sSeq (sDrop (eCall fs_checked (aCons (eVar 1) aNil)))
    (sSeq (sIf (tsE (eBin opGt (eBin opAdd (eBin opIx (eVar 0) (eC (.int 0))) (eBin opIx (eVar 1) (eC (.int 0)))) (eC (.int 7)))) (sRaise .tooBig) sNext)
    (sSeq (sSet 2 (eComp (itBy tupOf (eBin opIx (eVar 1) (eC (.int 1)))) (bT 3 (bsCons (bN 3) (bsCons (bN 4) (bsCons (bN 5) bsNil)))) tTrue ce_joined_1 [3, 4, 5]))
    (sRet (eTup (aCons (eBin opAdd (eBin opIx (eVar 0) (eC (.int 0))) (eBin opIx (eVar 1) (eC (.int 0)))) (aCons (eBin opAdd (eBin opIx (eVar 0) (eC (.int 1))) (eCB fTup (aCons (eVar 2) aNil))) aNil))))))))
def fs_joined : List D → Rf := fsOf 6 sem_joined
def ct_L_rows_1 (rec : List D → Rf) : Envi → R Bool :=
  (tsE (eBin opNe (eVar 4) (eVar 2)))
def ce_L_rows_2 (rec : List D → Rf) : Envi → R Hd :=
  (eBin opAdd (eTupF (aCons (eVar 2) aNil)) (eVar 3))
def bd_L_rows_3 (rec : List D → Rf) : Sem :=
  (sDrop (eMut 1 okT "list" muExtend (aCons (eComp (itBy lstOf (eCall rec (aCons (eComp (itBy lstOf (eVar 0)) (bN 4) (ct_L_rows_1 rec) (eVar 4) [4]) aNil))) (bN 3) tTrue (ce_L_rows_2 rec) [3]) aNil)))
def sem_L_rows (rec : List D → Rf) : Sem :=
  (sSeq (sIf (tsE (eBin opEq (eVar 0) (eLst aNil))) (sRet (eLst (aCons (eTupF aNil) aNil))) sNext)
    (sSeq (sSet 1 (eLst aNil))
    (sSeq (sFor (itBy lstOf (eVar 0)) (bN 2) (bd_L_rows_3 rec))
    (sRet (eVar 1)))))
def fs_L_rows : Nat → List D → Rf
  | 0 => fun _ => .stuck
  | n + 1 => fsOf 5 (sem_L_rows (fs_L_rows n))
end Fw

set_option Elab.async false
set_option linter.all false
set_option maxRecDepth 100000
set_option maxHeartbeats 2000000
namespace Pv
open PySem PySem.Spec PyProof.Rows L2
section
variable {prog : Program} {w : World} {A : Around} {E : Value → Shared → Prop} {s : Shared}
end
def rRevT (K : PySem.W.Frag) : V → Hp → VK → Prop := fun x H Q => ∃ a xs, x = .ref a ∧ SqT K H a xs ∧ ∀ p o, H p = none → o.dict = none → Q (.ref p) (upd H p (.frz o (.tup xs.reverse)))
def rRevL (K : PySem.W.Frag) : V → Hp → VK → Prop := fun x H Q => ∃ a xs, x = .ref a ∧ SqL K H a xs ∧ ∀ p, H p = none → Q (.ref p) (upd H p (.lst xs.reverse))
section
variable {X : Cx}
end
def opRevT (d : D) : Option D := match tupOf d with
  | some ds => some (.ktup ds.reverse)
  | none => none
def opRevL (d : D) : Option D := match lstOf d with
  | some ds => some (.lst ds.reverse)
  | none => none
section
variable {K : PySem.W.Frag}
end
end Pv

set_option Elab.async false
set_option linter.all false
set_option maxRecDepth 100000
set_option maxHeartbeats 2000000
namespace Pv
open PySem PySem.Spec PyProof.Rows L2
def arOf : D → Option Ar
  | .tup [.int a, .int b, .int c] => some ⟨a, b, c⟩
  | _ => none
def arsOf : List D → Option (List Ar)
  | [] => some []
  | d :: ds => match arOf d, arsOf ds with
    | some a, some as => some (a :: as)
    | _, _ => none
theorem arsOf_map : ∀ as : List Ar, arsOf (as.map arD) = some as
  | [] => rfl
  | a :: as => by
    rw [List.map_cons]
    unfold arsOf
    rw [arsOf_map as]; rfl
theorem arOf_eq {d : D} {a : Ar} (h : arOf d = some a) : d = arD a := by
  unfold arOf at h
  split at h
  · cases h; rfl
  · cases h
theorem arsOf_eq : ∀ {ds : List D} {as : List Ar}, arsOf ds = some as → ds = as.map arD
  | [], _, h => by cases h; rfl
  | d :: ds, as, h => by
    unfold arsOf at h
    cases e1 : arOf d with
    | none => rw [e1] at h; cases h
    | some a =>
      cases e2 : arsOf ds with
      | none => rw [e1, e2] at h; cases h
      | some as' =>
        rw [e1, e2] at h
        cases h
        rw [List.map_cons, arOf_eq e1, arsOf_eq e2]
def nextR (i : Nat) (as : List Ar) : List Int := (as.filter fun z => decide (z.a = (i : Int))).map (·.b)
def nextL (n : Nat) (as : List Ar) : List (List Int) := (List.range n).map fun i => nextR i as
def lstI (l : List Int) : D := .lst (l.map .int)
def fs_next_of (ds : List D) : Rf := match ds with
  | [.tup [.int n, .ktup ars]] => match arsOf ars with
    | some as => if 0 ≤ n ∧ n.toNat ≤ 1000 ∧ as.length ≤ 1000 ∧ (∀ z ∈ as, 0 ≤ z.a ∧ z.a < n) then .fz (.lst ((nextL n.toNat as).map lstI)) else .stuck
    | none => .stuck
  | _ => .stuck
def tNext (K : PySem.W.Frag) : TS :=
  tSeq (tAsg (tLc (iRng1 (tCons (tOp (rIx K) (tVar 0) (tC (.int 0))) tNil)) (gName 2) tYes (tLst tNil) [2]) (gName 1))
    (tSeq (tFor (iTup K (tOp (rIx K) (tVar 0) (tC (.int 1)))) (gTup K 3 (gCons (gName 3) (gCons (gName 4) (gCons (gName 5) gNil)))) (tDrop (tBM K "list" rAppend (tOp (rIx K) (tVar 1) (tVar 3)) (tCons (tVar 4) tNil))))
      (tRet (tVar 1)))
theorem line_of {n : Nat} (h : n ≤ 1000) : n ≤ sizeLine := Nat.le_of_lt (small1000 h)
theorem rep_arD {K : PySem.W.Frag} {F : Hp} {v : V} {z : Ar} (h : Rep K F v (arD z)) : ∃ a, v = .ref a ∧ F a = some (.tup [.int z.a, .int z.b, .int z.c]) := by
  unfold arD at h
  cases h with
  | @tup a vs ds h1 h2 h3 =>
    refine ⟨a, rfl, ?_⟩
    cases h3 with
    | cons r1 r =>
      cases r with
      | cons r2 r =>
        cases r with
        | cons r3 r =>
          cases r
          cases r1
          cases r2
          cases r3
          exact h1
theorem next_reads {K : PySem.W.Frag} {ec : Exc → Value} {vs : List V} {H : Hp} {Q : VK} {E : XK} {N : List Str} (hN : N.length = 6) (h : spF K ec 1 fs_next_of vs H Q E) : tNext K { nx := fun _ H' => Q .non H', rt := Q } (L2.start N vs) H := by
  obtain ⟨hl, F, ds, s, rp, q⟩ := h
  obtain ⟨v, rfl⟩ : ∃ v, vs = [v] := by
    cases vs with
    | nil => cases hl
    | cons v vs =>
      cases vs with
      | nil => exact ⟨v, rfl⟩
      | cons _ _ => cases hl
  cases rp with
  | @cons _ _ d _ rv rn =>
  cases rn
  unfold fs_next_of at q
  split at q
  · rename_i n ars he
    cases he
    cases ea : arsOf ars with
    | none => rw [ea] at q; exact q.elim
    | some as =>
    rw [ea] at q
    dsimp only at q
    split at q
    case isFalse => exact q.elim
    case isTrue hc =>
    obtain ⟨c1, c2, c3, c4⟩ := hc
    have ears := arsOf_eq ea
    subst ears
    cases rv with
    | @tup a vs2 _ ha ha2 ha3 =>
    cases ha3 with
    | @cons vn _ _ _ rn ra =>
    cases rn
    cases ra with
    | @cons va _ _ _ ra rnil =>
    cases rnil
    obtain ⟨b, us, rfl, hb1, hb2⟩ : ∃ b us, va = .ref b ∧ KTup K F b us ∧ Reps K F us (as.map arD) := by
      cases ra with
      | ktup k1 k2 k3 => exact ⟨_, _, rfl, k1, k3⟩
    obtain ⟨m, rfl⟩ : ∃ m : Nat, n = m := ⟨n.toNat, by omega⟩
    rw [Int.toNat_natCast] at c2 q
    have hst : L2.start N [.ref a] = [some (.ref a), none, none, none, none, none] := by
      show List.map some [V.ref a] ++ List.replicate (N.length - 1) none = _
      rw [hN]; rfl
    rw [hst]
    have hla : us.length = as.length := by rw [hb2.length, List.length_map]
    have sqa : ∀ {H' : Hp}, Same H H' → SqT K H' a [.int m, .ref b] := fun s' => .inl (.inl (s' _ _ (s _ _ ha)))
    -- made = [[] for number in range(web[0])]
    refine ⟨.ref a, rfl, .inr (.inl ⟨a, _, 0, .int m, rfl, rfl, sqa (Same.refl _), atI_nat (j := 0) rfl, ?_⟩)⟩
    refine ⟨m, rfl, by omega, by omega, fun D hD => ?_⟩
    refine lc_range (Pv := fun i H1 => ∃ ps : List Addr, ps.length = i ∧ ps.Nodup ∧ (∀ p ∈ ps, H p = none ∧ p ≠ D ∧ H1 p = some (.lst [])) ∧ H1 D = some (.lst (ps.map V.ref)) ∧ Same H H1) ⟨[], rfl, List.nodup_nil, (fun p hp => nomatch hp), upd_same, same_new hD⟩ ?_ ?_
    · rintro i H1 hi ⟨ps, p1, p2, p3, p4, p5⟩
      refine ⟨rfl, ?_⟩
      unfold tYes
      dsimp only
      rw [if_pos rfl]
      refine ⟨Nat.zero_le _, fun p hp => ?_⟩
      have hpD : p ≠ D := fun z => by rw [z, p4] at hp; cases hp
      refine ⟨ps.map V.ref, by rw [upd_ne (fun z => hpD z.symm)]; exact p4, by rw [List.length_map, p1]; exact small1000 (by omega), ps ++ [p], by rw [List.length_append, p1]; rfl, ?_, fun r hr => ?_, ?_, ?_⟩
      · refine List.nodup_append.mpr ⟨p2, List.nodup_cons.mpr ⟨List.not_mem_nil, List.nodup_nil⟩, fun x hx y hy e => ?_⟩
        rw [List.mem_singleton] at hy
        subst e; subst hy
        have := (p3 x hx).2.2
        rw [hp] at this; cases this
      · rcases List.mem_append.mp hr with hr | hr
        · obtain ⟨g1, g2, g3⟩ := p3 r hr
          refine ⟨g1, g2, ?_⟩
          rw [upd_ne g2, upd_ne (fun z => by rw [z, hp] at g3; cases g3)]
          exact g3
        · rw [List.mem_singleton] at hr
          subst hr
          exact ⟨p5.free hp, hpD, by rw [upd_ne hpD, upd_same]⟩
      · rw [upd_same, List.map_append]; rfl
      · intro x o e
        have hx := p5 x o e
        have h1 : x ≠ D := ne_of_none e hD
        rw [upd_ne h1, upd_ne (ne_of_none hx hp)]
        exact hx
    rintro H1 ⟨ps, p1, p2, p3, p4, p5⟩
    rw [Int.toNat_natCast] at p1
    -- for ahead, behind, heavy in web[1]
    show tFor (iTup K (tOp (rIx K) (tVar 0) (tC (.int 1)))) (gTup K 3 (gCons (gName 3) (gCons (gName 4) (gCons (gName 5) gNil)))) (tDrop (tBM K "list" rAppend (tOp (rIx K) (tVar 1) (tVar 3)) (tCons (tVar 4) tNil))) { nx := tRet (tVar 1) { nx := fun _ H' => Q .non H', rt := Q }, rt := Q } ([some (.ref a), some (.ref D), none, none, none, none] : L2.St) H1
    refine ⟨.ref a, rfl, .inr (.inl ⟨a, _, 1, .ref b, rfl, rfl, sqa p5, atI_nat (j := 1) rfl, ?_⟩)⟩
    have sqb : ∀ {H' : Hp}, Same H H' → SqT K H' b us := fun s' => same_sqt s' (same_sqt s hb1.sqt)
    refine ⟨b, rfl, ⟨us, sqb p5⟩, ?_⟩
    refine for_tup (xs := us) (Pv := fun i σ H2 => (∃ x2 x3 x4 x5, σ = [some (.ref a), some (.ref D), x2, x3, x4, x5]) ∧ (∀ (j : Nat) (p : Addr), ps[j]? = some p → H2 p = some (.lst ((nextR j (as.take i)).map V.int))) ∧ H2 D = some (.lst (ps.map V.ref)) ∧ Same H H2) ?_ ?_ ?_ ?_
    · exact ⟨⟨_, _, _, _, rfl⟩, fun j p hj => (p3 p (List.mem_of_getElem? hj)).2.2, p4, p5⟩
    · exact fun i σ H2 hi hp => sqb hp.2.2.2
    · rintro i x σ H2 hx ⟨⟨x2, x3, x4, x5, rfl⟩, r1, r2, r3⟩
      obtain ⟨d, hd1, hd2⟩ := hb2.getV hx
      rw [List.getElem?_map] at hd1
      cases ez : as[i]? with
      | none => rw [ez] at hd1; cases hd1
      | some z =>
      rw [ez] at hd1
      cases hd1
      obtain ⟨t, rfl, ht⟩ := rep_arD hd2
      have hzm := List.mem_of_getElem? ez
      obtain ⟨z1, z2⟩ := c4 z hzm
      obtain ⟨k, hk⟩ : ∃ k : Nat, z.a = k := ⟨z.a.toNat, by omega⟩
      have hkm : k < ps.length := by omega
      have hpk : ps[k]? = some ps[k] := List.getElem?_eq_getElem hkm
      refine ⟨t, _, rfl, .inl (.inl (r3 _ _ (s _ _ ht))), rfl, ?_⟩
      refine ⟨_, _, rfl, _, _, rfl, _, _, rfl, rfl, ?_⟩
      show tDrop _ _ ([some (.ref a), some (.ref D), x2, some (.int z.a), some (.int z.b), some (.int z.c)] : L2.St) H2
      have hlst : H2 ps[k] = some (.lst ((nextR k (as.take i)).map V.int)) := r1 k _ hpk
      refine ⟨.ref D, rfl, .int z.a, rfl, .inl ⟨D, ps.map V.ref, z.a, .ref ps[k], rfl, rfl, .inl (.inl r2), ?_, ?_⟩⟩
      · rw [hk]
        exact atI_nat (by rw [List.getElem?_map, hpk]; rfl)
      refine ⟨.inl ⟨rfl, _, .inl (.inl hlst)⟩, .int z.b, rfl, ?_⟩
      refine ⟨ps[k], _, .int z.b, rfl, rfl, hlst, ?_, ?_⟩
      · rw [List.length_map]
        refine small1000 ?_
        unfold nextR
        rw [List.length_map]
        refine Nat.le_trans (List.length_filter_le _ _) ?_
        rw [List.length_take]; omega
      have hne : ∀ (j : Nat) (p : Addr), ps[j]? = some p → j ≠ k → p ≠ ps[k] := fun j p hj hjk e => by
        have hj' := (List.getElem?_eq_some_iff.mp hj)
        obtain ⟨hj1, hj2⟩ := hj'
        exact hjk ((List.getElem_inj p2).mp (hj2.trans e))
      have hpm := p3 ps[k] (List.getElem_mem hkm)
      have htk : as.take (i + 1) = as.take i ++ [z] := by
        rw [List.take_add_one, ez]; rfl
      refine ⟨⟨_, _, _, _, rfl⟩, fun j p hj => ?_, ?_, fun y o e => ?_⟩
      · rw [htk]
        by_cases hjk : j = k
        · subst hjk
          rw [hpk] at hj
          cases hj
          rw [upd_same]
          unfold nextR
          rw [List.filter_append, List.map_append, List.map_append, List.filter_cons_of_pos (by simpa using hk)]; rfl
        · rw [upd_ne (hne j p hj hjk), r1 j p hj]
          unfold nextR
          rw [List.filter_append, List.map_append, List.filter_cons_of_neg (by simp; omega), List.filter_nil, List.map_nil, List.append_nil]
      · rw [upd_ne (fun e => hpm.2.1 e.symm)]; exact r2
      · rw [upd_ne (ne_of_none e hpm.1)]
        exact r3 y o e
    · rintro σ H2 ⟨⟨x2, x3, x4, x5, rfl⟩, r1, r2, r3⟩
      rw [hla, List.take_length] at r1
      refine ⟨.ref D, rfl, ?_⟩
      let F' : Hp := fun y => if y = D ∨ y ∈ ps then H2 y else F y
      have hF'D : F' D = H2 D := if_pos (.inl rfl)
      have hF'p : ∀ p ∈ ps, F' p = H2 p := fun p hp => if_pos (.inr hp)
      have hnew : ∀ y, y = D ∨ y ∈ ps → H y = none := fun y hy => by
        rcases hy with rfl | hy
        · exact hD
        · exact (p3 y hy).1
      have e1 : Same F F' := fun y o e => by
        show (if y = D ∨ y ∈ ps then H2 y else F y) = some o
        by_cases hy : y = D ∨ y ∈ ps
        · have := hnew y hy
          rw [s y o e] at this; cases this
        · rw [if_neg hy]; exact e
      have e2 : Same F' H2 := fun y o e => by
        have e : (if y = D ∨ y ∈ ps then H2 y else F y) = some o := e
        by_cases hy : y = D ∨ y ∈ ps
        · rw [if_pos hy] at e; exact e
        · rw [if_neg hy] at e; exact r3 y o (s y o e)
      refine q F' H2 (.ref D) e1 e2 r3 (fun y o e => ?_) ?_
      · have e : (if y = D ∨ y ∈ ps then H2 y else F y) = some o := e
        by_cases hy : y = D ∨ y ∈ ps
        · exact .inr (.inl (hnew y hy))
        · rw [if_neg hy] at e; exact .inl e
      · refine .lst (hF'D.trans r2) (by rw [List.length_map, p1]; exact line_of c2) ?_
        have key : ∀ (k : Nat) (qs : List Addr), (∀ (j : Nat) (p : Addr), qs[j]? = some p → p ∈ ps ∧ H2 p = some (.lst ((nextR (k + j) as).map V.int))) → Reps K F' (qs.map V.ref) (((List.range' k qs.length).map fun i => nextR i as).map lstI) := by
          intro k qs
          induction qs generalizing k with
          | nil => intro _; exact .nil
          | cons p qs ih =>
            intro hq
            obtain ⟨g1, g2⟩ := hq 0 p rfl
            have g2 : H2 p = some (.lst ((nextR k as).map V.int)) := g2
            refine .cons (.lst ((hF'p p g1).trans g2) ?_ (Reps.ints _)) (ih (k + 1) fun j p' hj => ?_)
            · rw [List.length_map]
              refine line_of ?_
              unfold nextR
              rw [List.length_map]
              exact Nat.le_trans (List.length_filter_le _ _) c3
            · have := hq (j + 1) p' hj
              rw [show k + 1 + j = k + (j + 1) from by omega]
              exact this
        have := key 0 ps fun j p hj => ⟨List.mem_of_getElem? hj, by rw [Nat.zero_add]; exact r1 j p hj⟩
        rw [p1, ← List.range_eq_range'] at this
        exact this
  · exact q.elim
end Pv

set_option Elab.async false
set_option linter.all false
set_option maxRecDepth 100000
set_option maxHeartbeats 4000000
namespace Fw
open PySem PySem.Spec PyProof.Rows L2 Pv
def bd_rings_from_1 (rec : List D → Rf) : Sem :=
  (sIf (tsE (eBin opEq (eVar 3) (eBin opIx (eVar 1) (eC (.int 0))))) (sDrop (eMut 2 okT "list" muAppend (aCons (eVar 1) aNil))) (sIf (tsAnd (tsE (eBin opGt (eVar 3) (eBin opIx (eVar 1) (eC (.int 0))))) (tsE (eBin opNotIn (eVar 3) (eVar 1)))) (sDrop (eMut 2 okT "list" muExtend (aCons (eCall rec (aCons (eVar 0) (aCons (eBin opAdd (eVar 1) (eLst (aCons (eVar 3) aNil))) aNil))) aNil))) sNext))
def sem_rings_from (rec : List D → Rf) : Sem :=
  (sSeq (sSet 2 (eLst aNil))
    (sSeq (sFor (itBy lstOf (eBin opIx (eVar 0) (eBin opIx (eVar 1) (eUn opNeg (eC (.int 1)))))) (bN 3) (bd_rings_from_1 rec))
    (sRet (eVar 2))))
def fs_rings_from : Nat → List D → Rf
  | 0 => fun _ => .stuck
  | n + 1 => fsOf 4 (sem_rings_from (fs_rings_from n))
def bd_rings_of_1 : Sem :=
  (sDrop (eMut 2 okT "list" muExtend (aCons (eCall (fs_rings_from 9) (aCons (eVar 1) (aCons (eLst (aCons (eVar 3) aNil)) aNil))) aNil)))
def sem_rings_of : Sem :=
  (sSeq (sSet 1 (eCall fs_next_of (aCons (eVar 0) aNil)))
    (sSeq (sSet 2 (eLst aNil))
    (sSeq (sFor (itRng1 (aCons (eBin opIx (eVar 0) (eC (.int 0))) aNil)) (bN 3) bd_rings_of_1)
    (sRet (eCB fSorted (aCons (eVar 2) aNil))))))
def fs_rings_of : List D → Rf := fsOf 4 sem_rings_of
def sem_rings : Sem :=
  (sRet (eCall fs_rings_of (aCons (eCall fs_checked (aCons (eVar 0) aNil)) aNil)))
def fs_rings : List D → Rf := fsOf 1 sem_rings
def ce_ring_1 : Envi → R Hd :=
  (eTup (aCons (eCB fLen (aCons (eVar 2) aNil)) (aCons (eVar 2) aNil)))
def sem_ring : Sem :=
  (sSeq (sDrop (eCall fs_checked (aCons (eVar 0) aNil)))
    (sSeq (sSet 1 (eComp (itBy lstOf (eCall fs_rings_of (aCons (eVar 0) aNil))) (bN 2) tTrue ce_ring_1 [2]))
    (sSeq (sIf (tsE (eBin opEq (eVar 1) (eLst aNil))) (sRet (eC .non)) sNext)
    (sRet (eBin opIx (eCB fMinD (aCons (eVar 1) aNil)) (eC (.int 1)))))))
def fs_ring : List D → Rf := fsOf 3 sem_ring
def sem_is_free : Sem :=
  (sRet (eBin opIs (eCall fs_ring (aCons (eVar 0) aNil)) (eC .non)))
def fs_is_free : List D → Rf := fsOf 1 sem_is_free
def ce_L_rings_1 : Envi → R Hd :=
  (eSl (opSl false) (eVar 2) pNo (pSome (eC (.int 2))))
def ce_L_rings_2 : Envi → R Hd :=
  (eLst (aCons (eVar 5) aNil))
def bd_L_rings_3 : Sem :=
  (sIf (tsAnd (tsE (eBin opIn (eTup (aCons (eBin opIx (eVar 6) (eUn opNeg (eC (.int 1)))) (aCons (eVar 7) aNil))) (eVar 1))) (tsE (eBin opNotIn (eVar 7) (eVar 6)))) (sDrop (eMut 4 okT "list" muAppend (aCons (eBin opAdd (eVar 6) (eLst (aCons (eVar 7) aNil))) aNil))) sNext)
def wt_L_rings_4 : Envi → R Bool :=
  (tsE (eBin opNe (eVar 4) (eLst aNil)))
def bd_L_rings_5 : Sem :=
  (sSeq (sSet 6 (eMut0 4 okT "list" muPop))
    (sSeq (sIf (tsE (eBin opIn (eTup (aCons (eBin opIx (eVar 6) (eUn opNeg (eC (.int 1)))) (aCons (eBin opIx (eVar 6) (eC (.int 0))) aNil))) (eVar 1))) (sDrop (eMut 3 okT "list" muAppend (aCons (eVar 6) aNil))) sNext)
    (sFor (itRng2 (aCons (eBin opAdd (eBin opIx (eVar 6) (eC (.int 0))) (eC (.int 1))) (aCons (eBin opIx (eVar 0) (eC (.int 0))) aNil))) (bN 7) bd_L_rings_3)))
def sem_L_rings : Sem :=
  (sSeq (sSet 1 (eComp (itBy tupOf (eBin opIx (eVar 0) (eC (.int 1)))) (bN 2) tTrue ce_L_rings_1 [2]))
    (sSeq (sSet 3 (eLst aNil))
    (sSeq (sSet 4 (eComp (itRng1 (aCons (eBin opIx (eVar 0) (eC (.int 0))) aNil)) (bN 5) tTrue ce_L_rings_2 [5]))
    (sSeq (sWhileN 1000000 wt_L_rings_4 bd_L_rings_5)
    (sRet (eCB fSorted (aCons (eVar 3) aNil)))))))
def fs_L_rings : List D → Rf := fsOf 8 sem_L_rings
def bd_led_to_1 : Sem :=
  (sIf (tsE (eBin opNotIn (eVar 4) (eVar 2))) (sSeq (sDPutP 2 okT (eVar 4) (eC (.bl true)))
    (sDrop (eMut 3 okT "list" muAppend (aCons (eVar 4) aNil)))) sNext)
def wt_led_to_2 : Envi → R Bool :=
  (tsE (eBin opNe (eVar 3) (eLst aNil)))
def bd_led_to_3 : Sem :=
  (sFor (itBy lstOf (eBin opIx (eVar 0) (eMut0 3 okT "list" muPop))) (bN 4) bd_led_to_1)
def sem_led_to : Sem :=
  (sSeq (sSet 2 (eDisp1 (eVar 1) (eC (.bl true))))
    (sSeq (sSet 3 (eLst (aCons (eVar 1) aNil)))
    (sSeq (sWhileN 1000000 wt_led_to_2 bd_led_to_3)
    (sRet (eVar 2)))))
def fs_led_to : List D → Rf := fsOf 5 sem_led_to
def ce_parts_of_1 : Envi → R Hd :=
  (eCall fs_led_to (aCons (eVar 1) (aCons (eVar 3) aNil)))
def ct_parts_of_2 : Envi → R Bool :=
  (tsAnd (tsE (eBin opIn (eVar 6) (eBin opIx (eVar 2) (eVar 3)))) (tsE (eBin opIn (eVar 3) (eBin opIx (eVar 2) (eVar 6)))))
def bd_parts_of_3 : Sem :=
  (sSeq (sSet 5 (eComp (itRng1 (aCons (eBin opIx (eVar 0) (eC (.int 0))) aNil)) (bN 6) ct_parts_of_2 (eVar 6) [6]))
    (sIf (tsE (eBin opEq (eBin opIx (eVar 5) (eC (.int 0))) (eVar 3))) (sDrop (eMut 4 okT "list" muAppend (aCons (eVar 5) aNil))) sNext))
def sem_parts_of : Sem :=
  (sSeq (sSet 1 (eCall fs_next_of (aCons (eVar 0) aNil)))
    (sSeq (sSet 2 (eComp (itRng1 (aCons (eBin opIx (eVar 0) (eC (.int 0))) aNil)) (bN 3) tTrue ce_parts_of_1 [3]))
    (sSeq (sSet 4 (eLst aNil))
    (sSeq (sFor (itRng1 (aCons (eBin opIx (eVar 0) (eC (.int 0))) aNil)) (bN 3) bd_parts_of_3)
    (sRet (eVar 4))))))
def fs_parts_of : List D → Rf := fsOf 7 sem_parts_of
def sem_parts : Sem :=
  (sRet (eCall fs_parts_of (aCons (eCall fs_checked (aCons (eVar 0) aNil)) aNil)))
def fs_parts : List D → Rf := fsOf 1 sem_parts
def bd_part_web_1 : Sem :=
  (sIf (tsAnd (tsE (eBin opIn (eVar 5) (eVar 3))) (tsE (eBin opIn (eVar 6) (eVar 3)))) (sDrop (eMut 4 okT "list" muAppend (aCons (eTup (aCons (eMeth (tyD "list") opIndexL (eVar 3) (aCons (eVar 5) aNil)) (aCons (eMeth (tyD "list") opIndexL (eVar 3) (aCons (eVar 6) aNil)) (aCons (eVar 7) aNil)))) aNil))) sNext)
def sem_part_web : Sem :=
  (sSeq (sDrop (eCall fs_checked (aCons (eVar 0) aNil)))
    (sSeq (sSet 2 (eCall fs_parts_of (aCons (eVar 0) aNil)))
    (sSeq (sIf (tsNot (tsE (eCall fs_between (aCons (eVar 1) (aCons (eC (.int 0)) (aCons (eBin opSub (eCB fLen (aCons (eVar 2) aNil)) (eC (.int 1))) aNil)))))) (sRaise .noNumber) sNext)
    (sSeq (sSet 3 (eBin opIx (eVar 2) (eVar 1)))
    (sSeq (sSet 4 (eLst aNil))
    (sSeq (sFor (itBy tupOf (eBin opIx (eVar 0) (eC (.int 1)))) (bT 3 (bsCons (bN 5) (bsCons (bN 6) (bsCons (bN 7) bsNil)))) bd_part_web_1)
    (sRet (eTup (aCons (eCB fLen (aCons (eVar 3) aNil)) (aCons (eCB fTup (aCons (eVar 4) aNil)) aNil))))))))))
def fs_part_web : List D → Rf := fsOf 8 sem_part_web
end Fw

set_option Elab.async false
set_option linter.all false
set_option maxRecDepth 100000
namespace Fw
open PySem PySem.Spec PyProof.Rows L2 Pv
open PySem.W (Datum DatumOrd Tup T3 T4)
def rowsL : Nat → List Int → List (List Int)
  | 0, _ => [[]]
  | k + 1, l => l.flatMap fun x => (rowsL k (l.filter fun y => decide (y ≠ x))).map (x :: ·)
def rowsN (n : Nat) : List (List Int) := rowsL n (intsN n)
def summ (l : List Int) : Option (Int × Nat) := match l.min? with
  | none => none
  | some m => some (m, l.count m)
def joinS (R : List (Int × Nat)) : Option (Int × Nat) := match (R.map (·.1)).min? with
  | none => none
  | some m => some (m, ((R.filter fun p => decide (p.1 = m)).map (·.2)).sum)
end Fw

set_option Elab.async false
set_option linter.all false
set_option maxRecDepth 100000
namespace Fw
open PySem PySem.Spec PyProof.Rows L2 Pv
open PySem.W (Datum DatumOrd Tup T3 T4)
def wOf (as : List Ar) (x y : Int) : Int := ((as.filter fun z => decide (z.a = x ∧ z.b = y)).map (·.c)).sum
def backW (w : Int → Int → Int) (p : List Int) (x : Int) : Int := (p.map (w x)).sum
def costs (w : Int → Int → Int) : List Int → List Int → Int
  | _, [] => 0
  | p, x :: q => backW w p x + costs w (p ++ [x]) q
def stB (S : Nat) (x : Int) : Bool := S.testBit x.toNat
def addB (S : Nat) (x : Int) : Nat := S + 2 ^ x.toNat
def standN (n S : Nat) : List Int := (intsN n).filter fun x => stB S x
def restN (n S : Nat) : List Int := (intsN n).filter fun x => !stB S x
def mayB (K : List (Int × Int)) (S : Nat) (x : Int) : Bool := K.all fun p => !decide (p.2 = x) || stB S p.1
def allowB (K : List (Int × Int)) : Nat → List Int → Bool
  | _, [] => true
  | S, x :: q => mayB K S x && allowB K (addB S x) q
def costM (n : Nat) (w : Int → Int → Int) : Nat → List Int → Int
  | _, [] => 0
  | S, x :: q => backW w (standN n S) x + costM n w (addB S x) q
def costsL (n : Nat) (w : Int → Int → Int) (K : List (Int × Int)) : Nat → Nat → List Int
  | 0, _ => [0]
  | k + 1, S => (restN n S).flatMap fun x => if mayB K S x = true then (costsL n w K k (addB S x)).map (backW w (standN n S) x + ·) else []
def bestM (n : Nat) (w : Int → Int → Int) (K : List (Int × Int)) (k S : Nat) : Option (Int × Nat) := summ (costsL n w K k S)
def foundR (n : Nat) (w : Int → Int → Int) (K : List (Int × Int)) (k S : Nat) (l : List Int) : List (Int × Nat) :=
  l.filterMap fun x => if (!stB S x && mayB K S x) = true then (bestM n w K k (addB S x)).map fun p => (p.1 + backW w (standN n S) x, p.2) else none
def isBest (n : Nat) (w : Int → Int → Int) (k S : Nat) (x : Int) : Bool := decide ((bestM n w [] k (addB S x)).map (fun p => p.1 + backW w (standN n S) x) = (bestM n w [] (k + 1) S).map (·.1))
def firstM (n : Nat) (w : Int → Int → Int) : Nat → Nat → List Int
  | 0, _ => []
  | k + 1, S => match (restN n S).find? (isBest n w k S) with
    | some x => x :: firstM n w k (addB S x)
    | none => []
end Fw

set_option Elab.async false
set_option linter.all false
set_option maxRecDepth 100000
set_option maxHeartbeats 2000000
namespace Fw
open PySem PySem.Spec PyProof.Rows L2 Pv
open PySem.W (Datum DatumOrd Tup T3 T4)
def cell (s : List Int) (k : Nat) : Int := if h : k < s.length then s[k] else if s = [] then 0 else s.getD (k % s.length) 0 * 31 + k
theorem fs_L_cell_at_eq (s : List Int) (k : Nat) : fs_L_cell_at [.klst (s.map .int), .int k] = .fz (.int (cell s k)) := by
  have h1 : opEq (.klst (s.map .int)) (.lst []) = some (.bl (decide (s = []))) := opEq_is (is_klst (iss_ints s)) (is_lst (iss_nil (α := Int))) (by decide)
  by_cases h : k < s.length
  · have e : atI (s.map D.int) (k : Int) = some (.int s[k]) := by
      rw [atI_nat (j := k) (by rw [List.getElem?_map, List.getElem?_eq_getElem h]; rfl)]
    simp [fs_L_cell_at, fsOf, sem_L_cell_at, initE, h, e, cell]
  · have h2 : ¬ ((k : Int) < (s.length : Int)) := by omega
    by_cases hs : s = []
    · subst hs
      have h3 : ¬ ((k : Int) < 0) := by omega
      have h1 : opEq (.klst []) (.lst []) = some (.bl true) := h1
      simp [fs_L_cell_at, fsOf, sem_L_cell_at, initE, h3, h1, cell]
    · have hl : 0 < s.length := List.length_pos_iff.mpr hs
      have hm : k % s.length < s.length := Nat.mod_lt _ hl
      have e : atI (s.map D.int) ((k : Int) % (s.length : Int)) = some (.int (s[k % s.length]?.getD 0)) := by
        rw [show (k : Int) % (s.length : Int) = ((k % s.length : Nat) : Int) from (Int.natCast_emod _ _).symm]
        rw [atI_nat (j := k % s.length) (by rw [List.getElem?_map, List.getElem?_eq_getElem hm]; rfl)]
        rw [List.getElem?_eq_getElem hm]; rfl
      have hc : L2.CMul (s[k % s.length]?.getD 0) 31 := .inr (by decide)
      simp [fs_L_cell_at, fsOf, sem_L_cell_at, initE, h, h2, h1, hs, e, hl, hc, cell]
def drawn (s : List Int) (k : Nat) : Int := (cell s k + 7919 * k + 1) * 48271 % 2147483647
def mixed (s : List Int) (k m : Nat) : Nat := ((drawn s k * drawn s k + 7 * drawn s k + k) % 2147483629 % m).toNat
theorem mixed_lt {s : List Int} {k m : Nat} (h : 0 < m) : mixed s k m < m := by
  unfold mixed
  have h1 := Int.emod_lt_of_pos ((drawn s k * drawn s k + 7 * drawn s k + k) % 2147483629) (show (0 : Int) < m by omega)
  have h2 := Int.emod_nonneg ((drawn s k * drawn s k + 7 * drawn s k + k) % 2147483629) (show (m : Int) ≠ 0 by omega)
  omega
theorem fs_L_mixed_eq (s : List Int) (k m : Nat) (hm : 0 < m) : fs_L_mixed [.klst (s.map .int), .int k, .int m] = .fz (.int (mixed s k m : Nat)) := by
  have hd : 0 ≤ drawn s k ∧ drawn s k < 2147483647 := ⟨Int.emod_nonneg _ (by decide), Int.emod_lt_of_pos _ (by decide)⟩
  have c1 : L2.CMul 7919 k := .inl (by decide)
  have c2 : L2.CMul (cell s k + 7919 * k + 1) 48271 := .inr (by decide)
  have c3 : L2.CMul (drawn s k) (drawn s k) := .inl ⟨by omega, by omega⟩
  have c4 : L2.CMul 7 (drawn s k) := .inl (by decide)
  have e1 : (cell s k + 7919 * k + 1) * 48271 % 2147483647 = drawn s k := rfl
  have e2 : (drawn s k * drawn s k + 7 * drawn s k + k) % 2147483629 % m = (mixed s k m : Nat) := by
    unfold mixed
    rw [Int.toNat_of_nonneg (Int.emod_nonneg _ (by omega))]
  have hm' : (0 : Int) < m := by omega
  simp [fs_L_mixed, fsOf, sem_L_mixed, initE, fs_L_cell_at_eq, c1, c2, e1, c3, c4, hm, e2]
def wcell (s : List Int) (at_ top i j : Nat) : Nat := mixed s (at_ + 3 + 5 * i + j) (10 * top)
def wrow (s : List Int) (at_ thick top n i : Nat) (js : List Nat) : List Ar :=
  js.filterMap fun j => if i ≠ j ∧ wcell s at_ top i j % 10 < thick then some ⟨(i : Int), (j : Int), 1 + (wcell s at_ top i j : Int) / 10⟩ else none
def wars (s : List Int) (at_ thick top n : Nat) (is : List Nat) : List Ar := is.flatMap fun i => wrow s at_ thick top n i (List.range n)
theorem wrow_len (s : List Int) (at_ thick top n i : Nat) (js : List Nat) : (wrow s at_ thick top n i js).length ≤ js.length := List.length_filterMap_le _ _
theorem wars_len (s : List Int) (at_ thick top n : Nat) : ∀ is : List Nat, (wars s at_ thick top n is).length ≤ is.length * n
  | [] => by simp [wars]
  | i :: is => by
    have h1 := wrow_len s at_ thick top n i (List.range n)
    have h2 := wars_len s at_ thick top n is
    rw [List.length_range] at h1
    show (wrow s at_ thick top n i (List.range n) ++ wars s at_ thick top n is).length ≤ (is.length + 1) * n
    rw [List.length_append, Nat.succ_mul]; omega
theorem bd_L_web_1_eq (s : List Int) (at_ most n thick top i j : Nat) (l : List Ar) (x9 : Slot) (ht : 0 < top) (hl : Small l.length) : ∃ x9', bd_L_web_1 [.fz (.klst (s.map .int)), .fz (.int at_), .fz (.int most), .fz (.int n), .fz (.int thick), .fz (.int top), .ow (.li (l.map arD)), .fz (.int i), .fz (.int j), x9] =
    .nx [.fz (.klst (s.map .int)), .fz (.int at_), .fz (.int most), .fz (.int n), .fz (.int thick), .fz (.int top), .ow (.li ((l ++ wrow s at_ thick top n i [j]).map arD)), .fz (.int i), .fz (.int j), x9'] := by
  have c1 : L2.CMul 5 (i : Int) := .inl (by decide)
  have c2 : L2.CMul 10 (top : Int) := .inl (by decide)
  have e1 : fs_L_mixed [.klst (s.map .int), .int ((at_ : Int) + 3 + 5 * i + j), .int (10 * top)] = .fz (.int (wcell s at_ top i j : Nat)) := by
    have := fs_L_mixed_eq s (at_ + 3 + 5 * i + j) (10 * top) (by omega)
    rw [← show ((at_ + 3 + 5 * i + j : Nat) : Int) = (at_ : Int) + 3 + 5 * i + j by omega, ← show ((10 * top : Nat) : Int) = 10 * (top : Int) by omega]
    exact this
  have c3 : L2.CDivW (wcell s at_ top i j : Nat) 10 := ⟨by decide, by decide⟩
  refine ⟨.fz (.int (wcell s at_ top i j : Nat)), ?_⟩
  by_cases h : i = j
  · subst h
    simp [bd_L_web_1, c1, c2, e1, wrow]
  · have hij : ¬ ((i : Int) = (j : Int)) := by omega
    by_cases h2 : wcell s at_ top i j % 10 < thick
    · have h3 : ((wcell s at_ top i j : Nat) : Int) % 10 < (thick : Int) := by omega
      simp [bd_L_web_1, c1, c2, e1, wrow, h, hij, h2, h3, c3, hl, arD]
    · have h3 : ¬ (((wcell s at_ top i j : Nat) : Int) % 10 < (thick : Int)) := by omega
      simp [bd_L_web_1, c1, c2, e1, wrow, h, hij, h2, h3]


def wenv (s : List Int) (at_ most n thick top : Nat) (l : List Ar) (xs : List Slot) : Envi := [.fz (.klst (s.map .int)), .fz (.int at_), .fz (.int most), .fz (.int n), .fz (.int thick), .fz (.int top), .ow (.li (l.map arD))] ++ xs
theorem web_inner (s : List Int) (at_ most n thick top i : Nat) (ht : 0 < top) (l : List Ar) (x8 x9 : Slot) (hl : l.length + n ≤ 1000) :
    ∃ y8 y9, runFor (bN 8) bd_L_web_1 (nats n) (wenv s at_ most n thick top l [.fz (.int i), x8, x9]) = .nx (wenv s at_ most n thick top (l ++ wrow s at_ thick top n i (List.range n)) [.fz (.int i), y8, y9]) := by
  obtain ⟨ρ', h1, l', z8, z9, h2, h3, _⟩ := runFor_rel (b := bN 8) (g := bd_L_web_1) (enc := fun j : Nat => D.int (j : Int))
      (fun r ρ => ∃ l' z8 z9, ρ = wenv s at_ most n thick top l' [.fz (.int i), z8, z9] ∧ l' ++ wrow s at_ thick top n i r = l ++ wrow s at_ thick top n i (List.range n) ∧ l'.length + r.length ≤ 1000) (by
        rintro j r ρ ⟨l', z8, z9, rfl, h2, h3⟩
        rw [List.length_cons] at h3
        obtain ⟨y9, h4⟩ := bd_L_web_1_eq s at_ most n thick top i j l' z9 ht (small_of (by omega))
        refine ⟨_, _, rfl, .inl h4, l' ++ wrow s at_ thick top n i [j], .fz (.int j), y9, rfl, ?_, ?_⟩
        · rw [← h2, List.append_assoc]
          congr 1
          unfold wrow
          rw [← List.filterMap_append, List.singleton_append]
        · have := wrow_len s at_ thick top n i [j]
          rw [List.length_append]
          simp at this
          omega) (List.range n) _ ⟨l, x8, x9, rfl, rfl, by rw [List.length_range]; exact hl⟩
  refine ⟨z8, z9, ?_⟩
  unfold nats
  rw [h1, h2]
  have : wrow s at_ thick top n i [] = [] := rfl
  rw [this, List.append_nil] at h3
  rw [h3]
theorem bd_L_web_2_eq (s : List Int) (at_ most n thick top i : Nat) (ht : 0 < top) (l : List Ar) (x8 x9 : Slot) (hl : l.length + n ≤ 1000) :
    ∃ y8 y9, bd_L_web_2 (wenv s at_ most n thick top l [.fz (.int i), x8, x9]) = .nx (wenv s at_ most n thick top (l ++ wrow s at_ thick top n i (List.range n)) [.fz (.int i), y8, y9]) := by
  obtain ⟨y8, y9, h⟩ := web_inner s at_ most n thick top i ht l x8 x9 hl
  refine ⟨y8, y9, ?_⟩
  have c1 : SmallI n := smallI_nat (small_of (by omega))
  unfold wenv at h ⊢
  simp only [List.cons_append, List.nil_append] at h ⊢
  simp [bd_L_web_2, c1, h]
theorem web_outer (s : List Int) (at_ most n thick top : Nat) (ht : 0 < top) (hn : n * n + n ≤ 1000) (x7 x8 x9 : Slot) :
    ∃ xs, runFor (bN 7) bd_L_web_2 (nats n) (wenv s at_ most n thick top [] [x7, x8, x9]) = .nx (wenv s at_ most n thick top (wars s at_ thick top n (List.range n)) xs) := by
  have hlen := wars_len s at_ thick top n (List.range n)
  rw [List.length_range] at hlen
  obtain ⟨ρ', h1, l', z7, z8, z9, h2, h3⟩ := runFor_rel (b := bN 7) (g := bd_L_web_2) (enc := fun j : Nat => D.int (j : Int))
      (fun r ρ => ∃ l' z7 z8 z9, ρ = wenv s at_ most n thick top l' [z7, z8, z9] ∧ l' ++ wars s at_ thick top n r = wars s at_ thick top n (List.range n)) (by
        rintro i r ρ ⟨l', z7, z8, z9, rfl, h2⟩
        have hl' : l'.length + n ≤ 1000 := by
          have := congrArg List.length h2
          rw [List.length_append] at this
          omega
        obtain ⟨y8, y9, h4⟩ := bd_L_web_2_eq s at_ most n thick top i ht l' z8 z9 hl'
        refine ⟨_, _, rfl, .inl h4, l' ++ wrow s at_ thick top n i (List.range n), .fz (.int i), y8, y9, rfl, ?_⟩
        rw [← h2, List.append_assoc]
        rfl) (List.range n) _ ⟨[], _, _, _, rfl, rfl⟩
  refine ⟨[z7, z8, z9], ?_⟩
  have h3 : l' = wars s at_ thick top n (List.range n) := by rw [← h3]; exact (List.append_nil _).symm
  unfold nats
  rw [h1, h2, h3]
theorem wars_ok (s : List Int) (at_ thick top n : Nat) (ht : 0 < top) (h99 : top ≤ 99) (h1 : 1 ≤ n) (h7 : n ≤ 7) : WebOk n (wars s at_ thick top n (List.range n)) := by
  have hlen := wars_len s at_ thick top n (List.range n)
  rw [List.length_range] at hlen
  have hnn : n * n ≤ 7 * 7 := Nat.mul_le_mul h7 h7
  refine ⟨h1, h7, ?_, ?_, by omega⟩
  · intro x hx
    obtain ⟨i, hi, hx⟩ := List.mem_flatMap.mp hx
    obtain ⟨j, hj, hx⟩ := List.mem_filterMap.mp hx
    rw [List.mem_range] at hi hj
    split at hx
    · rename_i hc
      cases hx
      have : wcell s at_ top i j < 10 * top := mixed_lt (by omega)
      refine ⟨by show (0 : Int) ≤ i; omega, by show (i : Int) < n; omega, by show (0 : Int) ≤ j; omega, by show (j : Int) < n; omega, by show (i : Int) ≠ j; omega, ?_, ?_⟩
      · show (1 : Int) ≤ 1 + (wcell s at_ top i j : Int) / 10
        omega
      · show 1 + (wcell s at_ top i j : Int) / 10 ≤ 99
        omega
    · cases hx
  · have key : ∀ is : List Nat, is.Pairwise (· < ·) → (wars s at_ thick top n is).Pairwise arLt ∧ ∀ x ∈ wars s at_ thick top n is, ∃ i ∈ is, x.a = (i : Int) := by
      intro is
      induction is with
      | nil => intro _; exact ⟨.nil, fun x hx => nomatch hx⟩
      | cons i is ih =>
        intro hp
        obtain ⟨p1, p2⟩ := List.pairwise_cons.mp hp
        obtain ⟨i1, i2⟩ := ih p2
        have hrow : ∀ js : List Nat, js.Pairwise (· < ·) → (wrow s at_ thick top n i js).Pairwise arLt ∧ ∀ x ∈ wrow s at_ thick top n i js, x.a = (i : Int) ∧ ∃ j ∈ js, x.b = (j : Int) := by
          intro js hjs
          refine ⟨?_, fun x hx => ?_⟩
          · unfold wrow
            rw [List.pairwise_filterMap]
            refine hjs.imp ?_
            intro a b hab x hx y hy
            split at hx
            · split at hy
              · cases hx; cases hy
                exact .inr ⟨rfl, by show (a : Int) < b; omega⟩
              · cases hy
            · cases hx
          · obtain ⟨j, hj, hx⟩ := List.mem_filterMap.mp hx
            split at hx
            · cases hx; exact ⟨rfl, j, hj, rfl⟩
            · cases hx
        obtain ⟨r1, r2⟩ := hrow (List.range n) List.pairwise_lt_range
        have hW : wars s at_ thick top n (i :: is) = wrow s at_ thick top n i (List.range n) ++ wars s at_ thick top n is := rfl
        rw [hW]
        refine ⟨List.pairwise_append.mpr ⟨r1, i1, fun x hx y hy => ?_⟩, fun x hx => ?_⟩
        · obtain ⟨k, hk, e⟩ := i2 y hy
          have := (r2 x hx).1
          have := p1 k hk
          exact .inl (by omega)
        · rcases List.mem_append.mp hx with hx | hx
          · exact ⟨i, List.mem_cons_self, (r2 x hx).1⟩
          · obtain ⟨k, hk, e⟩ := i2 x hx
            exact ⟨k, List.mem_cons_of_mem _ hk, e⟩
    exact (key _ List.pairwise_lt_range).1
theorem top_eq : ∀ tp : Nat, tp < 4 → ∃ top : Nat, atI [D.int 1, D.int 3, D.int 9, D.int 99] (tp : Int) = some (D.int top) ∧ 0 < top ∧ top ≤ 99
  | 0, _ => ⟨1, rfl, by decide, by decide⟩
  | 1, _ => ⟨3, rfl, by decide, by decide⟩
  | 2, _ => ⟨9, rfl, by decide, by decide⟩
  | 3, _ => ⟨99, rfl, by decide, by decide⟩
theorem fs_L_web_eq (s : List Int) (at_ most : Nat) (hm : 0 < most) (h7 : most ≤ 7) : ∃ n as, fs_L_web [.klst (s.map .int), .int at_, .int most] = .fz (webD n as) ∧ WebOk n as ∧ n ≤ most := by
  have e0 := fs_L_mixed_eq s at_ most hm
  have e1 : fs_L_mixed [.klst (s.map .int), .int ((at_ : Int) + 1), .int 6] = _ := fs_L_mixed_eq s (at_ + 1) 6 (by decide)
  have e2 : fs_L_mixed [.klst (s.map .int), .int ((at_ : Int) + 2), .int 4] = _ := fs_L_mixed_eq s (at_ + 2) 4 (by decide)
  have l0 := mixed_lt (s := s) (k := at_) hm
  obtain ⟨top, htop, ht, h99⟩ := top_eq _ (mixed_lt (s := s) (k := at_ + 2) (m := 4) (by decide))
  generalize mixed s at_ most = n0 at e0 l0
  generalize mixed s (at_ + 1) 6 = th at e1
  generalize mixed s (at_ + 2) 4 = tp at e2 htop
  have hn : 1 + (n0 : Int) = ((1 + n0 : Nat) : Int) := by omega
  have hth : 3 + (th : Int) = ((3 + th : Nat) : Int) := by omega
  generalize hN : 1 + n0 = n at hn
  generalize 3 + th = thick at hth
  have hnn : n * n ≤ 7 * 7 := Nat.mul_le_mul (by omega) (by omega)
  obtain ⟨xs, h1⟩ := web_outer s at_ most n thick top ht (by omega) .un .un .un
  refine ⟨n, wars s at_ thick top n (List.range n), ?_, wars_ok s at_ thick top n ht h99 (by omega) (by omega), by omega⟩
  have c1 : SmallI n := smallI_nat (small_of (by omega))
  unfold wenv at h1
  simp only [List.cons_append, List.nil_append, List.map_nil] at h1
  simp [fs_L_web, fsOf, sem_L_web, initE, e0, e1, e2, htop, hn, hth, c1, h1, webD]
theorem fs_is_whole_int (i : Int) : fs_is_whole [.int i] = .fz (.bl true) := rfl
theorem fs_between_int (i lo hi : Int) : fs_between [.int i, .int lo, .int hi] = .fz (.bl (decide (lo ≤ i ∧ i ≤ hi))) := by
  by_cases h : lo ≤ i <;> simp [fs_between, fsOf, sem_between, initE, fs_is_whole_int, h]
theorem isi_tup (l : List D) : fIsi [.tup l, .ty "tuple"] = .fz (.bl true) := rfl
theorem isi_ktup (l : List D) : fIsi [.ktup l, .ty "tuple"] = .fz (.bl true) := rfl
theorem fs_is_arrow_ok {n : Nat} {x : Ar} (h : 0 ≤ x.a ∧ x.a < n ∧ 0 ≤ x.b ∧ x.b < n ∧ x.a ≠ x.b ∧ 1 ≤ x.c ∧ x.c ≤ 99) : fs_is_arrow [arD x, .int n] = .fz (.bl true) := by
  obtain ⟨h1, h2, h3, h4, h5, h6, h7⟩ := h
  have a1 : x.a ≤ (n : Int) - 1 := by omega
  have a2 : x.b ≤ (n : Int) - 1 := by omega
  simp [fs_is_arrow, fsOf, sem_is_arrow, initE, fs_between_int, isi_tup, arD, h1, h3, h5, h6, h7, a1, a2]
theorem fAll_true {ds : List D} (h : ∀ d ∈ ds, d = .bl true) : fAll [.lst ds] = .fz (.bl true) := by
  have e : ds = (List.replicate ds.length true).map D.bl := by
    rw [List.map_replicate]
    exact List.eq_replicate_iff.mpr ⟨rfl, h⟩
  have e2 : bolsOf ds = some (List.replicate ds.length true) := by
    rw [e, bolsOf_map]; simp
  simp [fAll, lstBols, e2]
theorem opSl_ar (x : Ar) : opSl false (arD x) none (some 2) = some (.tup [.int x.a, .int x.b]) := rfl
theorem lt_ar (x y : Ar) (h : arLt x y) : opLtA (.tup [.int x.a, .int x.b]) (.tup [.int y.a, .int y.b]) = some (.bl true) := by
  show some (D.bl (HT.lexLt [x.a, x.b] [y.a, y.b])) = _
  rcases h with h | ⟨h, h'⟩
  · have : x.a ≠ y.a := by omega
    simp [HT.lexLt, h, this]
  · have : x.b ≠ y.b := by omega
    simp [HT.lexLt, h, h', this]
theorem fs_is_web_ok {n : Nat} {as : List Ar} (h : WebOk n as) : fs_is_web [webD n as] = .fz (.bl true) := by
  obtain ⟨h1, h7, har, hso, hlen⟩ := h
  have c1 : ∀ xs : List Slot, runComp (bN 2) tTrue ce_is_web_1 [2] (as.map arD) [.fz (webD n as), .fz (.ktup (as.map arD)), .un, .un] = some (as.map fun _ => D.bl true, [.fz (webD n as), .fz (.ktup (as.map arD)), .un, .un]) := by
    intro _
    rw [runComp_map (enc := arD) (F := fun _ => some (D.bl true))]
    · rw [List.filterMap_eq_map']
    · intro x hx
      have := fs_is_arrow_ok (har x hx)
      refine ⟨_, rfl, .inr ⟨rfl, .bl true, [.fz (webD n as), .fz (.ktup (as.map arD)), .fz (arD x), .un], ?_, rfl, rfl⟩⟩
      simp [ce_is_web_1, webD, this]
  have c2 : runComp (bN 3) tTrue ce_is_web_2 [3] (nats (as.length - 1)) [.fz (webD n as), .fz (.ktup (as.map arD)), .un, .un] = some ((List.range (as.length - 1)).map fun _ => D.bl true, [.fz (webD n as), .fz (.ktup (as.map arD)), .un, .un]) := by
    unfold nats
    rw [runComp_map (enc := fun i : Nat => D.int (i : Int)) (F := fun _ => some (D.bl true))]
    · rw [List.filterMap_eq_map']
    · intro k hk
      rw [List.mem_range] at hk
      have k0 : k < as.length := by omega
      have k1 : k + 1 < as.length := by omega
      have e0 : atI (as.map arD) (k : Int) = some (arD as[k]) := by
        rw [atI_nat (j := k) (by rw [List.getElem?_map, List.getElem?_eq_getElem k0]; rfl)]
      have e1 : atI (as.map arD) ((k : Int) + 1) = some (arD as[k + 1]) := by
        have := atI_nat (xs := as.map arD) (j := k + 1) (v := arD as[k + 1]) (by rw [List.getElem?_map, List.getElem?_eq_getElem k1]; rfl)
        rw [← this]; rfl
      have hlt : arLt as[k] as[k + 1] := List.pairwise_iff_getElem.mp hso k (k + 1) k0 k1 (by omega)
      have e2 := lt_ar _ _ hlt
      refine ⟨_, rfl, .inr ⟨rfl, .bl true, [.fz (webD n as), .fz (.ktup (as.map arD)), .un, .fz (.int k)], ?_, rfl, rfl⟩⟩
      simp [ce_is_web_2, e0, e1, e2, opSl_ar]
  have c3 := c1 []
  have a1 : fAll [.lst (as.map fun _ => D.bl true)] = .fz (.bl true) := fAll_true (by simp)
  have a2 : fAll [.lst ((List.range (as.length - 1)).map fun _ => D.bl true)] = .fz (.bl true) := fAll_true (by simp)
  have b1 : (1 : Int) ≤ n := by omega
  have b2 : (n : Int) ≤ 7 := by omega
  have b3 : SmallI ((as.length : Int) - 1) := smallI_of (by omega) (by omega)
  have b4 : ((as.length : Int) - 1).toNat = as.length - 1 := by omega
  unfold webD at *
  simp [fs_is_web, fsOf, sem_is_web, initE, isi_tup, isi_ktup, fs_between_int, b1, b2, c3, a1, b3, b4, c2, a2]
theorem fs_checked_ok {n : Nat} {as : List Ar} (h : WebOk n as) : fs_checked [webD n as] = .fz (webD n as) := by
  simp [fs_checked, fsOf, sem_checked, initE, fs_is_web_ok h]
theorem bd_L_row_1_eq (s : List Int) (at_ n k : Nat) (left made : List Int) (x5 : Slot) (hl : 0 < left.length) (h2 : left.length ≤ 1000) (h3 : made.length ≤ 1000) :
    ∃ j, j < left.length ∧ bd_L_row_1 [.fz (.klst (s.map .int)), .fz (.int at_), .fz (.int n), .ow (.li (left.map .int)), .ow (.li (made.map .int)), .fz (.int k)] =
      .nx [.fz (.klst (s.map .int)), .fz (.int at_), .fz (.int n), .ow (.li ((left.eraseIdx j).map .int)), .ow (.li ((made ++ [left.getD j 0]).map .int)), .fz (.int k)] := by
  have hm := fs_L_mixed_eq s (at_ + k) left.length hl
  have hj : mixed s (at_ + k) left.length < left.length := mixed_lt hl
  generalize mixed s (at_ + k) left.length = j at hm hj
  refine ⟨j, hj, ?_⟩
  have hm : fs_L_mixed [.klst (s.map .int), .int ((at_ : Int) + k), .int left.length] = .fz (.int j) := hm
  have e1 : (left.map D.int)[j]? = some (.int (left.getD j 0)) := by
    rw [List.getElem?_map, List.getElem?_eq_getElem hj, List.getD_eq_getElem?_getD, List.getElem?_eq_getElem hj]; rfl
  have e2 : (left.map D.int).eraseIdx j = (left.eraseIdx j).map .int := eraseIdx_mapL _ _ _
  have c1 : Small made.length := small_of h3
  have c2 : left.length ≤ big := by show left.length ≤ 16777216; omega
  have e3 : left[j]?.getD 0 = left.getD j 0 := (List.getD_eq_getElem?_getD ..).symm
  simp [bd_L_row_1, hm, hj, e1, e2, c1, c2, e3]
theorem erase_perm : ∀ (l : List Int) (j : Nat), j < l.length → (l.getD j 0 :: l.eraseIdx j).Perm l
  | [], j, h => absurd h (Nat.not_lt_zero _)
  | a :: l, 0, h => by simp
  | a :: l, j + 1, h => by
    have := erase_perm l j (by simpa using h)
    rw [List.eraseIdx_cons_succ, List.getD_cons_succ]
    exact (List.Perm.swap _ _ _).trans (this.cons a)
theorem fs_L_row_eq (s : List Int) (at_ n : Nat) (hn : n ≤ 1000) : ∃ r, fs_L_row [.klst (s.map .int), .int at_, .int n] = .fz (rowD r) ∧ RowOk n r := by
  obtain ⟨ρ', h1, left, made, x5, rfl, h2, h3⟩ := runFor_rel (b := bN 5) (g := bd_L_row_1) (enc := fun j : Nat => D.int (j : Int))
    (fun r ρ => ∃ left made x5, ρ = [.fz (.klst (s.map .int)), .fz (.int at_), .fz (.int n), .ow (.li (left.map .int)), .ow (.li (made.map .int)), x5] ∧ (made ++ left).Perm (intsN n) ∧ left.length = r.length) (by
      rintro k r ρ ⟨left, made, x5, rfl, h2, h3⟩
      rw [List.length_cons] at h3
      have hl := h2.length_eq
      rw [List.length_append, ints_len] at hl
      obtain ⟨j, hj, h4⟩ := bd_L_row_1_eq s at_ n k left made x5 (by omega) (by omega) (by omega)
      refine ⟨_, _, rfl, .inl h4, left.eraseIdx j, made ++ [left.getD j 0], .fz (.int k), rfl, ?_, ?_⟩
      · rw [List.append_assoc]
        exact ((erase_perm left j hj).append_left made).trans h2
      · rw [List.length_eraseIdx_of_lt hj]; omega) (List.range n) [.fz (.klst (s.map .int)), .fz (.int at_), .fz (.int n), .ow (.li ((intsN n).map .int)), .ow (.li ([].map .int)), .un] ⟨intsN n, [], .un, rfl, .refl _, by rw [ints_len, List.length_range]⟩
  have h3 : left = [] := List.eq_nil_of_length_eq_zero (by simpa using h3)
  subst h3
  rw [List.append_nil] at h2
  refine ⟨made, ?_, ⟨h2⟩⟩
  have c1 : SmallI n := smallI_nat (small_of hn)
  rw [← nats_intsN] at h1
  have h1 : runFor (bN 5) bd_L_row_1 (nats n) [.fz (.klst (s.map .int)), .fz (.int at_), .fz (.int n), .ow (.li (nats n)), .ow (.li []), .un] = .nx [.fz (.klst (s.map .int)), .fz (.int at_), .fz (.int n), .ow (.li []), .ow (.li (made.map .int)), x5] := h1
  simp [fs_L_row, fsOf, sem_L_row, initE, c1, h1, rowD]
theorem fs_need_row_ok {n : Nat} {as : List Ar} {r : List Int} (h : WebOk n as) (hr : RowOk n r) : fs_need_row [webD n as, rowD r] = .fz .non := by
  have c1 : runComp (bN 2) tTrue ce_need_row_1 [2] (r.map .int) [.fz (webD n as), .fz (rowD r), .un] = some (r.map fun _ => D.bl true, [.fz (webD n as), .fz (rowD r), .un]) := by
    rw [runComp_map (enc := fun x : Int => D.int x) (F := fun _ => some (D.bl true))]
    · rw [List.filterMap_eq_map']
    · intro x hx
      refine ⟨_, rfl, .inr ⟨rfl, .bl true, [.fz (webD n as), .fz (rowD r), .fz (.int x)], ?_, rfl, rfl⟩⟩
      simp [ce_need_row_1, fs_is_whole_int]
  have a1 : fAll [.lst (r.map fun _ => D.bl true)] = .fz (.bl true) := fAll_true (by simp)
  have a2 := fs_checked_ok h
  have c2 : SmallI n := smallI_nat (small_of (by have := h.n7; omega))
  have e1 : opNe (.lst ((intsN n).map .int)) (.lst ((intsN n).map .int)) = some (.bl false) := by
    rw [opNe_is (is_lst (iss_ints _)) (is_lst (iss_ints _)) (by decide)]
    simp
  have e2 := fSorted_ints r
  rw [sort_perm hr.p] at e2
  unfold webD rowD at *
  simp [fs_need_row, fsOf, sem_need_row, initE, a2, isi_ktup, c1, a1, e2, c2, nats_intsN, e1]
def wK (as : List Ar) : List (List Key × D) := as.map fun z => ([.inl z.a, .inl z.b], .int z.c)
end Fw

set_option Elab.async false
set_option linter.all false
set_option maxRecDepth 100000
namespace Fw
open PySem PySem.Spec PyProof.Rows L2 Pv
open PySem.W (Datum DatumOrd Tup T3 T4)
def lowW (n : Nat) (as : List Ar) : Int := ((rowsN n).map (weightI as)).min?.getD 0
def cntW (n : Nat) (as : List Ar) : Nat := ((rowsN n).map (weightI as)).count (lowW n as)
def firstW (n : Nat) (as : List Ar) : List Int := ((rowsN n).find? fun r => decide (weightI as r = lowW n as)).getD []
/-- the least weight of the rows with a ahead of b -/
def lowA (n : Nat) (as : List Ar) (a b : Int) : Int := (((rowsN n).filter fun r => decide (r.idxOf a < r.idxOf b)).map (weightI as)).min?.getD 0
end Fw

set_option Elab.async false
set_option linter.all false
set_option maxRecDepth 100000
set_option maxHeartbeats 2000000
namespace Fw
open PySem PySem.Spec PyProof.Rows L2 Pv
open PySem.W (Datum DatumOrd Tup T3 T4)
def facN : Nat → Nat
  | 0 => 1
  | k + 1 => (k + 1) * facN k
def lstR (k : Nat) (X : List D) : Rf := if k = 0 then .ow (.li X) else .fz (.lst X)
def bS (b : Bool) (X : List D) : Slot := if b = true then .ow (.li X) else .fz (.lst X)
section
variable {α : Type} [DecidableEq α] [Datum α]
end
end Fw

set_option Elab.async false
set_option linter.all false
set_option maxRecDepth 100000
namespace Fw
open PySem PySem.Spec PyProof.Rows L2 Pv
open PySem.W (Datum DatumOrd Tup T3 T4)
def totW (as : List Ar) : Int := (as.map (·.c)).sum
end Fw

set_option Elab.async false
set_option linter.all false
set_option maxRecDepth 100000
set_option maxHeartbeats 2000000
namespace Fw
open PySem PySem.Spec PyProof.Rows L2 Pv
open PySem.W (Datum DatumOrd Tup T3 T4)
def leD {α : Type} [DecidableEq α] [DatumOrd α] (x y : α) : Bool := !DatumOrd.lt y x
def sortAr (xs : List Ar) : List Ar := xs.mergeSort leD
theorem arLt_ne {xs : List Ar} (h : xs.Pairwise arLt) : xs.Pairwise fun x y => ¬ (x.a = y.a ∧ x.b = y.b) := h.imp fun {x y} h z => by
  rcases h with w | ⟨w1, w⟩ <;> omega
/-- a web has few arrows -/
theorem web_len {n : Nat} {as : List Ar} (h : WebOk n as) : as.length ≤ 49 := by
  have h7 := h.n7
  have hnd : (as.map fun z => (z.a, z.b)).Nodup := List.pairwise_map.mpr ((arLt_ne h.so).imp fun {x y} g e => g (by
    have := Prod.mk.inj e
    exact this))
  have := nodup_sub (m := (intsN 7).flatMap fun i => (intsN 7).map fun j => (i, j)) hnd fun p hp => by
    obtain ⟨z, hz, rfl⟩ := List.mem_map.mp hp
    obtain ⟨h1, h2, h3, h4, _⟩ := h.ar z hz
    exact List.mem_flatMap.mpr ⟨z.a, mem_intsN.mpr ⟨h1, by omega⟩, List.mem_map.mpr ⟨z.b, mem_intsN.mpr ⟨h3, by omega⟩, rfl⟩⟩
  rw [List.length_map] at this
  exact this
def flipA (z : Ar) : Ar := ⟨z.b, z.a, z.c⟩
def aboutW (as : List Ar) : List Ar := sortAr (as.map flipA)
def shiftA (n : Nat) (z : Ar) : Ar := ⟨z.a + n, z.b + n, z.c⟩
def joinW (n : Nat) (as bs : List Ar) : List Ar := as ++ bs.map (shiftA n)
end Fw

set_option Elab.async false
set_option linter.all false
set_option maxRecDepth 100000
namespace Fw
open PySem PySem.Spec PyProof.Rows L2 Pv
open PySem.W (Datum DatumOrd Tup T3 T4)
def prs (as : List Ar) : List (Int × Int) := as.map fun z => (z.a, z.b)
def Ed (as : List Ar) (x y : Int) : Prop := (x, y) ∈ prs as
instance (as : List Ar) (x y : Int) : Decidable (Ed as x y) := by unfold Ed; infer_instance
theorem Ed_iff {as : List Ar} {x y : Int} : Ed as x y ↔ ∃ z ∈ as, z.a = x ∧ z.b = y := by
  unfold Ed prs
  rw [List.mem_map]
  constructor
  · rintro ⟨z, hz, e⟩
    exact ⟨z, hz, (Prod.mk.inj e).1, (Prod.mk.inj e).2⟩
  · rintro ⟨z, hz, rfl, rfl⟩
    exact ⟨z, hz, rfl⟩
def lastOf (f : Int) (t : List Int) : Int := (f :: t).getLast (List.cons_ne_nil f t)
def chainE (as : List Ar) : Int → List Int → Prop
  | _, [] => True
  | x, y :: l => Ed as x y ∧ chainE as y l
structure IsPath (n : Nat) (as : List Ar) (f : Int) (t : List Int) : Prop where
  nd : (f :: t).Nodup
  rg : ∀ x ∈ f :: t, 0 ≤ x ∧ x < (n : Int)
  mn : ∀ x ∈ t, f < x
  ch : chainE as f t
def IsRing (n : Nat) (as : List Ar) (q : List Int) : Prop := ∃ f t, q = f :: t ∧ IsPath n as f t ∧ Ed as (lastOf f t) f
/-- the law's way: all rings that go on from a path -/
def kidsX (n : Nat) (as : List Ar) (f : Int) (t : List Int) : List Int := (intsN n).filter fun y => decide (f < y ∧ Ed as (lastOf f t) y ∧ y ∉ f :: t)
def closeX (as : List Ar) (f : Int) (t : List Int) : List (List Int) := if Ed as (lastOf f t) f then [f :: t] else []
def ringsX (n : Nat) (as : List Ar) : Nat → Int → List Int → List (List Int)
  | 0, _, _ => []
  | k + 1, f, t => closeX as f t ++ (kidsX n as f t).flatMap fun y => ringsX n as k f (t ++ [y])
def Goes (n : Nat) (as : List Ar) (f : Int) (t q : List Int) : Prop := ∃ u, q = f :: (t ++ u) ∧ IsPath n as f (t ++ u) ∧ Ed as (lastOf f (t ++ u)) f
/-- the program's way -/
def stepF (n : Nat) (as : List Ar) (rec : Int → List Int → List (List Int)) (f : Int) (t : List Int) (y : Int) : List (List Int) := if y = f then [f :: t] else if f < y ∧ y ∉ f :: t then rec f (t ++ [y]) else []
def ringsF (n : Nat) (as : List Ar) : Nat → Int → List Int → List (List Int)
  | 0, _, _ => []
  | k + 1, f, t => (nextR (lastOf f t).toNat as).flatMap (stepF n as (ringsF n as k) f t)
theorem mem_nextR {as : List Ar} {x : Nat} {y : Int} : y ∈ nextR x as ↔ Ed as x y := by
  unfold nextR
  rw [Ed_iff, List.mem_map]
  constructor
  · rintro ⟨z, hz, e⟩
    obtain ⟨h1, h2⟩ := List.mem_filter.mp hz
    exact ⟨z, h1, by simpa using h2, e⟩
  · rintro ⟨z, hz, h1, h2⟩
    exact ⟨z, List.mem_filter.mpr ⟨hz, by simpa using h1⟩, h2⟩
def allX (n : Nat) (as : List Ar) : List (List Int) := (intsN n).flatMap fun f => ringsX n as n f []
def allF (n : Nat) (as : List Ar) : List (List Int) := (intsN n).flatMap fun f => ringsF n as 9 f []
end Fw

set_option Elab.async false
set_option linter.all false
set_option maxRecDepth 100000
set_option maxHeartbeats 2000000
namespace Fw
open PySem PySem.Spec PyProof.Rows L2 Pv
open PySem.W (Datum DatumOrd Tup T3 T4)
def sortL (xs : List (List Int)) : List (List Int) := xs.mergeSort leD
theorem fs_next_of_ok {n : Nat} {as : List Ar} (h : WebOk n as) : fs_next_of [webD n as] = .fz (.lst ((nextL n as).map lstI)) := by
  have h7 := h.n7
  have hl := web_len h
  unfold fs_next_of webD
  simp only [arsOf_map, Int.toNat_natCast]
  rw [if_pos ⟨by omega, by omega, by omega, fun z hz => by have := h.ar z hz; omega⟩]
theorem next_at {n : Nat} {as : List Ar} {x : Int} (hx : 0 ≤ x ∧ x < (n : Int)) : atI ((nextL n as).map lstI) x = some (lstI (nextR x.toNat as)) := by
  have hc : ((x.toNat : Nat) : Int) = x := Int.toNat_of_nonneg hx.1
  rw [← hc, atI_nat (v := lstI (nextR x.toNat as))]
  · rw [Int.toNat_natCast]
  · unfold nextL
    rw [List.getElem?_map, List.getElem?_map, List.getElem?_range (by omega)]; rfl
end Fw

set_option Elab.async false
set_option linter.all false
set_option maxRecDepth 100000
set_option maxHeartbeats 4000000
namespace Fw
open PySem PySem.Spec PyProof.Rows L2 Pv
abbrev fns_Table : List Str := ["many", "weights", "kept", "known"]
theorem nd_Table : (fns_Table).Nodup := by decide +kernel
def sem_Table_init : Sem :=
  (sSeq (sSetF 0 3 (eBin opIx (eVar 1) (eC (.int 0))))
    (sSeq (sSetF 0 4 (eCall fs_weights_of (aCons (eVar 1) aNil)))
    (sSeq (sSetF 0 5 (eVar 2))
    (sSetF 0 6 (eNew (.di []))))))
def fm_Table_init : List Slot → List D → Option (D × List Slot) := fmOf 3 sem_Table_init
def sem_Table_stands : Sem :=
  (sRet (eBin opEq (eBin opMod (eBin opDiv (eVar 1) (eBin opIx (eC (.ktup ([1, 2, 4, 8, 16, 32, 64, 128].map D.int))) (eVar 2))) (eC (.int 2))) (eC (.int 1))))
def fm_Table_stands : List Slot → List D → Option (D × List Slot) := fmOf 3 sem_Table_stands
def bd_Table_cost_1 : Sem :=
  (sIf (tsE (eSelf 0 5 fm_Table_stands (aCons (eMat (eVar 1)) (aCons (eMat (eVar 4)) aNil)))) (sSet 3 (eBin opAdd (eVar 3) (eDGet2 (eFld 0 6) (eTup (aCons (eVar 2) (aCons (eVar 4) aNil))) (eC (.int 0))))) sNext)
def sem_Table_cost : Sem :=
  (sSeq (sSet 3 (eC (.int 0)))
    (sSeq (sFor (itRng1 (aCons (eFld 0 5) aNil)) (bN 4) bd_Table_cost_1)
    (sRet (eVar 3))))
def fm_Table_cost : List Slot → List D → Option (D × List Slot) := fmOf 5 sem_Table_cost
def ct_Table_may_come_1 : Envi → R Bool :=
  (tsE (eBin opEq (eVar 4) (eVar 2)))
def ce_Table_may_come_2 : Envi → R Hd :=
  (eSelf 0 5 fm_Table_stands (aCons (eMat (eVar 1)) (aCons (eMat (eVar 3)) aNil)))
def sem_Table_may_come : Sem :=
  (sSeq (sIf (tsE (eSelf 0 5 fm_Table_stands (aCons (eMat (eVar 1)) (aCons (eMat (eVar 2)) aNil)))) (sRet (eC (.bl false))) sNext)
    (sRet (eCB fAll (aCons (eMat (eComp (itBy lstOf (eFld 0 7)) (bT 2 (bsCons (bN 3) (bsCons (bN 4) bsNil))) ct_Table_may_come_1 ce_Table_may_come_2 [3, 4])) aNil))))
def fm_Table_may_come : List Slot → List D → Option (D × List Slot) := fmOf 5 sem_Table_may_come
def bd_Table_found_1 (rec : List Slot → List D → Option (D × List Slot)) : Sem :=
  (sIf (tsE (eSelf 0 8 fm_Table_may_come (aCons (eMat (eVar 1)) (aCons (eMat (eVar 3)) aNil)))) (sSeq (sSet 4 (eSelf 0 8 rec (aCons (eMat (eBin opAdd (eVar 1) (eBin opIx (eC (.ktup ([1, 2, 4, 8, 16, 32, 64, 128].map D.int))) (eVar 3)))) aNil)))
    (sIf (tsE (eBin opIsNot (eVar 4) (eC .non))) (sDrop (eMut 2 okT "list" muAppend (aCons (eMat (eTup (aCons (eMat (eBin opAdd (eMat (eBin opIx (eVar 4) (eC (.int 0)))) (eSelf 0 8 fm_Table_cost (aCons (eMat (eVar 1)) (aCons (eMat (eVar 3)) aNil))))) (aCons (eMat (eBin opIx (eVar 4) (eC (.int 1)))) aNil)))) aNil))) sNext)) sNext)
def ct_Table_found_2 (rec : List Slot → List D → Option (D × List Slot)) : Envi → R Bool :=
  (tsE (eBin opEq (eVar 6) (eVar 5)))
def sem_Table_found (rec : List Slot → List D → Option (D × List Slot)) : Sem :=
  (sSeq (sIf (tsE (eBin opEq (eVar 1) (eBin opSub (eBin opIx (eC (.ktup ([1, 2, 4, 8, 16, 32, 64, 128].map D.int))) (eFld 0 8)) (eC (.int 1))))) (sRet (eTup (aCons (eC (.int 0)) (aCons (eC (.int 1)) aNil)))) sNext)
    (sSeq (sSet 2 (eLst aNil))
    (sSeq (sFor (itRng1 (aCons (eFld 0 8) aNil)) (bN 3) (bd_Table_found_1 rec))
    (sSeq (sIf (tsE (eBin opEq (eVar 2) (eLst aNil))) (sRet (eC .non)) sNext)
    (sSeq (sSet 5 (eBin opIx (eCB fMinD (aCons (eVar 2) aNil)) (eC (.int 0))))
    (sRet (eTup (aCons (eVar 5) (aCons (eCB fSum (aCons (eComp (itBy lstOf (eVar 2)) (bT 2 (bsCons (bN 6) (bsCons (bN 7) bsNil))) (ct_Table_found_2 rec) (eVar 7) [6, 7]) aNil)) aNil)))))))))
def sem_Table_best (rec : List Slot → List D → Option (D × List Slot)) : Sem :=
  (sSeq (sIf (tsE (eBin opNotIn (eVar 1) (eFld 0 5))) (sDPutP 5 (isSelf 0) (eVar 1) (eSelf 0 2 rec (aCons (eMat (eVar 1)) aNil))) sNext)
    (sRet (eBin opDGet (eFld 0 5) (eVar 1))))
def fm_Table_best : Nat → List Slot → List D → Option (D × List Slot)
  | 0 => fun _ _ => none
  | n + 1 => fmOf 2 (sem_Table_best (fmOf 8 (sem_Table_found (fm_Table_best n))))
def bd_Table_first_row_1 : Sem :=
  (sIf (tsE (eSelf 0 5 fm_Table_may_come (aCons (eMat (eVar 2)) (aCons (eMat (eVar 3)) aNil)))) (sSeq (sSet 4 (eSelf 0 5 (fm_Table_best 10) (aCons (eMat (eBin opAdd (eVar 2) (eBin opIx (eC (.ktup ([1, 2, 4, 8, 16, 32, 64, 128].map D.int))) (eVar 3)))) aNil)))
    (sIf (tsAnd (tsE (eBin opIsNot (eVar 4) (eC .non))) (tsE (eBin opEq (eMat (eBin opAdd (eMat (eBin opIx (eVar 4) (eC (.int 0)))) (eSelf 0 5 fm_Table_cost (aCons (eMat (eVar 2)) (aCons (eMat (eVar 3)) aNil))))) (eBin opIx (eMat (eSelf 0 5 (fm_Table_best 10) (aCons (eMat (eVar 2)) aNil))) (eC (.int 0)))))) sBreak sNext)) sNext)
def wt_Table_first_row_2 : Envi → R Bool :=
  (tsE (eBin opLtA (eCB fLen (aCons (eVar 1) aNil)) (eFld 0 5)))
def bd_Table_first_row_3 : Sem :=
  (sSeq (sFor (itRng1 (aCons (eFld 0 5) aNil)) (bN 3) bd_Table_first_row_1)
    (sSeq (sSet 1 (eBin opAdd (eVar 1) (eTupF (aCons (eVar 3) aNil))))
    (sSet 2 (eBin opAdd (eVar 2) (eBin opIx (eC (.ktup ([1, 2, 4, 8, 16, 32, 64, 128].map D.int))) (eVar 3))))))
def sem_Table_first_row : Sem :=
  (sSeq (sSet 1 (eTupF aNil))
    (sSeq (sSet 2 (eC (.int 0)))
    (sSeq (sWhileN 1000000 wt_Table_first_row_2 bd_Table_first_row_3)
    (sRet (eVar 1)))))
def fm_Table_first_row : List Slot → List D → Option (D × List Slot) := fmOf 5 sem_Table_first_row
def sem_least_of : Sem :=
  (sLet 1 2 4 fm_Table_init (aCons (eVar 0) (aCons (eLst aNil) aNil))
    (sRet (eTup (aCons (eMat (eBin opIx (eMat (eSelf 1 2 (fm_Table_best 10) (aCons (eMat (eC (.int 0))) aNil))) (eC (.int 0)))) (aCons (eMat (eSelf 1 2 fm_Table_first_row aNil)) aNil)))))
def fs_least_of : List D → Rf := fsOf 2 sem_least_of
def bd_sure_1 : Sem :=
  (sIf (tsAnd (tsE (eBin opNe (eVar 3) (eVar 4))) (tsE (eBin opGt (eBin opIx (eMk 4 fm_Table_init (fm_Table_best 10) (aCons (eVar 0) (aCons (eLst (aCons (eTup (aCons (eVar 4) (aCons (eVar 3) aNil))) aNil)) aNil)) [.int 0]) (eC (.int 0))) (eVar 1)))) (sDrop (eMut 2 okT "list" muAppend (aCons (eTup (aCons (eVar 3) (aCons (eVar 4) aNil))) aNil))) sNext)
def bd_sure_2 : Sem :=
  (sFor (itRng1 (aCons (eBin opIx (eVar 0) (eC (.int 0))) aNil)) (bN 4) bd_sure_1)
def sem_sure : Sem :=
  (sSeq (sDrop (eCall fs_checked (aCons (eVar 0) aNil)))
    (sSeq (sSet 1 (eBin opIx (eCall fs_least_of (aCons (eVar 0) aNil)) (eC (.int 0))))
    (sSeq (sSet 2 (eLst aNil))
    (sSeq (sFor (itRng1 (aCons (eBin opIx (eVar 0) (eC (.int 0))) aNil)) (bN 3) bd_sure_2)
    (sRet (eVar 2))))))
def fs_sure : List D → Rf := fsOf 5 sem_sure
def sem_least : Sem :=
  (sRet (eCall fs_least_of (aCons (eCall fs_checked (aCons (eVar 0) aNil)) aNil)))
def fs_least : List D → Rf := fsOf 1 sem_least
def sem_count_best : Sem :=
  (sRet (eBin opIx (eMk 4 fm_Table_init (fm_Table_best 10) (aCons (eCall fs_checked (aCons (eVar 0) aNil)) (aCons (eLst aNil) aNil)) [.int 0]) (eC (.int 1))))
def fs_count_best : List D → Rf := fsOf 1 sem_count_best
end Fw

set_option Elab.async false
set_option linter.all false
set_option maxRecDepth 100000
set_option maxHeartbeats 2000000
namespace Fw
open PySem PySem.Spec PyProof.Rows L2 Pv
open PySem.W (Datum DatumOrd Tup T3 T4)
def wS (as : List Ar) (b : Bool) : Slot := if b = true then .ow (.ti (wK as)) else .fz (.dt ((wK as).map (·.1)) ((wK as).map (·.2)))
def prD (p : Nat × Nat) : D := .tup [.int p.1, .int p.2]
def kpD (K : List (Nat × Nat)) : D := .lst (K.map prD)
def kI (K : List (Nat × Nat)) : List (Int × Int) := K.map fun p => ((p.1 : Int), (p.2 : Int))
abbrev tf (n : Nat) (as : List Ar) (b : Bool) (K : List (Nat × Nat)) (kn : Slot) : List Slot := [.fz (.int n), wS as b, .fz (kpD K), kn]
def costT (as : List Ar) (S x : Nat) (js : List Nat) : Int := (js.map fun j : Nat => if S.testBit j = true then wOf as x j else 0).sum
def bestD : Option (Int × Nat) → D
  | none => .non
  | some p => .tup [.int p.1, .int (p.2 : Nat)]
def knL (n : Nat) (as : List Ar) (K : List (Nat × Nat)) (ms : List Nat) : List (Key × D) := ms.map fun m : Nat => (.inl (m : Int), bestD (bestM n (wOf as) (kI K) (restN n m).length m))
def knS (n : Nat) (as : List Ar) (K : List (Nat × Nat)) (ms : List Nat) : Slot := .ow (.di (knL n as K ms))
structure Good (n : Nat) (ms : List Nat) : Prop where
  nd : ms.Nodup
  lt : ∀ m ∈ ms, m < 2 ^ n
end Fw

set_option Elab.async false
set_option linter.all false
set_option maxRecDepth 100000
set_option maxHeartbeats 2000000
namespace Fw
open PySem PySem.Spec PyProof.Rows L2 Pv
open PySem.W (Datum DatumOrd Tup T3 T4)
def pD (p : Int × Nat) : D := .tup [.int p.1, .int (p.2 : Nat)]
def pI (p : Int × Nat) : Int × Int := (p.1, (p.2 : Int))
/-- what best does, for one number of things left -/
def BestOk (n : Nat) (as : List Ar) (K : List (Nat × Nat)) (k : Nat) (rec : List Slot → List D → Option (D × List Slot)) : Prop :=
  ∀ S b ms, S < 2 ^ n → (restN n S).length = k → Good n ms → ∃ b' ms', rec (tf n as b K (knS n as K ms)) [.int S] = some (bestD (bestM n (wOf as) (kI K) k S), tf n as b' K (knS n as K ms')) ∧ Good n ms'
abbrev fe (n : Nat) (as : List Ar) (K : List (Nat × Nat)) (S : Nat) (R : List (Int × Nat)) (b : Bool) (ms : List Nat) (x3 x4 : Slot) : Envi := [.self, .fz (.int S), .ow (.li (R.map pD)), x3, x4, .un, .un, .un] ++ tf n as b K (knS n as K ms)
end Fw

set_option Elab.async false
set_option linter.all false
set_option maxRecDepth 100000
set_option maxHeartbeats 2000000
namespace Fw
open PySem PySem.Spec PyProof.Rows L2 Pv
open PySem.W (Datum DatumOrd Tup T3 T4)
end Fw

set_option Elab.async false
set_option linter.all false
set_option maxRecDepth 100000
set_option maxHeartbeats 2000000
namespace Fw
open PySem PySem.Spec PyProof.Rows L2 Pv
open PySem.W (Datum DatumOrd Tup T3 T4)
abbrev fr (n : Nat) (as : List Ar) (S : Nat) (p : List Int) (b : Bool) (ms : List Nat) (x3 x4 : Slot) : Envi := [.self, .fz (rowD p), .fz (.int S), x3, x4] ++ tf n as b [] (knS n as [] ms)
end Fw

set_option Elab.async false
set_option linter.all false
set_option maxRecDepth 100000
set_option maxHeartbeats 2000000
namespace Fw
open PySem PySem.Spec PyProof.Rows L2 Pv
open PySem.W (Datum DatumOrd Tup T3 T4)
def pqD (p : Int × Int) : D := .tup [.int p.1, .int p.2]
def sureRow (n : Nat) (as : List Ar) (i : Int) (js : List Int) : List (Int × Int) := (js.filter fun j => decide (i ≠ j ∧ lowW n as < lowA n as j i)).map fun j => (i, j)
def sureW (n : Nat) (as : List Ar) (is : List Int) : List (Int × Int) := is.flatMap fun i => sureRow n as i (intsN n)
def sureN (n : Nat) (as : List Ar) : List (Int × Int) := sureW n as (intsN n)
end Fw

set_option Elab.async false
set_option linter.all false
set_option maxRecDepth 100000
set_option maxHeartbeats 2000000
namespace Fw
open PySem PySem.Spec PyProof.Rows L2 Pv
open PySem.W (Datum DatumOrd Tup T3 T4)
def ringsN (n : Nat) (as : List Ar) : List (List Int) := sortL (allF n as)
def lenD2 (q : List Int) : D := .tup [.int (q.length : Nat), lstI q]
end Fw

set_option Elab.async false
set_option linter.all false
set_option maxRecDepth 100000
set_option maxHeartbeats 2000000
namespace Fw
open PySem PySem.Spec PyProof.Rows L2 Pv
open PySem.W (Datum DatumOrd Tup T3 T4)
theorem pop_snoc (l : List D) (d : D) : muPop (.li (l ++ [d])) [] = some (d, .li l) := by
  unfold muPop
  have e1 : (l ++ [d])[(l ++ [d]).length - 1]? = some d := by
    rw [List.length_append, List.length_singleton, Nat.add_sub_cancel, List.getElem?_append_right (Nat.le_refl _), Nat.sub_self]; rfl
  simp only [e1, List.dropLast_concat]
def ysOf (n : Nat) (f : Int) : List Int := (List.range ((n : Int) - (f + 1)).toNat).map fun i : Nat => f + 1 + (i : Int)
def rowP (p : Int × List Int) : D := lstI (p.1 :: p.2)
abbrev LRe (n : Nat) (as : List Ar) (found : List (List Int)) (W : List D) (x6 x7 : Slot) : Envi :=
  [.fz (webD n as), .ow (.li ((prs as).map pqD)), .un, .ow (.li (found.map lstI)), .ow (.li W), .un, x6, x7]
end Fw

set_option Elab.async false
set_option linter.all false
set_option maxRecDepth 100000
set_option maxHeartbeats 2000000
namespace Fw
open PySem PySem.Spec PyProof.Rows L2 Pv
open PySem.W (Datum DatumOrd Tup T3 T4)
def TT : Nat → Nat
  | 0 => 1
  | m + 1 => 6 * TT m + 1
def stM (n : Nat) (S : List (Int × List Int)) : Nat := (S.map fun p => TT (n - (p.2.length + 1))).sum
def XX (n : Nat) (as : List Ar) (p : Int × List Int) : List (List Int) := ringsX n as (n - p.2.length) p.1 p.2
end Fw

set_option Elab.async false
set_option linter.all false
set_option maxRecDepth 100000
namespace Fw
open PySem PySem.Spec PyProof.Rows L2 Pv
open PySem.W (Datum DatumOrd Tup T3 T4)
def rowL (n : Nat) (r : List Int) : List Int := r.filter fun x => decide (x < (n : Int))
def rowR (n : Nat) (r : List Int) : List Int := (r.filter fun x => decide ((n : Int) ≤ x)).map fun x => x - n
def rowJ (n : Nat) (r q : List Int) : List Int := r ++ q.map fun x : Int => x + (n : Int)
end Fw

set_option Elab.async false
set_option linter.all false
set_option maxRecDepth 100000
namespace Fw
open PySem PySem.Spec PyProof.Rows L2 Pv
open PySem.W (Datum DatumOrd Tup T3 T4)
def stepsI : List Int → List (Int × Int)
  | [] => []
  | f :: t => (lastOf f t, f) :: (f :: t).zip t
structure IsCyc (as : List Ar) (f : Int) (t : List Int) : Prop where
  nd : (f :: t).Nodup
  ch : chainE as f t
  cl : Ed as (lastOf f t) f
end Fw

set_option Elab.async false
set_option linter.all false
set_option maxRecDepth 100000
set_option maxHeartbeats 2000000
namespace Fw
open PySem PySem.Spec PyProof.Rows L2 Pv
open PySem.W (Datum DatumOrd Tup T3 T4)
end Fw

set_option Elab.async false
set_option linter.all false
set_option maxRecDepth 100000
namespace Fw
open PySem PySem.Spec PyProof.Rows L2 Pv
open PySem.W (Datum DatumOrd Tup T3 T4)
inductive Re (as : List Ar) (x : Int) : Int → Prop
  | refl : Re as x x
  | tail {y z : Int} : Re as x y → Ed as y z → Re as x z
theorem Re.closed {as : List Ar} {x y : Int} {ks : List Int} (h : Re as x y) (hx : x ∈ ks) (hc : ∀ u ∈ ks, ∀ v, Ed as u v → v ∈ ks) : y ∈ ks := by
  induction h with
  | refl => exact hx
  | tail _ e ih => exact hc _ ih _ e
theorem Re.range {n : Nat} {as : List Ar} (hw : WebOk n as) {x y : Int} (h : Re as x y) (hx : 0 ≤ x ∧ x < (n : Int)) : 0 ≤ y ∧ y < (n : Int) := by
  cases h with
  | refl => exact hx
  | tail _ e =>
    obtain ⟨z, hz, _, rfl⟩ := Ed_iff.mp e
    have := hw.ar z hz
    omega
def Mu (as : List Ar) (x y : Int) : Prop := Re as x y ∧ Re as y x
open Classical in
noncomputable def partL (n : Nat) (as : List Ar) (f : Int) : List Int := (intsN n).filter fun y => decide (Mu as f y)
open Classical in
theorem mem_partL {n : Nat} {as : List Ar} {f y : Int} : y ∈ partL n as f ↔ (0 ≤ y ∧ y < (n : Int)) ∧ Mu as f y := by
  unfold partL
  rw [List.mem_filter, mem_intsN, decide_eq_true_eq]
theorem partL_lt (n : Nat) (as : List Ar) (f : Int) : (partL n as f).Pairwise (· < ·) := (ints_lt n).filter _
theorem self_partL {n : Nat} {as : List Ar} {f : Int} (hf : 0 ≤ f ∧ f < (n : Int)) : f ∈ partL n as f := mem_partL.mpr ⟨hf, .refl, .refl⟩
/-- things in order: the least is the first -/
theorem head_min {l : List Int} {f : Int} (h : l.Pairwise (· < ·)) (hf : f ∈ l) : ∃ x t, l = x :: t ∧ (x = f ↔ ∀ y ∈ l, f ≤ y) := by
  cases l with
  | nil => cases hf
  | cons x t =>
    refine ⟨x, t, rfl, ?_, ?_⟩
    · rintro rfl y hy
      rcases List.mem_cons.mp hy with rfl | hy
      · exact Int.le_refl _
      · have := (List.pairwise_cons.mp h).1 y hy
        omega
    · intro hall
      have h1 := hall x List.mem_cons_self
      rcases List.mem_cons.mp hf with e | hf
      · exact e.symm
      · have := (List.pairwise_cons.mp h).1 f hf
        omega
open Classical in
noncomputable def partsR (n : Nat) (as : List Ar) (fs : List Int) : List (List Int) := fs.filterMap fun f => if ∀ y ∈ partL n as f, f ≤ y then some (partL n as f) else none
noncomputable def partsN (n : Nat) (as : List Ar) : List (List Int) := partsR n as (intsN n)
theorem partsR_len (n : Nat) (as : List Ar) (fs : List Int) : (partsR n as fs).length ≤ fs.length := List.length_filterMap_le _ _
theorem partsR_cons (n : Nat) (as : List Ar) (f : Int) (fs : List Int) : partsR n as (f :: fs) = partsR n as [f] ++ partsR n as fs := by
  unfold partsR
  rw [← List.filterMap_append, List.singleton_append]
def addE (found : List Int) (z : Ar) : List Int := if z.a ∈ found ∧ z.b ∉ found then found ++ [z.b] else found
def roundE (as : List Ar) (found : List Int) : List Int := as.foldl addE found
def roundsE (as : List Ar) : Nat → List Int → List Int
  | 0, found => found
  | k + 1, found => roundsE as k (roundE as found)
end Fw

set_option Elab.async false
set_option linter.all false
set_option maxRecDepth 100000
set_option maxHeartbeats 2000000
namespace Fw
open PySem PySem.Spec PyProof.Rows L2 Pv
open PySem.W (Datum DatumOrd Tup T3 T4)
def setK (ks : List Int) : List (Key × D) := ks.map fun k => (.inl k, .bl true)
def setD (ks : List Int) : D := .dk ((setK ks).map (·.1)) ((setK ks).map (·.2))
theorem lookA_set (x : Int) : ∀ ks : List Int, lookA (setK ks) (.inl x) = if x ∈ ks then some (.bl true) else none
  | [] => rfl
  | k :: ks => by
    have ih := lookA_set x ks
    unfold lookA setK at ih ⊢
    rw [List.map_cons, List.find?_cons]
    have e : decide ((Sum.inl k : Key) = .inl x) = decide (k = x) := decide_eq_decide.mpr ⟨fun z => Sum.inl.inj z, fun z => by rw [z]⟩
    dsimp only
    rw [e]
    by_cases hk : k = x
    · subst hk
      simp
    · have hk' : ¬ x = k := fun z => hk z.symm
      rw [decide_eq_false hk]
      dsimp only
      rw [ih]
      simp [hk']
theorem notIn_set (x : Int) (ks : List Int) : opNotIn (.int x) (setD ks) = some (.bl (!decide (x ∈ ks))) := by
  have h : dLook (setD ks) (.int x) = some (if x ∈ ks then some (.bl true) else none) := by
    unfold setD
    rw [y_dLook_i, zip_unzip, lookA_set]
  unfold opNotIn inD
  rw [h]
  by_cases e : x ∈ ks <;> simp [e]
theorem in_set (x : Int) (ks : List Int) : opIn (.int x) (setD ks) = some (.bl (decide (x ∈ ks))) := by
  have h : dLook (setD ks) (.int x) = some (if x ∈ ks then some (.bl true) else none) := by
    unfold setD
    rw [y_dLook_i, zip_unzip, lookA_set]
  unfold opIn inD
  rw [h]
  by_cases e : x ∈ ks <;> simp [e]
theorem put_set {x : Int} {ks : List Int} (h : x ∉ ks) : putA (setK ks) (.inl x) (.bl true) = setK (ks ++ [x]) := by
  rw [putA_new (fun hm => h (by
    unfold setK at hm
    rw [List.map_map] at hm
    obtain ⟨k, hk, e⟩ := List.mem_map.mp hm
    have : k = x := Sum.inl.inj e
    subst this
    exact hk))]
  unfold setK
  rw [List.map_append]; rfl
abbrev Le (NL : List D) (f : Int) (ks w : List Int) (x4 : Slot) : Envi := [.fz (.lst NL), .fz (.int f), .ow (.di (setK ks)), .ow (.li (w.map .int)), x4]
theorem lt_body (NL : List D) (f : Int) (ks w : List Int) (hks : ks.length ≤ 100) (hw : w.length ≤ 100) (y : Int) :
    bd_led_to_1 (Le NL f ks w (.fz (.int y))) = .nx (if y ∈ ks then Le NL f ks w (.fz (.int y)) else Le NL f (ks ++ [y]) (w ++ [y]) (.fz (.int y))) := by
  have h1 := notIn_set y ks
  have h1 : opNotIn (.int y) (.dk ((setK ks).map (·.1)) ((setK ks).map (·.2))) = _ := h1
  by_cases h : y ∈ ks
  · rw [if_pos h]
    rw [decide_eq_true h] at h1
    simp [bd_led_to_1, h1, -List.map_map]
  · rw [if_neg h]
    rw [decide_eq_false h] at h1
    have h2 := put_set h
    have c1 : (setK ks).length < big := by unfold setK; rw [List.length_map]; show ks.length < 16777216; omega
    have c2 : Small w.length := small_of (by omega)
    simp [bd_led_to_1, h1, h2, c1, c2, -List.map_map]
structure LeI (n : Nat) (as : List Ar) (f : Int) (ks w : List Int) : Prop where
  nd : ks.Nodup
  fst : f ∈ ks
  re : ∀ x ∈ ks, Re as f x
  sub : ∀ x ∈ w, x ∈ ks
theorem LeI.len {n : Nat} {as : List Ar} {f : Int} {ks w : List Int} (hw : WebOk n as) (hf : 0 ≤ f ∧ f < (n : Int)) (h : LeI n as f ks w) : ks.length ≤ n := by
  have := nodup_sub (m := intsN n) h.nd fun x hx => mem_intsN.mpr ((h.re x hx).range hw hf)
  rw [ints_len] at this
  exact this
theorem LeI.add {n : Nat} {as : List Ar} {f y : Int} {ks w : List Int} (h : LeI n as f ks w) (hy : y ∉ ks) (hr : Re as f y) : LeI n as f (ks ++ [y]) (w ++ [y]) := by
  refine ⟨List.nodup_append.mpr ⟨h.nd, List.nodup_cons.mpr ⟨List.not_mem_nil, List.nodup_nil⟩, fun a ha b hb e => ?_⟩, List.mem_append_left _ h.fst, fun x hx => ?_, fun x hx => ?_⟩
  · rw [List.mem_singleton] at hb
    subst e; subst hb
    exact hy ha
  · rcases List.mem_append.mp hx with hx | hx
    · exact h.re x hx
    · rw [List.mem_singleton] at hx; subst hx; exact hr
  · rcases List.mem_append.mp hx with hx | hx
    · exact List.mem_append_left _ (h.sub x hx)
    · exact List.mem_append_right _ hx
/-- one thing's arrows gone through -/
theorem lt_inner {n : Nat} {as : List Ar} (hw : WebOk n as) (NL : List D) {f x : Int} (hf : 0 ≤ f ∧ f < (n : Int)) (hx : Re as f x) : ∀ (l ks w : List Int) (x4 : Slot), (∀ y ∈ l, Ed as x y) → LeI n as f ks w → w.length ≤ ks.length →
    ∃ ks' w' y4, runFor (bN 4) bd_led_to_1 (l.map .int) (Le NL f ks w x4) = .nx (Le NL f ks' w' y4) ∧ LeI n as f ks' w' ∧ w'.length + ks.length = ks'.length + w.length ∧ w'.length ≤ ks'.length ∧ (∀ k ∈ ks, k ∈ ks') ∧ (∀ k ∈ w, k ∈ w') ∧ (∀ y ∈ l, y ∈ ks') ∧ (∀ k ∈ ks', k ∈ ks ∨ k ∈ w')
  | [], ks, w, x4, _, hI, hl => ⟨ks, w, x4, rfl, hI, by omega, hl, fun _ h => h, fun _ h => h, (fun _ h => nomatch h), fun _ h => .inl h⟩
  | y :: l, ks, w, x4, he, hI, hl => by
    have h7 := hw.n7
    have hkl := hI.len hw hf
    have hb := lt_body NL f ks w (by omega) (by omega) y
    have hbn : bN 4 (D.int y) (Le NL f ks w x4) = some (Le NL f ks w (.fz (.int y))) := rfl
    by_cases h : y ∈ ks
    · rw [if_pos h] at hb
      obtain ⟨ks', w', y4, e, g1, g2, g2', g3, g4, g5, g6⟩ := lt_inner hw NL hf hx l ks w (.fz (.int y)) (fun z hz => he z (List.mem_cons_of_mem _ hz)) hI hl
      refine ⟨ks', w', y4, by rw [List.map_cons, runFor_nx hbn hb, e], g1, g2, g2', g3, g4, fun z hz => ?_, g6⟩
      rcases List.mem_cons.mp hz with rfl | hz
      · exact g3 _ h
      · exact g5 z hz
    · rw [if_neg h] at hb
      obtain ⟨ks', w', y4, e, g1, g2, g2', g3, g4, g5, g6⟩ := lt_inner hw NL hf hx l (ks ++ [y]) (w ++ [y]) (.fz (.int y)) (fun z hz => he z (List.mem_cons_of_mem _ hz)) (hI.add h (.tail hx (he y List.mem_cons_self))) (by rw [List.length_append, List.length_append]; omega)
      rw [List.length_append, List.length_append] at g2
      refine ⟨ks', w', y4, by rw [List.map_cons, runFor_nx hbn hb, e], g1, by omega, g2', fun k hk => g3 k (List.mem_append_left _ hk), fun k hk => g4 k (List.mem_append_left _ hk), fun z hz => ?_, fun k hk => ?_⟩
      · rcases List.mem_cons.mp hz with rfl | hz
        · exact g3 _ (List.mem_append_right _ List.mem_cons_self)
        · exact g5 z hz
      · rcases g6 k hk with q | q
        · rcases List.mem_append.mp q with q | q
          · exact .inl q
          · rw [List.mem_singleton] at q
            subst q
            exact .inr (g4 _ (List.mem_append_right _ List.mem_cons_self))
        · exact .inr q
theorem lt_loop {n : Nat} {as : List Ar} (hw : WebOk n as) {f : Int} (hf : 0 ≤ f ∧ f < (n : Int)) : ∀ (N : Nat) (ks w : List Int) (x4 : Slot), n + w.length < N + ks.length → LeI n as f ks w → w.length ≤ ks.length → (∀ k ∈ ks, k ∈ w ∨ ∀ y, Ed as k y → y ∈ ks) →
    ∃ ks' y4, runW wt_led_to_2 bd_led_to_3 N (Le ((nextL n as).map lstI) f ks w x4) = .nx (Le ((nextL n as).map lstI) f ks' [] y4) ∧ ∀ y, y ∈ ks' ↔ Re as f y
  | 0, ks, w, x4, hN, hI, hl, hc => by have := hI.len hw hf; omega
  | N + 1, ks, w, x4, hN, hI, hl, hc => by
    have h7 := hw.n7
    have hkl := hI.len hw hf
    rcases List.eq_nil_or_concat w with rfl | ⟨w', x, rfl⟩
    · refine ⟨ks, x4, ?_, fun y => ⟨hI.re y, fun h => h.closed hI.fst fun u hu v he => ?_⟩⟩
      · have q0 : opNe (.lst []) (.lst []) = some (.bl false) := opNe_is (is_lst (iss_nil (α := Int))) (is_lst (iss_nil (α := Int))) (by decide)
        rw [runW_stop (ρ1 := Le ((nextL n as).map lstI) f ks [] x4)]
        simp [wt_led_to_2, q0]
      · rcases hc u hu with h | h
        · cases h
        · exact h v he
    · rw [List.concat_eq_append] at *
      have hxk := hI.sub x (List.mem_append_right _ List.mem_cons_self)
      have hxr := hI.re x hxk
      have hxn := hxr.range hw hf
      have hcx : ((x.toNat : Nat) : Int) = x := Int.toNat_of_nonneg hxn.1
      have hI' : LeI n as f ks w' := ⟨hI.nd, hI.fst, hI.re, fun y hy => hI.sub y (List.mem_append_left _ hy)⟩
      rw [List.length_append, List.length_singleton] at hN hl
      obtain ⟨ks2, w2, y4, e1, g1, g2, g2', g3, g4, g5, g6⟩ := lt_inner hw ((nextL n as).map lstI) hf hxr (nextR x.toNat as) ks w' x4 (fun y hy => by
        have := mem_nextR.mp hy
        rw [hcx] at this
        exact this) hI' (by omega)
      have hk2 := g1.len hw hf
      obtain ⟨ks3, z4, e2, g7⟩ := lt_loop hw hf N ks2 w2 y4 (by omega) g1 g2' (fun k hk => by
        rcases g6 k hk with h | h
        · rcases hc k h with h | h
          · rcases List.mem_append.mp h with h | h
            · exact .inl (g4 k h)
            · rw [List.mem_singleton] at h
              subst h
              exact .inr fun y hy => g5 y (mem_nextR.mpr (by rw [hcx]; exact hy))
          · exact .inr fun y hy => g3 y (h y hy)
        · exact .inl h)
      refine ⟨ks3, z4, ?_, g7⟩
      have q0 : opNe (.lst ((w' ++ [x]).map .int)) (.lst []) = some (.bl true) := by
        rw [opNe_is (is_lst (iss_ints _)) (is_lst (iss_nil (α := Int))) (by decide), decide_eq_false (by simp)]; rfl
      have t1 : wt_led_to_2 (Le ((nextL n as).map lstI) f ks (w' ++ [x]) x4) = .ok true (Le ((nextL n as).map lstI) f ks (w' ++ [x]) x4) := by
        dsimp only [Le]
        generalize (w' ++ [x]).map D.int = W at q0
        simp [wt_led_to_2, q0]
      have t2 : bd_led_to_3 (Le ((nextL n as).map lstI) f ks (w' ++ [x]) x4) = .nx (Le ((nextL n as).map lstI) f ks2 w2 y4) := by
        have p1 := pop_snoc (w'.map .int) (.int x)
        have p2 : (w' ++ [x]).map D.int = w'.map .int ++ [.int x] := by rw [List.map_append]; rfl
        have p3 : opIx (.lst ((nextL n as).map lstI)) (.int x) = some (lstI (nextR x.toNat as)) := next_at hxn
        have p4 : lstOf (lstI (nextR x.toNat as)) = some ((nextR x.toNat as).map .int) := rfl
        dsimp only [Le] at e1 ⊢
        rw [p2]
        generalize (nextL n as).map lstI = NL at *
        generalize (nextR x.toNat as).map D.int = XL at *
        simp [bd_led_to_3, p1, p3, p4, e1, -y_ixL]
      rw [runW_go t1 t2, e2]
theorem fs_led_to_ok {n : Nat} {as : List Ar} (hw : WebOk n as) {f : Int} (hf : 0 ≤ f ∧ f < (n : Int)) : ∃ ks, fs_led_to [.lst ((nextL n as).map lstI), .int f] = .fz (setD ks) ∧ ∀ y, y ∈ ks ↔ Re as f y := by
  obtain ⟨N, hN⟩ : ∃ N : Nat, N = 1000000 := ⟨_, rfl⟩
  have h7 := hw.n7
  obtain ⟨ks, y4, e1, h⟩ := lt_loop hw hf N [f] [f] .un (by simp; omega) ⟨List.nodup_cons.mpr ⟨List.not_mem_nil, List.nodup_nil⟩, List.mem_cons_self, fun x hx => by rw [List.mem_singleton] at hx; subst hx; exact .refl, fun x hx => hx⟩ (Nat.le_refl _) fun k hk => .inl hk
  refine ⟨ks, ?_, h⟩
  rw [hN] at e1
  dsimp only [Le] at e1
  have e1 : runW wt_led_to_2 bd_led_to_3 1000000 [.fz (.lst ((nextL n as).map lstI)), .fz (.int f), .ow (.di [(.inl f, .bl true)]), .ow (.li [.int f]), .un] = _ := e1
  generalize (nextL n as).map lstI = NL at *
  have d2 : ∀ ρ, dsp2 (.dat (.int f)) (.dat (.bl true)) ρ = .ok (.tm (.di [(.inl f, .bl true)])) ρ := fun _ => rfl
  rw [List.map_nil] at e1
  simp only [fs_led_to, fsOf, sem_led_to, initE]
  simp [d2, e1, setD, -List.map_map]
end Fw

set_option Elab.async false
set_option linter.all false
set_option maxRecDepth 100000
set_option maxHeartbeats 2000000
namespace Fw
open PySem PySem.Spec PyProof.Rows L2 Pv
open PySem.W (Datum DatumOrd Tup T3 T4)
theorem parts_ct (W NL A B : D) (FL : List D) (f y : Int) (x4 x5 : Slot) (p q : Bool) (a1 : atI FL f = some A) (a2 : atI FL y = some B) (b1 : opIn (.int y) A = some (.bl p)) (b2 : opIn (.int f) B = some (.bl q)) :
    ct_parts_of_2 [.fz W, .fz NL, .ow (.li FL), .fz (.int f), x4, x5, .fz (.int y)] = .ok (p && q) [.fz W, .fz NL, .ow (.li FL), .fz (.int f), x4, x5, .fz (.int y)] := by
  cases p <;> simp [ct_parts_of_2, a1, a2, b1, b2]
theorem parts_comp {n : Nat} {as : List Ar} {G : Int → List Int} (hG : ∀ f, 0 ≤ f ∧ f < (n : Int) → ∀ y, y ∈ G f ↔ Re as f y) (NL : D) {f : Int} (hf : 0 ≤ f ∧ f < (n : Int)) (x4 x5 : Slot) :
    runComp (bN 6) ct_parts_of_2 (eVar 6) [6] (nats n) [.fz (webD n as), .fz NL, .ow (.li ((intsN n).map fun f => setD (G f))), .fz (.int f), x4, x5, .un] = some ((partL n as f).map .int, [.fz (webD n as), .fz NL, .ow (.li ((intsN n).map fun f => setD (G f))), .fz (.int f), x4, x5, .un]) := by
  classical
  have hat : ∀ y, 0 ≤ y ∧ y < (n : Int) → atI ((intsN n).map fun f => setD (G f)) y = some (setD (G y)) := by
    intro y hy
    have hc : ((y.toNat : Nat) : Int) = y := Int.toNat_of_nonneg hy.1
    have := atI_nat (xs := (intsN n).map fun f => setD (G f)) (j := y.toNat) (v := setD (G y)) (by
      unfold intsN
      rw [List.getElem?_map, List.getElem?_map, List.getElem?_range (by omega)]
      simp [hc])
    rwa [hc] at this
  have hr : partL n as f = (intsN n).filter fun y => decide (y ∈ G f ∧ f ∈ G y) := by
    unfold partL
    refine List.filter_congr fun y hy => decide_eq_decide.mpr ?_
    rw [hG f hf y, hG y (mem_intsN.mp hy) f]; rfl
  rw [nats_intsN, hr, runComp_map (enc := D.int) (F := fun y => if y ∈ G f ∧ f ∈ G y then some (D.int y) else none)]
  · rw [filterMap_ite D.int fun y => y ∈ G f ∧ f ∈ G y]
  · intro y hy
    have h := parts_ct (webD n as) NL _ _ _ f y x4 x5 _ _ (hat f hf) (hat y (mem_intsN.mp hy)) (in_set y (G f)) (in_set f (G y))
    refine ⟨_, rfl, ?_⟩
    by_cases h1 : y ∈ G f ∧ f ∈ G y
    · rw [decide_eq_true h1.1, decide_eq_true h1.2] at h
      exact .inr ⟨h, .int y, _, rfl, if_pos h1, rfl⟩
    · have e : (decide (y ∈ G f) && decide (f ∈ G y)) = false := by
        rw [← Bool.decide_and, decide_eq_false h1]
      rw [e] at h
      exact .inl ⟨h, if_neg h1, rfl⟩
theorem parts_body {n : Nat} {as : List Ar} {G : Int → List Int} (hn : n ≤ 7) (hG : ∀ f, 0 ≤ f ∧ f < (n : Int) → ∀ y, y ∈ G f ↔ Re as f y) (NL : D) {f : Int} (hf : 0 ≤ f ∧ f < (n : Int)) (L : List (List Int)) (hL : L.length ≤ 100) (x5 : Slot) :
    ∃ y5, bd_parts_of_3 [.fz (webD n as), .fz NL, .ow (.li ((intsN n).map fun f => setD (G f))), .fz (.int f), .ow (.li (L.map lstI)), x5, .un] = .nx [.fz (webD n as), .fz NL, .ow (.li ((intsN n).map fun f => setD (G f))), .fz (.int f), .ow (.li ((L ++ partsR n as [f]).map lstI)), y5, .un] := by
  have c1 := parts_comp hG NL hf (.ow (.li (L.map lstI))) x5
  obtain ⟨x, t, e, hx⟩ := head_min (partL_lt n as f) (self_partL hf)
  have hn0 : opIx (webD n as) (.int 0) = some (.int n) := rfl
  have sN : SmallI (n : Nat) := smallI_nat (small_of (by omega))
  have sL : Small L.length := small_of (by omega)
  have hp0 : atI ((partL n as f).map D.int) 0 = some (.int x) := by rw [e]; exact y_at0
  have hP : lstI (partL n as f) = .lst ((partL n as f).map D.int) := rfl
  by_cases h : x = f
  · have e2 : partsR n as [f] = [partL n as f] := by
      unfold partsR
      rw [List.filterMap_cons_some (by rw [if_pos (hx.mp h)])]; rfl
    rw [e2, List.map_append, List.map_cons, List.map_nil, hP]
    refine ⟨.fz (.lst ((partL n as f).map .int)), ?_⟩
    generalize (partL n as f).map D.int = PL at *
    generalize (intsN n).map (fun f => setD (G f)) = FL at *
    simp [bd_parts_of_3, hn0, sN, c1, hp0, h, sL]
  · have e2 : partsR n as [f] = [] := by
      unfold partsR
      rw [List.filterMap_cons_none (by rw [if_neg (fun hh => h (hx.mpr hh))])]; rfl
    rw [e2, List.append_nil]
    refine ⟨.ow (.li ((partL n as f).map .int)), ?_⟩
    generalize (partL n as f).map D.int = PL at *
    generalize (intsN n).map (fun f => setD (G f)) = FL at *
    simp [bd_parts_of_3, hn0, sN, c1, hp0, h, sL]
theorem fs_parts_of_ok {n : Nat} {as : List Ar} (hw : WebOk n as) : fs_parts_of [webD n as] = .fz (.lst ((partsN n as).map lstI)) := by
  classical
  have h7 := hw.n7
  have hex : ∀ f : Int, ∃ ks, (0 ≤ f ∧ f < (n : Int)) → fs_led_to [.lst ((nextL n as).map lstI), .int f] = .fz (setD ks) ∧ ∀ y, y ∈ ks ↔ Re as f y := fun f => by
    by_cases hf : 0 ≤ f ∧ f < (n : Int)
    · obtain ⟨ks, h⟩ := fs_led_to_ok hw hf
      exact ⟨ks, fun _ => h⟩
    · exact ⟨[], fun h => absurd h hf⟩
  let G : Int → List Int := fun f => Classical.choose (hex f)
  have hG1 : ∀ f, 0 ≤ f ∧ f < (n : Int) → fs_led_to [.lst ((nextL n as).map lstI), .int f] = .fz (setD (G f)) := fun f hf => (Classical.choose_spec (hex f) hf).1
  have hG2 : ∀ f, 0 ≤ f ∧ f < (n : Int) → ∀ y, y ∈ G f ↔ Re as f y := fun f hf => (Classical.choose_spec (hex f) hf).2
  generalize G = G at *
  have e1 := fs_next_of_ok hw
  have c1 : runComp (bN 3) tTrue ce_parts_of_1 [3] (nats n) [.fz (webD n as), .fz (.lst ((nextL n as).map lstI)), .un, .un, .un, .un, .un] = some ((intsN n).map fun f => setD (G f), [.fz (webD n as), .fz (.lst ((nextL n as).map lstI)), .un, .un, .un, .un, .un]) := by
    rw [nats_intsN, runComp_map (enc := D.int) (F := fun y => some (setD (G y)))]
    · rw [List.filterMap_eq_map']
    · intro f hf
      have := hG1 f (mem_intsN.mp hf)
      refine ⟨_, rfl, .inr ⟨rfl, _, [.fz (webD n as), .fz (.lst ((nextL n as).map lstI)), .un, .fz (.int f), .un, .un, .un], ?_, rfl, rfl⟩⟩
      generalize (nextL n as).map lstI = NL at *
      simp [ce_parts_of_1, this]
  obtain ⟨ρ', g1, L, x3, y5, rfl, g2⟩ := runFor_rel (b := bN 3) (g := bd_parts_of_3) (enc := D.int)
    (fun l ρ => ∃ L x3 x5, ρ = [.fz (webD n as), .fz (.lst ((nextL n as).map lstI)), .ow (.li ((intsN n).map fun f => setD (G f))), x3, .ow (.li (L.map lstI)), x5, .un] ∧ L ++ partsR n as l = partsN n as ∧ ∀ f ∈ l, 0 ≤ f ∧ f < (n : Int)) (by
      rintro f l ρ ⟨L, x3, x5, rfl, h2, h3⟩
      have hle := congrArg List.length h2
      have hb := partsR_len n as (intsN n)
      rw [ints_len] at hb
      rw [List.length_append] at hle
      have hb : (partsN n as).length ≤ n := hb
      obtain ⟨y5, h⟩ := parts_body h7 hG2 (.lst ((nextL n as).map lstI)) (h3 f List.mem_cons_self) L (by omega) x5
      refine ⟨_, _, rfl, .inl h, _, _, _, rfl, ?_, fun z hz => h3 z (List.mem_cons_of_mem _ hz)⟩
      rw [← h2, partsR_cons n as f l, List.append_assoc]) (intsN n) [.fz (webD n as), .fz (.lst ((nextL n as).map lstI)), .ow (.li ((intsN n).map fun f => setD (G f))), .un, .ow (.li ([].map lstI)), .un, .un] ⟨[], _, _, rfl, rfl, fun f hf => mem_intsN.mp hf⟩
  have g2 : L = partsN n as := by rw [← g2.1]; exact (List.append_nil _).symm
  rw [← nats_intsN] at g1
  rw [← g2]
  rw [List.map_nil] at g1
  have hn0 : opIx (webD n as) (.int 0) = some (.int n) := rfl
  have sN : SmallI (n : Nat) := smallI_nat (small_of (by omega))
  clear g2
  generalize (nextL n as).map lstI = NL at *
  generalize (intsN n).map (fun f => setD (G f)) = FL at *
  generalize L.map lstI = LL at *
  simp only [fs_parts_of, fsOf, sem_parts_of, initE]
  simp [e1, hn0, sN, c1, g1]
def partA (p : List Int) (as : List Ar) : List Ar := (as.filter fun z => decide (z.a ∈ p ∧ z.b ∈ p)).map fun z => ⟨(p.idxOf z.a : Nat), (p.idxOf z.b : Nat), z.c⟩
end Fw

set_option Elab.async false
set_option linter.all false
set_option maxRecDepth 100000
set_option maxHeartbeats 2000000
namespace Fw
open PySem PySem.Spec PyProof.Rows L2 Pv
open PySem.W (Datum DatumOrd Tup T3 T4)
def ltP (x y : Int × Int) : Prop := x.1 < y.1 ∨ (x.1 = y.1 ∧ x.2 < y.2)
def sortP (xs : List (Int × Int)) : List (Int × Int) := xs.mergeSort leD
end Fw

set_option Elab.async false
set_option linter.all false
set_option maxRecDepth 100000
set_option maxHeartbeats 4000000
namespace Fw
open PySem PySem.Spec PyProof.Rows L2 Pv
def wt_divisor_1 : Envi → R Bool :=
  (tsE (eBin opGt (eVar 1) (eC (.int 0))))
def bd_divisor_2 : Sem :=
  (sSeq (sSet 2 (eBin opMod (eVar 0) (eVar 1)))
    (sSeq (sSet 0 (eVar 1))
    (sSet 1 (eVar 2))))
def sem_divisor : Sem :=
  (sSeq (sSet 0 (eCB fAbs (aCons (eVar 0) aNil)))
    (sSeq (sSet 1 (eCB fAbs (aCons (eVar 1) aNil)))
    (sSeq (sWhileN 1000000 wt_divisor_1 bd_divisor_2)
    (sRet (eVar 0)))))
def fs_divisor : List D → Rf := fsOf 3 sem_divisor
def sem_fraction : Sem :=
  (sSeq (sIf (tsE (eBin opLtA (eVar 1) (eC (.int 0)))) (sSeq (sSet 0 (eUn opNeg (eVar 0)))
    (sSet 1 (eUn opNeg (eVar 1)))) sNext)
    (sSeq (sSet 2 (eCall fs_divisor (aCons (eVar 0) (aCons (eVar 1) aNil))))
    (sRet (eTup (aCons (eBin opDiv (eVar 0) (eVar 2)) (aCons (eBin opDiv (eVar 1) (eVar 2)) aNil))))))
def fs_fraction : List D → Rf := fsOf 3 sem_fraction
def sem_plus : Sem :=
  (sRet (eCall fs_fraction (aCons (eBin opAdd (eBin opMul (eBin opIx (eVar 0) (eC (.int 0))) (eBin opIx (eVar 1) (eC (.int 1)))) (eBin opMul (eBin opIx (eVar 1) (eC (.int 0))) (eBin opIx (eVar 0) (eC (.int 1))))) (aCons (eBin opMul (eBin opIx (eVar 0) (eC (.int 1))) (eBin opIx (eVar 1) (eC (.int 1)))) aNil))))
def fs_plus : List D → Rf := fsOf 2 sem_plus
def sem_is_less : Sem :=
  (sRet (eBin opLtA (eBin opMul (eBin opIx (eVar 0) (eC (.int 0))) (eBin opIx (eVar 1) (eC (.int 1)))) (eBin opMul (eBin opIx (eVar 1) (eC (.int 0))) (eBin opIx (eVar 0) (eC (.int 1))))))
def fs_is_less : List D → Rf := fsOf 2 sem_is_less
def bd_is_fraction_1 : Sem :=
  (sIf (tsOr (tsNot (tsE (eCB fIsi (aCons (eVar 1) (aCons (eC (.ty "int")) aNil))))) (tsE (eCB fIsi (aCons (eVar 1) (aCons (eC (.ty "bool")) aNil))))) (sRet (eC (.bl false))) sNext)
def sem_is_fraction : Sem :=
  (sSeq (sIf (tsOr (tsNot (tsE (eCB fIsi (aCons (eVar 0) (aCons (eC (.ty "tuple")) aNil))))) (tsE (eBin opNe (eCB fLen (aCons (eVar 0) aNil)) (eC (.int 2))))) (sRet (eC (.bl false))) sNext)
    (sSeq (sFor (itBy tupOf (eVar 0)) (bN 1) bd_is_fraction_1)
    (sRet (eIf (tsE (eBin opGe (eBin opIx (eVar 0) (eC (.int 0))) (eC (.int 0)))) (eIf (tsE (eBin opGt (eBin opIx (eVar 0) (eC (.int 1))) (eC (.int 0)))) (eBin opEq (eCall fs_divisor (aCons (eBin opIx (eVar 0) (eC (.int 0))) (aCons (eBin opIx (eVar 0) (eC (.int 1))) aNil))) (eC (.int 1))) (eC (.bl false))) (eC (.bl false))))))
def fs_is_fraction : List D → Rf := fsOf 2 sem_is_fraction
def ce_steps_of_1 : Envi → R Hd :=
  (eTup (aCons (eBin opIx (eVar 0) (eBin opSub (eVar 1) (eC (.int 1)))) (aCons (eBin opIx (eVar 0) (eVar 1)) aNil)))
def sem_steps_of : Sem :=
  (sRet (eComp (itRng1 (aCons (eCB fLen (aCons (eVar 0) aNil)) aNil)) (bN 1) tTrue ce_steps_of_1 [1]))
def fs_steps_of : List D → Rf := fsOf 2 sem_steps_of
def ce_is_loop_1 : Envi → R Hd :=
  (eCall fs_between (aCons (eVar 2) (aCons (eC (.int 0)) (aCons (eBin opSub (eVar 0) (eC (.int 1))) aNil))))
def ce_is_loop_2 : Envi → R Hd :=
  (eBin opEq (eMeth (tyD "list") opCountL (eVar 1) (aCons (eVar 2) aNil)) (eC (.int 1)))
def sem_is_loop : Sem :=
  (sSeq (sIf (tsOr (tsNot (tsE (eCB fIsi (aCons (eVar 1) (aCons (eC (.ty "list")) aNil))))) (tsOr (tsE (eBin opEq (eVar 1) (eLst aNil))) (tsNot (tsE (eCB fAll (aCons (eComp (itBy lstOf (eVar 1)) (bN 2) tTrue ce_is_loop_1 [2]) aNil)))))) (sRet (eC (.bl false))) sNext)
    (sRet (eCB fAll (aCons (eComp (itBy lstOf (eVar 1)) (bN 2) tTrue ce_is_loop_2 [2]) aNil))))
def fs_is_loop : List D → Rf := fsOf 3 sem_is_loop
def sem_is_share : Sem :=
  (sSeq (sIf (tsOr (tsNot (tsE (eCB fIsi (aCons (eVar 1) (aCons (eC (.ty "tuple")) aNil))))) (tsOr (tsE (eBin opNe (eCB fLen (aCons (eVar 1) aNil)) (eC (.int 2)))) (tsOr (tsNot (tsE (eCall fs_is_loop (aCons (eVar 0) (aCons (eBin opIx (eVar 1) (eC (.int 0))) aNil))))) (tsE (eBin opNe (eCB fMin (aCons (eBin opIx (eVar 1) (eC (.int 0))) aNil)) (eBin opIx (eBin opIx (eVar 1) (eC (.int 0))) (eC (.int 0)))))))) (sRet (eC (.bl false))) sNext)
    (sRet (eIf (tsE (eCall fs_is_fraction (aCons (eBin opIx (eVar 1) (eC (.int 1))) aNil))) (eBin opGt (eBin opIx (eBin opIx (eVar 1) (eC (.int 1))) (eC (.int 0))) (eC (.int 0))) (eC (.bl false)))))
def fs_is_share : List D → Rf := fsOf 2 sem_is_share
def ce_fit_with_1 : Envi → R Hd :=
  (eCall fs_is_share (aCons (eBin opIx (eVar 0) (eC (.int 0))) (aCons (eVar 3) aNil)))
def ce_fit_with_2 : Envi → R Hd :=
  (eBin opIx (eVar 3) (eC (.int 0)))
def ce_fit_with_3 : Envi → R Hd :=
  (eBin opEq (eMeth (tyD "list") opCountL (eVar 4) (aCons (eVar 5) aNil)) (eC (.int 1)))
def bd_fit_with_4 : Sem :=
  (sIf (tsE (eBin opNotIn (eVar 9) (eVar 1))) (sSeq (sIf (tsE (eBin opNotIn (eVar 9) (eVar 7))) (sRet (eC (.bl false))) sNext)
    (sDPutP 6 okT (eVar 9) (eCall fs_plus (aCons (eDGet3 (eVar 6) (eVar 9) (eTup (aCons (eC (.int 0)) (aCons (eC (.int 1)) aNil)))) (aCons (eVar 8) aNil))))) sNext)
def bd_fit_with_5 : Sem :=
  (sFor (itBy lstOf (eCall fs_steps_of (aCons (eVar 5) aNil))) (bN 9) bd_fit_with_4)
def ce_fit_with_6 : Envi → R Hd :=
  (eCall fs_is_less (aCons (eTup (aCons (eBin opDGet (eVar 7) (eVar 9)) (aCons (eC (.int 1)) aNil))) (aCons (eBin opDGet (eVar 6) (eVar 9)) aNil)))
def sem_fit_with : Sem :=
  (sSeq (sIf (tsOr (tsNot (tsE (eCB fIsi (aCons (eVar 2) (aCons (eC (.ty "list")) aNil))))) (tsNot (tsE (eCB fAll (aCons (eComp (itBy lstOf (eVar 2)) (bN 3) tTrue ce_fit_with_1 [3]) aNil))))) (sRet (eC (.bl false))) sNext)
    (sSeq (sSet 4 (eComp (itBy lstOf (eVar 2)) (bN 3) tTrue ce_fit_with_2 [3]))
    (sSeq (sIf (tsNot (tsE (eCB fAll (aCons (eComp (itBy lstOf (eVar 4)) (bN 5) tTrue ce_fit_with_3 [5]) aNil)))) (sRet (eC (.bl false))) sNext)
    (sSeq (sSet 6 (eNew (.ti [])))
    (sSeq (sSet 7 (eCall fs_weights_of (aCons (eVar 0) aNil)))
    (sSeq (sFor (itBy lstOf (eVar 2)) (bT 2 (bsCons (bN 5) (bsCons (bN 8) bsNil))) bd_fit_with_5)
    (sRet (eOfT (tsNot (tsE (eCB fAny (aCons (eKComp 6 (bN 9) tTrue ce_fit_with_6 [9]) aNil))))))))))))
def fs_fit_with : List D → Rf := fsOf 10 sem_fit_with
def sem_fit : Sem :=
  (sSeq (sDrop (eCall fs_checked (aCons (eVar 0) aNil)))
    (sRet (eCall fs_fit_with (aCons (eVar 0) (aCons (eLst aNil) (aCons (eVar 1) aNil))))))
def fs_fit : List D → Rf := fsOf 2 sem_fit
def bd_come_to_1 : Sem :=
  (sSet 1 (eCall fs_plus (aCons (eVar 1) (aCons (eVar 3) aNil))))
def sem_come_to : Sem :=
  (sSeq (sSet 1 (eTup (aCons (eC (.int 0)) (aCons (eC (.int 1)) aNil))))
    (sSeq (sFor (itBy lstOf (eVar 0)) (bT 2 (bsCons (bN 2) (bsCons (bN 3) bsNil))) bd_come_to_1)
    (sRet (eVar 1))))
def fs_come_to : List D → Rf := fsOf 4 sem_come_to
def wt_L_plus_1 : Envi → R Bool :=
  (tsE (eBin opGt (eVar 5) (eC (.int 0))))
def bd_L_plus_2 : Sem :=
  (sSeq (sSet 6 (eBin opMod (eVar 4) (eVar 5)))
    (sSeq (sSet 4 (eVar 5))
    (sSet 5 (eVar 6))))
def sem_L_plus : Sem :=
  (sSeq (sSet 2 (eBin opAdd (eBin opMul (eBin opIx (eVar 0) (eC (.int 0))) (eBin opIx (eVar 1) (eC (.int 1)))) (eBin opMul (eBin opIx (eVar 1) (eC (.int 0))) (eBin opIx (eVar 0) (eC (.int 1))))))
    (sSeq (sSet 3 (eBin opMul (eBin opIx (eVar 0) (eC (.int 1))) (eBin opIx (eVar 1) (eC (.int 1)))))
    (sSeq (sSet 4 (eVar 2))
    (sSeq (sSet 5 (eVar 3))
    (sSeq (sWhileN 1000000 wt_L_plus_1 bd_L_plus_2)
    (sRet (eTup (aCons (eBin opDiv (eVar 2) (eVar 4)) (aCons (eBin opDiv (eVar 3) (eVar 4)) aNil)))))))))
def fs_L_plus : List D → Rf := fsOf 7 sem_L_plus
def bd_L_is_fraction_1 : Sem :=
  (sIf (tsOr (tsE (eCB fIsi (aCons (eVar 1) (aCons (eC (.ty "bool")) aNil)))) (tsNot (tsE (eCB fIsi (aCons (eVar 1) (aCons (eC (.ty "int")) aNil)))))) (sRet (eC (.bl false))) sNext)
def wt_L_is_fraction_2 : Envi → R Bool :=
  (tsE (eBin opGt (eVar 3) (eC (.int 0))))
def bd_L_is_fraction_3 : Sem :=
  (sSeq (sSet 4 (eBin opMod (eVar 2) (eVar 3)))
    (sSeq (sSet 2 (eVar 3))
    (sSet 3 (eVar 4))))
def sem_L_is_fraction : Sem :=
  (sSeq (sIf (tsOr (tsNot (tsE (eCB fIsi (aCons (eVar 0) (aCons (eC (.ty "tuple")) aNil))))) (tsE (eBin opNe (eCB fLen (aCons (eVar 0) aNil)) (eC (.int 2))))) (sRet (eC (.bl false))) sNext)
    (sSeq (sFor (itBy tupOf (eVar 0)) (bN 1) bd_L_is_fraction_1)
    (sSeq (sIf (tsOr (tsE (eBin opLtA (eBin opIx (eVar 0) (eC (.int 0))) (eC (.int 0)))) (tsE (eBin opLtA (eBin opIx (eVar 0) (eC (.int 1))) (eC (.int 1))))) (sRet (eC (.bl false))) sNext)
    (sSeq (sSet 2 (eBin opIx (eVar 0) (eC (.int 0))))
    (sSeq (sSet 3 (eBin opIx (eVar 0) (eC (.int 1))))
    (sSeq (sWhileN 1000000 wt_L_is_fraction_2 bd_L_is_fraction_3)
    (sRet (eBin opEq (eVar 2) (eC (.int 1))))))))))
def fs_L_is_fraction : List D → Rf := fsOf 5 sem_L_is_fraction
def bd_L_is_loop_1 : Sem :=
  (sSeq (sIf (tsOr (tsE (eCB fIsi (aCons (eVar 2) (aCons (eC (.ty "bool")) aNil)))) (tsOr (tsNot (tsE (eCB fIsi (aCons (eVar 2) (aCons (eC (.ty "int")) aNil))))) (tsNot (tsE (eChain opLe opLtA (eC (.int 0)) (eVar 2) (eVar 0)))))) (sRet (eC (.bl false))) sNext)
    (sIf (tsE (eBin opGt (eMeth (tyD "list") opCountL (eVar 1) (aCons (eVar 2) aNil)) (eC (.int 1)))) (sRet (eC (.bl false))) sNext))
def sem_L_is_loop : Sem :=
  (sSeq (sIf (tsOr (tsNot (tsE (eCB fIsi (aCons (eVar 1) (aCons (eC (.ty "list")) aNil))))) (tsE (eBin opEq (eVar 1) (eLst aNil)))) (sRet (eC (.bl false))) sNext)
    (sSeq (sFor (itBy lstOf (eVar 1)) (bN 2) bd_L_is_loop_1)
    (sRet (eC (.bl true)))))
def fs_L_is_loop : List D → Rf := fsOf 3 sem_L_is_loop
def ce_L_fit_1 : Envi → R Hd :=
  (eTup (aCons (eSl (opSl false) (eVar 6) pNo (pSome (eC (.int 2)))) (aCons (eBin opIx (eVar 6) (eC (.int 2))) aNil)))
def bd_L_fit_2 : Sem :=
  (sSeq (sSet 9 (eTup (aCons (eBin opIx (eBin opIx (eVar 7) (eC (.int 0))) (eVar 8)) (aCons (eBin opIx (eBin opIx (eVar 7) (eC (.int 0))) (eBin opMod (eBin opAdd (eVar 8) (eC (.int 1))) (eCB fLen (aCons (eBin opIx (eVar 7) (eC (.int 0))) aNil)))) aNil))))
    (sIf (tsE (eBin opNotIn (eVar 9) (eVar 1))) (sSeq (sIf (tsE (eBin opNotIn (eVar 9) (eVar 5))) (sRet (eC (.bl false))) sNext)
    (sDPutP 3 okT (eVar 9) (eCall fs_L_plus (aCons (eDGet3 (eVar 3) (eVar 9) (eTup (aCons (eC (.int 0)) (aCons (eC (.int 1)) aNil)))) (aCons (eBin opIx (eVar 7) (eC (.int 1))) aNil))))) sNext))
def bd_L_fit_3 : Sem :=
  (sSeq (sIf (tsOr (tsNot (tsE (eCB fIsi (aCons (eVar 7) (aCons (eC (.ty "tuple")) aNil))))) (tsOr (tsE (eBin opNe (eCB fLen (aCons (eVar 7) aNil)) (eC (.int 2)))) (tsNot (tsE (eCall fs_L_is_loop (aCons (eBin opIx (eVar 0) (eC (.int 0))) (aCons (eBin opIx (eVar 7) (eC (.int 0))) aNil))))))) (sRet (eC (.bl false))) sNext)
    (sSeq (sIf (tsOr (tsE (eBin opIn (eBin opIx (eVar 7) (eC (.int 0))) (eVar 4))) (tsE (eBin opNe (eCB fMin (aCons (eBin opIx (eVar 7) (eC (.int 0))) aNil)) (eBin opIx (eBin opIx (eVar 7) (eC (.int 0))) (eC (.int 0)))))) (sRet (eC (.bl false))) sNext)
    (sSeq (sIf (tsOr (tsNot (tsE (eCall fs_L_is_fraction (aCons (eBin opIx (eVar 7) (eC (.int 1))) aNil)))) (tsE (eBin opEq (eBin opIx (eBin opIx (eVar 7) (eC (.int 1))) (eC (.int 0))) (eC (.int 0))))) (sRet (eC (.bl false))) sNext)
    (sSeq (sDrop (eMut 4 okT "list" muAppend (aCons (eBin opIx (eVar 7) (eC (.int 0))) aNil)))
    (sFor (itRng1 (aCons (eCB fLen (aCons (eBin opIx (eVar 7) (eC (.int 0))) aNil)) aNil)) (bN 8) bd_L_fit_2)))))
def ct_L_fit_4 : Envi → R Bool :=
  (tsE (eBin opGt (eBin opIx (eBin opDGet (eVar 3) (eVar 9)) (eC (.int 0))) (eBin opMul (eBin opDGet (eVar 5) (eVar 9)) (eBin opIx (eBin opDGet (eVar 3) (eVar 9)) (eC (.int 1))))))
def sem_L_fit : Sem :=
  (sSeq (sIf (tsNot (tsE (eCB fIsi (aCons (eVar 2) (aCons (eC (.ty "list")) aNil))))) (sRet (eC (.bl false))) sNext)
    (sSeq (sSet 3 (eNew (.ti [])))
    (sSeq (sSet 4 (eLst aNil))
    (sSeq (sSet 5 (eCB fDictT (aCons (eComp (itBy tupOf (eBin opIx (eVar 0) (eC (.int 1)))) (bN 6) tTrue ce_L_fit_1 [6]) aNil)))
    (sSeq (sFor (itBy lstOf (eVar 2)) (bN 7) bd_L_fit_3)
    (sRet (eBin opEq (eKComp 3 (bN 9) ct_L_fit_4 (eVar 9) [9]) (eLst aNil))))))))
def fs_L_fit : List D → Rf := fsOf 10 sem_L_fit
def bd_L_come_to_1 : Sem :=
  (sSet 1 (eCall fs_L_plus (aCons (eVar 1) (aCons (eBin opIx (eVar 2) (eC (.int 1))) aNil))))
def sem_L_come_to : Sem :=
  (sSeq (sSet 1 (eTup (aCons (eC (.int 0)) (aCons (eC (.int 1)) aNil))))
    (sSeq (sFor (itBy lstOf (eVar 0)) (bN 2) bd_L_come_to_1)
    (sRet (eVar 1))))
def fs_L_come_to : List D → Rf := fsOf 3 sem_L_come_to
def ce_whole_shares_1 : Envi → R Hd :=
  (eBin opDGet (eVar 1) (eVar 5))
def bd_whole_shares_2 : Sem :=
  (sDPutP 1 okT (eVar 5) (eBin opSub (eBin opDGet (eVar 1) (eVar 5)) (eVar 4)))
def bd_whole_shares_3 : Sem :=
  (sSeq (sSet 4 (eCB fMin (aCons (eComp (itBy lstOf (eCall fs_steps_of (aCons (eVar 3) aNil))) (bN 5) tTrue ce_whole_shares_1 [5]) aNil)))
    (sIf (tsE (eBin opGt (eVar 4) (eC (.int 0)))) (sSeq (sDrop (eMut 2 okT "list" muAppend (aCons (eTup (aCons (eVar 3) (aCons (eTup (aCons (eVar 4) (aCons (eC (.int 1)) aNil))) aNil))) aNil)))
    (sFor (itBy lstOf (eCall fs_steps_of (aCons (eVar 3) aNil))) (bN 5) bd_whole_shares_2)) sNext))
def sem_whole_shares : Sem :=
  (sSeq (sDrop (eCall fs_checked (aCons (eVar 0) aNil)))
    (sSeq (sSet 1 (eCall fs_weights_of (aCons (eVar 0) aNil)))
    (sSeq (sSet 2 (eLst aNil))
    (sSeq (sFor (itBy lstOf (eCall fs_rings_of (aCons (eVar 0) aNil))) (bN 3) bd_whole_shares_3)
    (sRet (eVar 2))))))
def fs_whole_shares : List D → Rf := fsOf 6 sem_whole_shares
def sem_minus : Sem :=
  (sRet (eCall fs_fraction (aCons (eBin opSub (eBin opMul (eBin opIx (eVar 0) (eC (.int 0))) (eBin opIx (eVar 1) (eC (.int 1)))) (eBin opMul (eBin opIx (eVar 1) (eC (.int 0))) (eBin opIx (eVar 0) (eC (.int 1))))) (aCons (eBin opMul (eBin opIx (eVar 0) (eC (.int 1))) (eBin opIx (eVar 1) (eC (.int 1)))) aNil))))
def fs_minus : List D → Rf := fsOf 2 sem_minus
def sem_times : Sem :=
  (sRet (eCall fs_fraction (aCons (eBin opMul (eBin opIx (eVar 0) (eC (.int 0))) (eBin opIx (eVar 1) (eC (.int 0)))) (aCons (eBin opMul (eBin opIx (eVar 0) (eC (.int 1))) (eBin opIx (eVar 1) (eC (.int 1)))) aNil))))
def fs_times : List D → Rf := fsOf 2 sem_times
def sem_over : Sem :=
  (sRet (eCall fs_fraction (aCons (eBin opMul (eBin opIx (eVar 0) (eC (.int 0))) (eBin opIx (eVar 1) (eC (.int 1)))) (aCons (eBin opMul (eBin opIx (eVar 0) (eC (.int 1))) (eBin opIx (eVar 1) (eC (.int 0)))) aNil))))
def fs_over : List D → Rf := fsOf 2 sem_over
end Fw

set_option Elab.async false
set_option linter.all false
set_option maxRecDepth 100000
set_option maxHeartbeats 2000000
namespace Pv
open PySem PySem.Spec PyProof.Rows L2
/-- more turns than a desk has -/
def deskN : Nat := 2 ^ 2000
def slE (k : Nat) (d : D) (ρ2 : Envi) (l : List D) : Option Nat → Fl
  | some j => .nx (ρ2.set k (.ow (.li (l.set j d))))
  | none => .stuck
def slD (k : Nat) (d : D) (i : Int) (ρ2 : Envi) : Option Slot → Fl
  | some (.ow (.li l)) => slE k d ρ2 l (ixN l.length i)
  | _ => .stuck
def slC (k : Nat) (d : D) (y : Hd) (ρ2 : Envi) : Fl := match y with
  | .dat (.int i) => slD k d i ρ2 ρ2[k]?
  | _ => .stuck
def slB (k : Nat) (g : Envi → R Hd) (d : D) (ρ1 : Envi) : Option Slot → Fl
  | some (.ow _) => (eMat g ρ1).toFl (slC k d)
  | _ => .stuck
def slA (k : Nat) (ok : Envi → Bool) (g : Envi → R Hd) (x : Hd) (ρ1 : Envi) : Fl := match x with
  | .dat d => if ok ρ1 = true then slB k g d ρ1 ρ1[k]? else .stuck
  | _ => .stuck
def sSetLP (k : Nat) (ok : Envi → Bool) (g e : Envi → R Hd) : Sem := fun ρ => (eMat e ρ).toFl (slA k ok g)
section
variable {ρ : Envi} {k : Nat} {d : D} {g e : Envi → R Hd} {ok : Envi → Bool}
end
section
variable {P : Pr} {m : Bool} {W : WX} {to te tb : TE} {g e : Envi → R Hd}
end
end Pv

set_option Elab.async false
set_option linter.all false
set_option maxRecDepth 100000
set_option maxHeartbeats 2000000
namespace Pv
open PySem PySem.Spec PyProof.Rows L2
def ItzM (K : PySem.W.Frag) (a b : Addr) (xs ys : List V) : It :=
  ⟨fun i H => (SqT K H a xs ∧ SqL K H b ys) ∧ i < min xs.length ys.length,
   fun i H v H' => ∃ t x y, v = V.ref t ∧ H t = none ∧ H' = upd H t (.tup [x, y]) ∧ xs[i]? = some x ∧ ys[i]? = some y,
   fun i H => (SqT K H a xs ∧ SqL K H b ys) ∧ min xs.length ys.length ≤ i⟩
def TnM (m : Nat) (z ti to j1 j2 a b : Addr) (i : Nat) (h : Heap) : Prop :=
  i ≤ m ∧ IsZip h z ti to .none ∧ IsTupOf2 h ti (.ref j1) (.ref j2) ∧ (∃ u v, IsTupOf2 h to u v) ∧ h.IsTupleIter j1 a i ∧ h.IsListIter j2 b i
def iZipM (K : PySem.W.Frag) (ta : TA) : TI := fun σ H R => ta σ H fun vs H1 => ∃ a b xs ys, vs = [V.ref a, V.ref b] ∧ (SqT K H1 a xs ∧ SqL K H1 b ys) ∧ R (ItzM K a b xs ys) H1
def zipMK (hs : List Hd) (ρ1 : Envi) : R (List D) := match hs with
  | [.dat d, .dat e] => match tupOf d, lstOf e with
    | some ds, some es => .ok (zipD ds es) ρ1
    | _, _ => .stuck
  | _ => .stuck
def itZipM (fa : Envi → R (List Hd)) : Envi → R (List D) := fun ρ => (fa ρ).bind zipMK
section
variable {P : Pr} {m : Bool} {W : WX} {n : Nat} {tr : TA} {fa : Envi → R (List Hd)}
end
end Pv

set_option Elab.async false
set_option linter.all false
set_option maxRecDepth 100000
set_option maxHeartbeats 4000000
namespace Fw
open PySem PySem.Spec PyProof.Rows L2 Pv
abbrev fns_Desk : List Str := ["width", "rows", "base", "last"]
def ce_Desk_init_1 : Envi → R Hd :=
  (eBin opIx (eLst (aCons (eC (.ktup ([0, 1].map D.int))) (aCons (eC (.ktup ([1, 1].map D.int))) aNil))) (eCB fInt (aCons (eBin opIn (eSl (opSl false) (eVar 5) pNo (pSome (eC (.int 2)))) (eCall fs_steps_of (aCons (eVar 7) aNil))) aNil)))
def ce_Desk_init_2 : Envi → R Hd :=
  (eBin opIx (eLst (aCons (eC (.ktup ([0, 1].map D.int))) (aCons (eC (.ktup ([1, 1].map D.int))) aNil))) (eCB fInt (aCons (eBin opEq (eVar 8) (eVar 4)) aNil)))
def bd_Desk_init_3 : Sem :=
  (sSeq (sSet 6 (eComp (itBy lstOf (eVar 2)) (bN 7) tTrue ce_Desk_init_1 [7]))
    (sSeq (sDrop (eMut 6 okT "list" muExtend (aCons (eComp (itRng1 (aCons (eCB fLen (aCons (eVar 3) aNil)) aNil)) (bN 8) tTrue ce_Desk_init_2 [8]) aNil)))
    (sDrop (eMut 10 (isSelf 0) "list" muAppend (aCons (eBin opAdd (eVar 6) (eLst (aCons (eTup (aCons (eBin opIx (eVar 5) (eC (.int 2))) (aCons (eC (.int 1)) aNil))) aNil))) aNil)))))
def ce_Desk_init_4 : Envi → R Hd :=
  (eBin opAdd (eCB fLen (aCons (eVar 2) aNil)) (eVar 8))
def ce_Desk_init_5 : Envi → R Hd :=
  (eTup (aCons (eUn opNeg (eC (.int 1))) (aCons (eC (.int 1)) aNil)))
def ce_Desk_init_6 : Envi → R Hd :=
  (eC (.ktup ([0, 1].map D.int)))
def sem_Desk_init : Sem :=
  (sSeq (sSet 3 (eBin opIx (eVar 1) (eC (.int 1))))
    (sSeq (sSetF 0 9 (eBin opAdd (eCB fLen (aCons (eVar 2) aNil)) (eCB fLen (aCons (eVar 3) aNil))))
    (sSeq (sSetF 0 10 (eLst aNil))
    (sSeq (sFor (itEnumT (aCons (eMat (eVar 3)) aNil)) (bT 2 (bsCons (bN 4) (bsCons (bN 5) bsNil))) bd_Desk_init_3)
    (sSeq (sSetF 0 11 (eComp (itRng1 (aCons (eCB fLen (aCons (eVar 3) aNil)) aNil)) (bN 8) tTrue ce_Desk_init_4 [8]))
    (sSetF 0 12 (eBin opAdd (eBin opAdd (eComp (itBy lstOf (eVar 2)) (bN 7) tTrue ce_Desk_init_5 [7]) (eComp (itBy tupOf (eVar 3)) (bN 5) tTrue ce_Desk_init_6 [5])) (eLst (aCons (eC (.ktup ([0, 1].map D.int))) aNil)))))))))
def fm_Desk_init : List Slot → List D → Option (D × List Slot) := fmOf 9 sem_Desk_init
def bd_Desk_leaving_1 : Sem :=
  (sIf (tsE (eCall fs_is_less (aCons (eC (.ktup ([0, 1].map D.int))) (aCons (eBin opIx (eVar 4) (eVar 1)) aNil)))) (sSeq (sSet 5 (eCall fs_over (aCons (eBin opIx (eVar 4) (eUn opNeg (eC (.int 1)))) (aCons (eBin opIx (eVar 4) (eVar 1)) aNil))))
    (sIf (tsOr (tsE (eBin opIs (eVar 2) (eC .non))) (tsOr (tsE (eCall fs_is_less (aCons (eVar 5) (aCons (eBin opIx (eVar 2) (eC (.int 0))) aNil)))) (tsAnd (tsE (eBin opEq (eVar 5) (eBin opIx (eVar 2) (eC (.int 0))))) (tsE (eBin opLtA (eBin opIx (eFld 0 8) (eVar 3)) (eBin opIx (eFld 0 8) (eBin opIx (eVar 2) (eC (.int 1))))))))) (sSet 2 (eTup (aCons (eVar 5) (aCons (eVar 3) aNil)))) sNext)) sNext)
def sem_Desk_leaving : Sem :=
  (sSeq (sSet 2 (eC .non))
    (sSeq (sFor (itEnumL (aCons (eMat (eFld 0 7)) aNil)) (bT 2 (bsCons (bN 3) (bsCons (bN 4) bsNil))) bd_Desk_leaving_1)
    (sRet (eBin opIx (eVar 2) (eC (.int 1))))))
def fm_Desk_leaving : List Slot → List D → Option (D × List Slot) := fmOf 6 sem_Desk_leaving
def ce_Desk_without_1 : Envi → R Hd :=
  (eCall fs_minus (aCons (eVar 5) (aCons (eCall fs_times (aCons (eVar 4) (aCons (eVar 6) aNil))) aNil)))
def sem_Desk_without : Sem :=
  (sSeq (sSet 4 (eBin opIx (eVar 1) (eVar 2)))
    (sSeq (sIf (tsE (eBin opEq (eVar 4) (eC (.ktup ([0, 1].map D.int))))) (sRet (eVar 1)) sNext)
    (sRet (eComp (itZipA (aCons (eMat (eVar 1)) (aCons (eMat (eVar 3)) aNil))) (bT 2 (bsCons (bN 5) (bsCons (bN 6) bsNil))) tTrue ce_Desk_without_1 [5, 6]))))
def fm_Desk_without : List Slot → List D → Option (D × List Slot) := fmOf 7 sem_Desk_without
def ce_Desk_turn_1 : Envi → R Hd :=
  (eCall fs_over (aCons (eVar 5) (aCons (eVar 3) aNil)))
def ce_Desk_turn_2 : Envi → R Hd :=
  (eSelf 0 7 fm_Desk_without (aCons (eMat (eVar 6)) (aCons (eMat (eVar 1)) (aCons (eMat (eVar 4)) aNil))))
def sem_Desk_turn : Sem :=
  (sSeq (sSet 2 (eSelf 0 7 fm_Desk_leaving (aCons (eMat (eVar 1)) aNil)))
    (sSeq (sSet 3 (eBin opIx (eBin opIx (eFld 0 8) (eVar 2)) (eVar 1)))
    (sSeq (sSet 4 (eComp (itBy lstOf (eBin opIx (eFld 0 8) (eVar 2))) (bN 5) tTrue ce_Desk_turn_1 [5]))
    (sSeq (sSetF 0 8 (eComp (itBy lstOf (eFld 0 8)) (bN 6) tTrue ce_Desk_turn_2 [6]))
    (sSeq (sSetLP 8 (isSelf 0) (eVar 2) (eVar 4))
    (sSeq (sSetF 0 10 (eSelf 0 7 fm_Desk_without (aCons (eMat (eFld 0 10)) (aCons (eMat (eVar 1)) (aCons (eMat (eVar 4)) aNil)))))
    (sSetLP 9 (isSelf 0) (eVar 2) (eVar 1))))))))
def fm_Desk_turn : List Slot → List D → Option (D × List Slot) := fmOf 7 sem_Desk_turn
def ct_Desk_go_1 : Envi → R Bool :=
  (tsE (eCall fs_is_less (aCons (eBin opIx (eFld 0 6) (eVar 2)) (aCons (eC (.ktup ([0, 1].map D.int))) aNil))))
def ct_Desk_go_2 : Envi → R Bool :=
  (tsE (eCall fs_is_less (aCons (eBin opIx (eFld 0 6) (eVar 2)) (aCons (eC (.ktup ([0, 1].map D.int))) aNil))))
def wt_Desk_go_3 : Envi → R Bool :=
  (tsE (eBin opNe (eVar 1) (eLst aNil)))
def bd_Desk_go_4 : Sem :=
  (sSeq (sDrop (eSelf 0 3 fm_Desk_turn (aCons (eMat (eBin opIx (eVar 1) (eC (.int 0)))) aNil)))
    (sSet 1 (eComp (itRng1 (aCons (eFld 0 3) aNil)) (bN 2) ct_Desk_go_2 (eVar 2) [2])))
def sem_Desk_go : Sem :=
  (sSeq (sSet 1 (eComp (itRng1 (aCons (eFld 0 3) aNil)) (bN 2) ct_Desk_go_1 (eVar 2) [2]))
    (sWhileN deskN wt_Desk_go_3 bd_Desk_go_4))
def fm_Desk_go : List Slot → List D → Option (D × List Slot) := fmOf 3 sem_Desk_go
def bd_greatest_1 : Sem :=
  (sIf (tsAnd (tsE (eBin opLtA (eVar 5) (eCB fLen (aCons (eVar 1) aNil)))) (tsE (eBin opNe (eBin opIx (eBin opIx (eFld 2 7) (eVar 4)) (eUn opNeg (eC (.int 1)))) (eC (.ktup ([0, 1].map D.int)))))) (sDrop (eMut 3 okT "list" muAppend (aCons (eTup (aCons (eBin opIx (eVar 1) (eVar 5)) (aCons (eBin opIx (eBin opIx (eFld 2 7) (eVar 4)) (eUn opNeg (eC (.int 1)))) aNil))) aNil))) sNext)
def sem_greatest : Sem :=
  (sSeq (sDrop (eCall fs_checked (aCons (eVar 0) aNil)))
    (sSeq (sIf (tsE (eBin opGt (eBin opIx (eVar 0) (eC (.int 0))) (eC (.int 5)))) (sRaise .tooBig) sNext)
    (sSeq (sSet 1 (eCall fs_rings_of (aCons (eVar 0) aNil)))
    (sLet 2 6 4 fm_Desk_init (aCons (eVar 0) (aCons (eVar 1) aNil))
    (sSeq (sDrop (eSelf 2 6 fm_Desk_go aNil))
    (sSeq (sSet 3 (eLst aNil))
    (sSeq (sFor (itEnumL (aCons (eMat (eFld 2 8)) aNil)) (bT 2 (bsCons (bN 4) (bsCons (bN 5) bsNil))) bd_greatest_1)
    (sRet (eTup (aCons (eBin opIx (eFld 2 9) (eUn opNeg (eC (.int 1)))) (aCons (eCB fSorted (aCons (eVar 3) aNil)) (aCons (eSl (opSl false) (eFld 2 9) (pSome (eCB fLen (aCons (eVar 1) aNil))) (pSome (eUn opNeg (eC (.int 1))))) aNil))))))))))))
def fs_greatest : List D → Rf := fsOf 6 sem_greatest
def bd_together_1 : Sem :=
  (sSet 2 (eCall fs_plus (aCons (eVar 2) (aCons (eCall fs_times (aCons (eTup (aCons (eBin opIx (eVar 3) (eC (.int 2))) (aCons (eC (.int 1)) aNil))) (aCons (eVar 4) aNil))) aNil))))
def sem_together : Sem :=
  (sSeq (sSet 2 (eC (.ktup ([0, 1].map D.int))))
    (sSeq (sFor (itZipM (aCons (eMat (eBin opIx (eVar 0) (eC (.int 1)))) (aCons (eMat (eVar 1)) aNil))) (bT 2 (bsCons (bN 3) (bsCons (bN 4) bsNil))) bd_together_1)
    (sRet (eVar 2))))
def fs_together : List D → Rf := fsOf 5 sem_together
def bd_along_1 : Sem :=
  (sIf (tsE (eBin opIn (eSl (opSl false) (eVar 4) pNo (pSome (eC (.int 2)))) (eCall fs_steps_of (aCons (eVar 2) aNil)))) (sSet 3 (eCall fs_plus (aCons (eVar 3) (aCons (eVar 5) aNil)))) sNext)
def sem_along : Sem :=
  (sSeq (sSet 3 (eC (.ktup ([0, 1].map D.int))))
    (sSeq (sFor (itZipM (aCons (eMat (eBin opIx (eVar 0) (eC (.int 1)))) (aCons (eMat (eVar 1)) aNil))) (bT 2 (bsCons (bN 4) (bsCons (bN 5) bsNil))) bd_along_1)
    (sRet (eVar 3))))
def fs_along : List D → Rf := fsOf 6 sem_along
def ce_are_parts_1 : Envi → R Hd :=
  (eCall fs_is_fraction (aCons (eVar 3) aNil))
def ce_are_parts_2 : Envi → R Hd :=
  (eCall fs_is_less (aCons (eC (.ktup ([1, 1].map D.int))) (aCons (eVar 3) aNil)))
def ce_are_parts_3 : Envi → R Hd :=
  (eCall fs_is_less (aCons (eCall fs_along (aCons (eVar 0) (aCons (eVar 2) (aCons (eVar 4) aNil)))) (aCons (eC (.ktup ([1, 1].map D.int))) aNil)))
def sem_are_parts : Sem :=
  (sSeq (sDrop (eCall fs_checked (aCons (eVar 0) aNil)))
    (sSeq (sIf (tsOr (tsNot (tsE (eCB fIsi (aCons (eVar 2) (aCons (eC (.ty "list")) aNil))))) (tsOr (tsE (eBin opNe (eCB fLen (aCons (eVar 2) aNil)) (eCB fLen (aCons (eBin opIx (eVar 0) (eC (.int 1))) aNil)))) (tsNot (tsE (eCB fAll (aCons (eComp (itBy lstOf (eVar 2)) (bN 3) tTrue ce_are_parts_1 [3]) aNil)))))) (sRet (eC (.bl false))) sNext)
    (sSeq (sIf (tsOr (tsE (eCB fAny (aCons (eComp (itBy lstOf (eVar 2)) (bN 3) tTrue ce_are_parts_2 [3]) aNil))) (tsE (eBin opNe (eCall fs_together (aCons (eVar 0) (aCons (eVar 2) aNil))) (eVar 1)))) (sRet (eC (.bl false))) sNext)
    (sRet (eOfT (tsNot (tsE (eCB fAny (aCons (eComp (itBy lstOf (eCall fs_rings_of (aCons (eVar 0) aNil))) (bN 4) tTrue ce_are_parts_3 [4]) aNil)))))))))
def fs_are_parts : List D → Rf := fsOf 5 sem_are_parts
end Fw

set_option Elab.async false
set_option linter.all false
set_option maxRecDepth 100000
set_option maxHeartbeats 2000000
namespace Pv
open PySem PySem.Spec PyProof.Rows L2
section
variable {X : Cx}
def rCatH (K : PySem.W.Frag) : R2 := fun x y H Q => ∃ a b xs ys, x = V.ref a ∧ y = V.ref b ∧ SqT K H a xs ∧ SqT K H b ys ∧ xs.length + ys.length ≤ sizeLine ∧ xs ≠ [] ∧ ys ≠ [] ∧ ∀ p, H p = none → Q (.ref p) (upd H p (.tup (xs ++ ys)))
end
def opAddH (a b : D) : Option D := match tupOf a, tupOf b with
  | some xs, some ys => if xs.length + ys.length ≤ big ∧ xs ≠ [] ∧ ys ≠ [] then some (.tup (xs ++ ys)) else none
  | _, _ => none
end Pv

set_option Elab.async false
set_option linter.all false
set_option maxRecDepth 100000
set_option maxHeartbeats 4000000
namespace Fw
open PySem PySem.Spec PyProof.Rows L2 Pv
def ce_with_arrow_1 : Envi → R Hd :=
  (eBin opAddH (eVar 5) (eTupF (aCons (eBin opDGet (eVar 4) (eVar 5)) aNil)))
def sem_with_arrow : Sem :=
  (sSeq (sDrop (eCall fs_checked (aCons (eVar 0) aNil)))
    (sSeq (sIf (tsOr (tsNot (tsE (eCall fs_between (aCons (eVar 1) (aCons (eC (.int 0)) (aCons (eBin opSub (eBin opIx (eVar 0) (eC (.int 0))) (eC (.int 1))) aNil)))))) (tsOr (tsNot (tsE (eCall fs_between (aCons (eVar 2) (aCons (eC (.int 0)) (aCons (eBin opSub (eBin opIx (eVar 0) (eC (.int 0))) (eC (.int 1))) aNil)))))) (tsE (eBin opEq (eVar 1) (eVar 2))))) (sRaise .noNumber) sNext)
    (sSeq (sIf (tsNot (tsE (eCall fs_between (aCons (eVar 3) (aCons (eC (.int 1)) (aCons (eC (.int 99)) aNil)))))) (sRaise .noNumber) sNext)
    (sSeq (sSet 4 (eCall fs_weights_of (aCons (eVar 0) aNil)))
    (sSeq (sDPutP 4 okT (eTup (aCons (eVar 1) (aCons (eVar 2) aNil))) (eBin opAdd (eDGet3 (eVar 4) (eTup (aCons (eVar 1) (aCons (eVar 2) aNil))) (eC (.int 0))) (eVar 3)))
    (sSeq (sIf (tsE (eBin opGt (eBin opDGet (eVar 4) (eTup (aCons (eVar 1) (aCons (eVar 2) aNil)))) (eC (.int 99)))) (sRaise .tooBig) sNext)
    (sRet (eTup (aCons (eBin opIx (eVar 0) (eC (.int 0))) (aCons (eCB fTup (aCons (eCB fSorted (aCons (eKComp 4 (bN 5) tTrue ce_with_arrow_1 [5]) aNil)) aNil)) aNil))))))))))
def fs_with_arrow : List D → Rf := fsOf 6 sem_with_arrow
end Fw

set_option Elab.async false
set_option linter.all false
set_option maxRecDepth 100000
namespace L2
open PySem PySem.Spec PyProof.Rows
def tOrE (t t' : TE) : TE := fun σ H Q => t σ H Q ∨ t' σ H Q
theorem mt_indexDK {X : Cx} {K : PySem.W.Frag} (hu : X.A.units + 65 < cLine) (hK : X.K = K := by rfl) : MtR X "list.index" (rIndexD K) := by subst hK; exact mt_indexD hu
theorem pe_bmK {X : Cx} {K : PySem.W.Frag} {o e : Expr} {es : List Expr} {name : Str} {T id : String} {apos cpos : Pos} {r : V → List V → Hp → VK → Prop} {to : TE} {t : TA} (pa : PlainAttrs T) (slot : Slot T name id) (hty : typeOf (.builtin id) = pure (.type "method_descriptor")) (hm : MtR X id r) (ho : PE X o to) (ha : PA X (e :: es) t) (hK : X.K = K := by rfl)
    (hbase : attributeBase o name X.env (eval o X.env) = eval o X.env := by rfl)
    (hfew : ((backTo cpos (starEach (e :: es) X.env)).all (fun x => !x.1) && (backToKw cpos (keywordEach [] X.env)).all (fun x => x.1.isSome)
      && decide ((e :: es).length + ([] : List Keyword).length + (if ([] : List Keyword).isEmpty then 0 else 1) < 30)) = true := by rfl)
    (hline : (apos.endLine == cpos.line) = true := by rfl) (hs : starEach (e :: es) X.env = (false, eval e X.env) :: starEach es X.env := by rfl) (hplain : (backTo cpos (starEach es X.env)).any (·.1) = false := by rfl) :
    PE X (.Call (.Attribute o name apos) (e :: es) [] cpos) (tBM K T r to t) := by
  subst hK
  exact pe_bm pa slot hty hm ho ha hbase hfew hline hs hplain
end L2
namespace Pv
open PySem PySem.Spec PyProof.Rows L2
def kcpC (b : Bnd) (c : Envi → R Bool) (e : Envi → R Hd) (vs : List Nat) (ds : List D) (ρ : Envi) : R Hd := opt3 (runComp b c e vs ds (wipeE ρ vs))
def eKCompP (i : Nat) (okp : Envi → Bool) (b : Bnd) (c : Envi → R Bool) (e : Envi → R Hd) (vs : List Nat) : Envi → R Hd := fun ρ => match ρ[i]? with
  | some (.ow o) => match keysD o with
    | some ds => if (shortK o && okp (ρ.set i (.fz o.toD))) = true then opt3 (runComp b c e vs ds (wipeE (ρ.set i (.fz o.toD)) vs)) else .stuck
    | none => .stuck
  | _ => .stuck
section
variable {P : Pr} {m : Bool} {W : WX} {te ta tb : TE} {f : Envi → R Hd} {B F0 F H : Hp} {σ : L2.St} {ob : Ob} {ρ : Envi} {K : PySem.W.Frag}
def Lk (F F' : Hp) : Prop := ∀ b x, F b = some x → F' b = some x ∨ ∃ od, F' b = some (.frz od x) ∧ (∀ vs, x ≠ .tup vs) ∧ (∀ vs, x ≠ .lst vs) ∧ ∀ od u, x ≠ .frz od u
def cutH (F : Hp) (a : Addr) : Hp := fun b => if b = a then none else F b
def shortL (ks : List (List Key)) : Bool := ks.all fun k => decide (k.length ≤ 100)
def keysF : D → Option (List D)
  | .dk ks _ => some (ks.map dOfK)
  | .dt ks _ => if shortL ks = true then some (ks.map fun k => .tup (k.map dOfK)) else none
  | _ => none
def fkC (b : Bnd) (c : Envi → R Bool) (e : Envi → R Hd) (vs : List Nat) (ρ : Envi) : Option (List D) → R Hd
  | some ds => opt3 (runComp b c e vs ds (wipeE ρ vs))
  | none => .stuck
def fkA (b : Bnd) (c : Envi → R Bool) (e : Envi → R Hd) (vs : List Nat) (ρ : Envi) : Option Slot → R Hd
  | some (.fz d) => fkC b c e vs ρ (keysF d)
  | _ => .stuck
def eFKComp (i : Nat) (b : Bnd) (c : Envi → R Bool) (e : Envi → R Hd) (vs : List Nat) : Envi → R Hd := fun ρ => fkA b c e vs ρ ρ[i]?
def dictKeys : D → Option (List D)
  | .dk ks _ => some (ks.map dOfK)
  | .dt ks _ => if shortL ks = true then some (ks.map fun k => .tup (k.map dOfK)) else none
  | _ => none
def fListK (ds : List D) : Rf := match ds with
  | [d] => match dictKeys d with
    | some es => .ow (.li es)
    | none => .stuck
  | _ => .stuck
def rListK : List V → Hp → VK → Prop := fun xs H Q => (∃ (a : Addr) (kvs : List (Key × V)), xs = [.ref a] ∧ Rd H a (.dK kvs) ∧ ∀ p, H p = none → Q (.ref p) (upd H p (.lst (kvs.map fun kv => kV kv.1)))) ∨
  ∃ d kvs, xs = [V.ref d] ∧ Rd H d (.dT kvs) ∧ ∀ p bs, H p = none → IsKeys H kvs bs → Q (.ref p) (upd H p (.lst (bs.map V.ref)))
end

def ItOkB (K : PySem.W.Frag) (J : It) (F B : Hp) (ds : List D) : Prop := ∀ F2 H2, Same F F2 → Same F2 H2 → Same B H2 →
  (∀ i d, ds[i]? = some d → J.go i H2 ∧ ∀ x H3, J.yld i H2 x H3 → ∃ F3, Grow F2 H2 F3 H3 ∧ Rep K F3 x d) ∧ ∀ i, ds.length ≤ i → J.stop i H2
section
variable {P : Pr} {m : Bool} {W : WX} {te ta tb : TE} {f : Envi → R Hd} {B F0 F H : Hp} {σ : L2.St} {ob : Ob} {ρ : Envi} {K : PySem.W.Frag}
def lcC (i : Nat) (o : Own) : Option (List D × Envi) → R Hd
  | some (l, ρ) => .ok (.tm (.li l)) (ρ.set i (.ow o))
  | none => .stuck
def lcB (i : Nat) (okp : Envi → Bool) (b : Bnd) (c : Envi → R Bool) (e : Envi → R Hd) (vs : List Nat) (ρ : Envi) (o : Own) : Option (List D) → R Hd
  | some ds => if (shortK o && okp (ρ.set i .un)) = true then lcC i o (runComp b c e vs ds (wipeE (ρ.set i .un) vs)) else .stuck
  | none => .stuck
def lcA (i : Nat) (okp : Envi → Bool) (b : Bnd) (c : Envi → R Bool) (e : Envi → R Hd) (vs : List Nat) (ρ : Envi) : Option Slot → R Hd
  | some (.ow o) => lcB i okp b c e vs ρ o (keysD o)
  | _ => .stuck
def eLComp (i : Nat) (okp : Envi → Bool) (b : Bnd) (c : Envi → R Bool) (e : Envi → R Hd) (vs : List Nat) : Envi → R Hd := fun ρ => lcA i okp b c e vs ρ ρ[i]?
end
section
variable {i : Nat} {okp : Envi → Bool} {b : Bnd} {c : Envi → R Bool} {e : Envi → R Hd} {vs : List Nat} {ρ : Envi} {o : Own}
end
def scal : D → Bool
  | .non => true
  | .bl _ => true
  | .int _ => true
  | .str _ => true
  | _ => false
def flatO : Own → Bool
  | .li l => l.all scal
  | .di l => l.all fun x => scal x.2
  | .ti l => l.all fun x => scal x.2
def lendRf (ρ : Envi) : Rf → R Hd
  | .fz d => if scal d = true then .ok (.dat d) ρ else .stuck
  | .ow o => if flatO o = true then .ok (.tm o) ρ else .stuck
  | .exc c => .exc c ρ
  | .stuck => .stuck
def callLK (fs : List D → Rf) (hs : List Hd) (ρ : Envi) : R Hd := match derefAll ρ hs with
  | some ds => lendRf ρ (fs ds)
  | none => .stuck
def eCallL (fs : List D → Rf) (g : Envi → R (List Hd)) : Envi → R Hd := fun ρ => (g ρ).bind (callLK fs)
def sRetO (k : Nat) : Sem := fun ρ => match ρ[k]? with
  | some (.ow o) => .ret (.ow o) (ρ.set k .un)
  | _ => .stuck
section
variable {P : Pr} {m : Bool} {W : WX} {te ta tb : TE} {f : Envi → R Hd} {B F0 F H : Hp} {σ : L2.St} {ob : Ob} {ρ : Envi} {K : PySem.W.Frag} {n : Nat} {tr : TA} {fa : Envi → R (List Hd)}
end
def roK (k : Nat) (ρ : Envi) : Option Slot → Fl
  | some (.ow o) => .ret (.ow o) (ρ.set k .un)
  | _ => .stuck
section
variable {ρ : Envi} {k : Nat} {fs : List D → Rf} {hs : List Hd}
end
end Pv

set_option Elab.async false
set_option linter.all false
set_option maxRecDepth 100000
set_option maxHeartbeats 4000000
namespace Fw
open PySem PySem.Spec PyProof.Rows L2 Pv
abbrev fns_Keeper : List Str := ["row", "taken"]
def sem_Keeper_init : Sem :=
  (sSeq (sSetF 0 2 (eLRg1 (eVar 1)))
    (sSetF 0 3 (eNew (.ti []))))
def fm_Keeper_init : List Slot → List D → Option (D × List Slot) := fmOf 2 sem_Keeper_init
def bd_Keeper_led_1 : Sem :=
  (sIf (tsAnd (tsE (eBin opEq (eVar 6) (eVar 5))) (tsE (eBin opNotIn (eVar 7) (eVar 3)))) (sSeq (sDPutP 3 okT (eVar 7) (eVar 5))
    (sDrop (eMut 4 okT "list" muAppend (aCons (eVar 7) aNil)))) sNext)
def wt_Keeper_led_2 : Envi → R Bool :=
  (tsE (eBin opNe (eVar 4) (eLst aNil)))
def bd_Keeper_led_3 : Sem :=
  (sSeq (sSet 5 (eMut 4 okT "list" muPopAt (aCons (eC (.int 0)) aNil)))
    (sFor (itBy lstOf (eVar 2)) (bT 2 (bsCons (bN 6) (bsCons (bN 7) bsNil))) bd_Keeper_led_1))
def sem_Keeper_led : Sem :=
  (sSeq (sSet 3 (eDisp1 (eVar 1) (eC .non)))
    (sSeq (sSet 4 (eLst (aCons (eVar 1) aNil)))
    (sSeq (sWhileN 1000000 wt_Keeper_led_2 bd_Keeper_led_3)
    (sRet (eVar 3)))))
def fm_Keeper_led : List Slot → List D → Option (D × List Slot) := fmOf 8 sem_Keeper_led
def wt_Keeper_ring_by_1 : Envi → R Bool :=
  (tsE (eBin opIsNot (eBin opDGet (eVar 2) (eBin opIx (eVar 3) (eUn opNeg (eC (.int 1))))) (eC .non)))
def bd_Keeper_ring_by_2 : Sem :=
  (sDrop (eMut 3 okT "list" muAppend (aCons (eBin opDGet (eVar 2) (eBin opIx (eVar 3) (eUn opNeg (eC (.int 1))))) aNil)))
def sem_Keeper_ring_by : Sem :=
  (sSeq (sSet 3 (eLst (aCons (eVar 1) aNil)))
    (sSeq (sWhileN 1000000 wt_Keeper_ring_by_1 bd_Keeper_ring_by_2)
    (sRet (eBin opAdd (eSl (opSl false) (eVar 3) pNo (pSome (eC (.int 1)))) (eUn opRevL (eSl (opSl false) (eVar 3) (pSome (eC (.int 1))) pNo))))))
def fm_Keeper_ring_by : List Slot → List D → Option (D × List Slot) := fmOf 4 sem_Keeper_ring_by
def ct_Keeper_change_1 : Envi → R Bool :=
  (tsE (eBin opIs (eBin opDGet (eVar 2) (eVar 4)) (eC .non)))
def ce_Keeper_change_2 : Envi → R Hd :=
  (eTup (aCons (eVar 9) (aCons (eVar 8) aNil)))
def ct_Keeper_change_3 : Envi → R Bool :=
  (tsE (eBin opIn (eVar 4) (eVar 7)))
def ct_Keeper_change_4 : Envi → R Bool :=
  (tsE (eBin opIn (eVar 4) (eVar 2)))
def ce_Keeper_change_5 : Envi → R Hd :=
  (eMeth (tyD "list") opIndexL (eFld 0 14) (aCons (eVar 4) aNil))
def bd_Keeper_change_6 : Sem :=
  (sSetLP 14 (isSelf 0) (eVar 13) (eVar 4))
def sem_Keeper_change : Sem :=
  (sSeq (sSet 3 (eBin opIx (eFKComp 2 (bN 4) ct_Keeper_change_1 (eVar 4) [4]) (eC (.int 0))))
    (sSeq (sSet 5 (eMeth (tyD "list") opIndexL (eFld 0 14) (aCons (eVar 3) aNil)))
    (sSeq (sSet 6 (eMeth (tyD "list") opIndexL (eFld 0 14) (aCons (eVar 1) aNil)))
    (sSeq (sSet 7 (eSelf 0 14 fm_Keeper_led (aCons (eMat (eVar 1)) (aCons (eMat (eLComp 15 (isSelf 0) (bT 2 (bsCons (bN 8) (bsCons (bN 9) bsNil))) tTrue ce_Keeper_change_2 [8, 9])) aNil))))
    (sSeq (sSet 10 (eComp (itBy lstOf (eSl (opSl false) (eFld 0 14) (pSome (eVar 5)) pNo)) (bN 4) ct_Keeper_change_3 (eVar 4) [4]))
    (sSeq (sSet 11 (eComp (itBy lstOf (eSl (opSl false) (eFld 0 14) pNo (pSome (eBin opAdd (eVar 6) (eC (.int 1)))))) (bN 4) ct_Keeper_change_4 (eVar 4) [4]))
    (sSeq (sSet 12 (eCB fSorted (aCons (eComp (itBy lstOf (eBin opAdd (eVar 10) (eVar 11))) (bN 4) tTrue ce_Keeper_change_5 [4]) aNil)))
    (sFor (itZipA (aCons (eMat (eVar 12)) (aCons (eMat (eBin opAdd (eVar 10) (eVar 11))) aNil))) (bT 2 (bsCons (bN 13) (bsCons (bN 4) bsNil))) bd_Keeper_change_6))))))))
def fm_Keeper_change : List Slot → List D → Option (D × List Slot) := fmOf 14 sem_Keeper_change
def sem_Keeper_come : Sem :=
  (sSeq (sIf (tsE (eBin opLtA (eMeth (tyD "list") opIndexL (eFld 0 4) (aCons (eVar 1) aNil)) (eMeth (tyD "list") opIndexL (eFld 0 4) (aCons (eVar 2) aNil)))) (sSeq (sDPutP 5 (isSelf 0) (eTup (aCons (eVar 1) (aCons (eVar 2) aNil))) (eC (.bl true)))
    (sRet (eTupF (aCons (eC (.str "fits")) aNil)))) sNext)
    (sSeq (sSet 3 (eSelf 0 4 fm_Keeper_led (aCons (eMat (eVar 2)) (aCons (eMat (eCB fListK (aCons (eFld 0 5) aNil))) aNil))))
    (sSeq (sIf (tsE (eBin opIn (eVar 1) (eVar 3))) (sRet (eTup (aCons (eMat (eC (.str "ring"))) (aCons (eMat (eSelf 0 4 fm_Keeper_ring_by (aCons (eMat (eVar 1)) (aCons (eMat (eVar 3)) aNil)))) aNil)))) sNext)
    (sSeq (sDrop (eSelf 0 4 fm_Keeper_change (aCons (eMat (eVar 1)) (aCons (eMat (eVar 3)) aNil))))
    (sSeq (sDPutP 5 (isSelf 0) (eTup (aCons (eVar 1) (aCons (eVar 2) aNil))) (eC (.bl true)))
    (sRet (eTup (aCons (eC (.str "moved")) (aCons (eCB fTup (aCons (eFld 0 4) aNil)) aNil)))))))))
def fm_Keeper_come : List Slot → List D → Option (D × List Slot) := fmOf 4 sem_Keeper_come
def ce_is_pair_1 : Envi → R Hd :=
  (eCall fs_between (aCons (eVar 2) (aCons (eC (.int 0)) (aCons (eBin opSub (eVar 1) (eC (.int 1))) aNil))))
def sem_is_pair : Sem :=
  (sSeq (sIf (tsOr (tsNot (tsE (eCB fIsi (aCons (eVar 0) (aCons (eC (.ty "tuple")) aNil))))) (tsOr (tsE (eBin opNe (eCB fLen (aCons (eVar 0) aNil)) (eC (.int 2)))) (tsNot (tsE (eCB fAll (aCons (eComp (itBy tupOf (eVar 0)) (bN 2) tTrue ce_is_pair_1 [2]) aNil)))))) (sRet (eC (.bl false))) sNext)
    (sRet (eBin opNe (eBin opIx (eVar 0) (eC (.int 0))) (eBin opIx (eVar 0) (eC (.int 1))))))
def fs_is_pair : List D → Rf := fsOf 3 sem_is_pair
def ce_all_come_1 : Envi → R Hd :=
  (eCall fs_is_pair (aCons (eVar 2) (aCons (eVar 0) aNil)))
def ce_all_come_2 : Envi → R Hd :=
  (eSelf 3 5 fm_Keeper_come (aCons (eMat (eBin opIx (eVar 2) (eC (.int 0)))) (aCons (eMat (eBin opIx (eVar 2) (eC (.int 1)))) aNil)))
def sem_all_come : Sem :=
  (sSeq (sIf (tsNot (tsE (eCall fs_between (aCons (eVar 0) (aCons (eC (.int 1)) (aCons (eC (.int 12)) aNil)))))) (sRaise .noNumber) sNext)
    (sSeq (sIf (tsOr (tsNot (tsE (eCB fIsi (aCons (eVar 1) (aCons (eC (.ty "list")) aNil))))) (tsOr (tsE (eBin opGt (eCB fLen (aCons (eVar 1) aNil)) (eC (.int 60)))) (tsNot (tsE (eCB fAll (aCons (eComp (itBy lstOf (eVar 1)) (bN 2) tTrue ce_all_come_1 [2]) aNil)))))) (sRaise .noArrows) sNext)
    (sLet 3 5 2 fm_Keeper_init (aCons (eVar 0) aNil)
    (sSeq (sSet 4 (eComp (itBy lstOf (eVar 1)) (bN 2) tTrue ce_all_come_2 [2]))
    (sRet (eTup (aCons (eVar 4) (aCons (eCB fTup (aCons (eFld 3 5) aNil)) aNil))))))))
def fs_all_come : List D → Rf := fsOf 5 sem_all_come
def sem_kept : Sem :=
  (sRet (eBin opIx (eCall fs_all_come (aCons (eVar 0) (aCons (eVar 1) aNil))) (eC (.int 0))))
def fs_kept : List D → Rf := fsOf 2 sem_kept
def sem_row_behind : Sem :=
  (sRet (eBin opIx (eCall fs_all_come (aCons (eVar 0) (aCons (eVar 1) aNil))) (eC (.int 1))))
def fs_row_behind : List D → Rf := fsOf 2 sem_row_behind
def bd_L_pairs_1 : Sem :=
  (sSeq (sSet 7 (eBin opMod (eBin opMul (eBin opAdd (eBin opAdd (eVar 4) (eBin opMul (eBin opMul (eC (.int 104729)) (eVar 6)) (eVar 6))) (eBin opMul (eC (.int 7919)) (eVar 6))) (eC (.int 48271))) (eC (.int 2147483647))))
    (sSeq (sSet 8 (eBin opMod (eBin opDiv (eVar 7) (eC (.int 7))) (eVar 2)))
    (sSeq (sSet 9 (eBin opMod (eBin opDiv (eVar 7) (eC (.int 997))) (eVar 2)))
    (sIf (tsE (eBin opNe (eVar 8) (eVar 9))) (sDrop (eMut 5 okT "list" muAppend (aCons (eTup (aCons (eVar 8) (aCons (eVar 9) aNil))) aNil))) sNext))))
def sem_L_pairs : Sem :=
  (sSeq (sSet 4 (eCall fs_L_mixed (aCons (eVar 0) (aCons (eVar 1) (aCons (eBin opPow (eC (.int 10)) (eC (.int 9))) aNil)))))
    (sSeq (sSet 5 (eLst aNil))
    (sSeq (sFor (itRng1 (aCons (eCall fs_L_mixed (aCons (eVar 0) (aCons (eBin opAdd (eVar 1) (eC (.int 1))) (aCons (eBin opAdd (eVar 3) (eC (.int 1))) aNil)))) aNil)) (bN 6) bd_L_pairs_1)
    (sRet (eVar 5)))))
def fs_L_pairs : List D → Rf := fsOf 10 sem_L_pairs
end Fw

set_option Elab.async false
set_option linter.all false
set_option maxRecDepth 100000
set_option maxHeartbeats 4000000
namespace Fw
open PySem PySem.Spec PyProof.Rows L2 Pv
def ct_put_1 : Envi → R Bool :=
  (tsE (eBin opNe (eVar 4) (eVar 1)))
def sem_put : Sem :=
  (sSeq (sSet 3 (eCB fTup (aCons (eComp (itBy tupOf (eVar 0)) (bN 4) ct_put_1 (eVar 4) [4]) aNil)))
    (sRet (eBin opAdd (eBin opAdd (eSl (opSl true) (eVar 3) pNo (pSome (eVar 2))) (eTupF (aCons (eVar 1) aNil))) (eSl (opSl true) (eVar 3) (pSome (eVar 2)) pNo))))
def fs_put : List D → Rf := fsOf 5 sem_put
def sem_moved : Sem :=
  (sSeq (sDrop (eCall fs_need_row (aCons (eVar 0) (aCons (eVar 1) aNil))))
    (sSeq (sIf (tsOr (tsNot (tsE (eCall fs_between (aCons (eVar 2) (aCons (eC (.int 0)) (aCons (eBin opSub (eBin opIx (eVar 0) (eC (.int 0))) (eC (.int 1))) aNil)))))) (tsNot (tsE (eCall fs_between (aCons (eVar 3) (aCons (eC (.int 0)) (aCons (eBin opSub (eBin opIx (eVar 0) (eC (.int 0))) (eC (.int 1))) aNil))))))) (sRaise .noNumber) sNext)
    (sRet (eCall fs_put (aCons (eVar 1) (aCons (eVar 2) (aCons (eVar 3) aNil)))))))
def fs_moved : List D → Rf := fsOf 4 sem_moved
def bd_best_move_1 : Sem :=
  (sSeq (sSet 5 (eCall fs_put (aCons (eVar 1) (aCons (eVar 3) (aCons (eVar 4) aNil)))))
    (sSeq (sSet 6 (eCall fs_weight_of (aCons (eVar 0) (aCons (eVar 5) aNil))))
    (sIf (tsOr (tsE (eBin opIs (eVar 2) (eC .non))) (tsE (eBin opLtA (eVar 6) (eBin opIx (eVar 2) (eC (.int 0)))))) (sSet 2 (eTup (aCons (eVar 6) (aCons (eVar 5) aNil)))) sNext)))
def bd_best_move_2 : Sem :=
  (sFor (itRng1 (aCons (eBin opIx (eVar 0) (eC (.int 0))) aNil)) (bN 4) bd_best_move_1)
def sem_best_move : Sem :=
  (sSeq (sSet 2 (eC .non))
    (sSeq (sFor (itRng1 (aCons (eBin opIx (eVar 0) (eC (.int 0))) aNil)) (bN 3) bd_best_move_2)
    (sRet (eBin opIx (eVar 2) (eC (.int 1))))))
def fs_best_move : List D → Rf := fsOf 7 sem_best_move
def sem_is_settled : Sem :=
  (sSeq (sDrop (eCall fs_need_row (aCons (eVar 0) (aCons (eVar 1) aNil))))
    (sRet (eBin opEq (eCall fs_weight_of (aCons (eVar 0) (aCons (eCall fs_best_move (aCons (eVar 0) (aCons (eVar 1) aNil))) aNil))) (eCall fs_weight_of (aCons (eVar 0) (aCons (eVar 1) aNil))))))
def fs_is_settled : List D → Rf := fsOf 2 sem_is_settled
def wt_better_1 : Envi → R Bool :=
  (tsE (eBin opLtA (eCall fs_weight_of (aCons (eVar 0) (aCons (eVar 3) aNil))) (eCall fs_weight_of (aCons (eVar 0) (aCons (eBin opIx (eVar 2) (eUn opNeg (eC (.int 1)))) aNil)))))
def bd_better_2 : Sem :=
  (sSeq (sDrop (eMut 2 okT "list" muAppend (aCons (eVar 3) aNil)))
    (sSet 3 (eCall fs_best_move (aCons (eVar 0) (aCons (eVar 3) aNil)))))
def sem_better : Sem :=
  (sSeq (sDrop (eCall fs_need_row (aCons (eVar 0) (aCons (eVar 1) aNil))))
    (sSeq (sSet 2 (eLst (aCons (eVar 1) aNil)))
    (sSeq (sSet 3 (eCall fs_best_move (aCons (eVar 0) (aCons (eVar 1) aNil))))
    (sSeq (sWhileN 1000000 wt_better_1 bd_better_2)
    (sRet (eVar 2))))))
def fs_better : List D → Rf := fsOf 4 sem_better
end Fw

set_option Elab.async false
set_option linter.all false
set_option maxRecDepth 100000
namespace L2
open PySem PySem.Spec PyProof.Rows
def rMulStr : R2 := fun x y H Q => ∃ (t : Str) (n : Int), x = .str t ∧ y = .int n ∧ (n = 0 ∨ n = 1) ∧ Q (.str (if n = 0 then Str.empty else t)) H
end L2
namespace L2
open PySem PySem.Spec PyProof.Rows
/-- what named clauses wish of an exception of the body, one after the other -/
def wManyAs (K : PySem.W.Frag) (Wout : WX) (D : Ends) : List (Value × Nat × (Addr → Value → Option Addr → TS)) → WX
  | [] => Wout
  | (c, i, ts) :: r => fun cls d σ H => ∃ b, PySem.W.exmOne K cls c = some b ∧
      (b = true → ∀ a, H a = none → ts a cls d { nx := fun σ' H' => D.nx (σ'.set i none) H', rt := D.rt, bk := fun σ' H' => D.bk (σ'.set i none) H', ct := fun σ' H' => D.ct (σ'.set i none) H' } (σ.set i (some (.ref a))) H) ∧
      (b = false → wManyAs K Wout D r cls d σ H)
def tManyAs (K : PySem.W.Frag) (Wout : WX) (l : List (Value × Nat × (Addr → Value → Option Addr → TS))) (tb : WX → TS) : TS := fun D σ H => tb (wManyAs K Wout D l) D σ H
inductive HdsAs (X : Cx) : List ExceptHandler → List (Value × Nat × (Addr → Value → Option Addr → TS)) → Prop
  | nil : HdsAs X [] []
  | cons {x n : Str} {c : Value} {i : Nat} {ts : Addr → Value → Option Addr → TS} {b₀ : Stmt} {suite : List Stmt} {np pos' : Pos} {hds : List ExceptHandler} {l : List (Value × Nat × (Addr → Value → Option Addr → TS))} (hc : Names X x c)
      (hi : X.N[i]? = some n) (hln : X.env.kindOf n = some .local)
      (hsu : ∀ (a : Addr) (oe : Obj) (cls : Value) (d : Option Addr) (pn : List (Addr × Obj)), Zc cls d oe → (∃ vs, oe.data = .fields vs) → PSs (X.suite a ((a, oe) :: pn)) (b₀ :: suite) (ts a cls d)) (r : HdsAs X hds l) :
      HdsAs X (.ExceptHandler (some (.Name x np)) (some n) (b₀ :: suite) pos' :: hds) ((c, i, ts) :: l)
section
variable {X : Cx} {body : List Stmt} {h₀ : ExceptHandler} {hds : List ExceptHandler} {l : List (Value × Nat × (Addr → Value → Option Addr → TS))} {pos : Pos} {tb : WX → TS} {Wout : WX}
end
end L2
namespace Pv
open PySem PySem.Spec PyProof.Rows L2
def opMulS (a b : D) : Option D := match a, b with
  | .str t, .int n => if n = 0 then some (.str Str.empty) else if n = 1 then some (.str t) else none
  | _, _ => none
section
variable {P : Pr} {m : Bool} {W Wout : WX} {B F0 F H : Hp} {σ : L2.St} {ob : Ob} {ρ : Envi} {D : Ends}
end
end Pv

set_option Elab.async false
set_option linter.all false
set_option maxRecDepth 100000
namespace L2
open PySem PySem.Spec PyProof.Rows
/-- the promise goes with the address -/
def HeldS (P : Program) (w : World) (K : PySem.W.Frag) (mg : Str → Option Value) (base : Heap) (k : Nat) (f : Addr) (sp : Sp) : Prop :=
  ∃ (k' : Nat) (fd : FuncData) (ps : List Str), k' ≤ k ∧ FnOk P w K mg base (L2.CX P w) k' f fd ps sp ∧ PySem.W.keepIn K (.ref f) = true ∧ Binds K fd ps []
def tCallH (S : Addr → Option Sp) (E : St → XK) (tg : TE) (t : TA) : TE := fun σ H Q => tg σ H fun x H1 => ∃ f sp, x = .ref f ∧ S f = some sp ∧ t σ H1 fun vs H2 => sp vs H2 Q (E σ)
theorem pe_callH {X : Cx} {k : Nat} {S : Addr → Option Sp} {E : St → XK} {g e : Expr} {es : List Expr} {pos : Pos} {tg : TE} {t : TA} (A : ∀ f sp, S f = some sp → HeldS X.prog X.w X.K X.mg X.base k f sp) (hr : Room k X.A) (hx : ∀ σ, PassesAt (L2.CX X.prog X.w) X σ (E σ)) (hg : PE X g tg) (ha : PA X (e :: es) t)
    (heq : eval (.Call g (e :: es) [] pos) X.env = (do callWith pos (← eval g X.env) [] (backTo pos (starEach (e :: es) X.env)) (backToKw pos (keywordEach [] X.env))) := by rfl)
    (he : starEach (e :: es) X.env = (false, eval e X.env) :: starEach es X.env := by rfl) (hpl : (backTo pos (starEach es X.env)).any (·.1) = false := by rfl) :
    PE X (.Call g (e :: es) [] pos) (tCallH S E tg t) := by
  refine ⟨fun pins s σ H Q I h => ?_⟩
  rw [heq]
  refine wpAny_bind (thn (hg.run pins s σ H _ I h) fun u s1 ⟨x, H1, I1, r1, f, sp, ex, hS, q1⟩ => ?_)
  subst ex
  cases r1
  obtain ⟨k', fd, ps, hk, F, kp, hb⟩ := A f sp hS
  refine PySem.W.callWith_K (h₀ := X.base) I.ok.mod.kin kp (thn (ha.run pos pins s1 σ H1 _ I1 q1) fun us s2 ⟨vs, H2, I2, r, q⟩ => ⟨I2.kIn, ?_⟩) he hpl
  exact run_fnS F (hr.mono hk) hb (hx σ) I2 r q
end L2
namespace Pv
open PySem PySem.Spec PyProof.Rows L2
section
variable {P : Pr} {m : Bool} {W : WX} {tg : TE} {g : Envi → R Hd} {tr : TA} {fa : Envi → R (List Hd)} {n : Nat} {ρ : Envi}
abbrev Tbl := Addr → Option (List D → Rf)
def spTb (K : PySem.W.Frag) (ec : Exc → Value) (n : Nat) (tb : Tbl) : Addr → Option Sp := fun f => (tb f).map (spF K ec n)
def chF (tb : Tbl) (fa : Envi → R (List Hd)) (ρ : Envi) : Option (List D → Rf) → R Hd
  | some fs => eCall fs fa ρ
  | none => .stuck
def chK (tb : Tbl) (fa : Envi → R (List Hd)) : Hd → Envi → R Hd
  | .dat (.adr f), ρ => chF tb fa ρ (tb f)
  | _, _ => .stuck
@[simp] theorem y_chF {tb : Tbl} {fa : Envi → R (List Hd)} {fs : List D → Rf} : chF tb fa ρ (some fs) = eCall fs fa ρ := id rfl
@[simp] theorem y_chK {tb : Tbl} {fa : Envi → R (List Hd)} {f : Addr} : chK tb fa (.dat (.adr f)) ρ = chF tb fa ρ (tb f) := id rfl
def eCallH (tb : Tbl) (g : Envi → R Hd) (fa : Envi → R (List Hd)) : Envi → R Hd := fun ρ => (eMat g ρ).bind (chK tb fa)
@[simp] theorem y_callH {tb : Tbl} : eCallH tb g fa ρ = (eMat g ρ).bind (chK tb fa) := id rfl
theorem snd_callH {tb : Tbl} (hg : SndE P m W tg g) (h : SndA P m W n tr fa) : SndE P m W (tCallH (spTb P.K P.ec n tb) (WE W) tg tr) (eCallH tb g fa) := fun B F0 F H σ ob ρ Q w q => by
  refine snd_mat hg B F0 F H σ ob ρ _ w (Post.of_bind q ?_)
  rintro k ρ1 B1 F1 H1 ob1 x w1 s1 i1 r q
  unfold chK at q
  split at q
  · rename_i _ f
    obtain ⟨rfl, r⟩ := r
    cases r
    cases e : tb f with
    | none => rw [e] at q; exact q.elim
    | some fs =>
      rw [e] at q
      refine ⟨f, spF P.K P.ec n fs, rfl, by unfold spTb; rw [e]; rfl, ?_⟩
      have q : Post P _ F0 F σ ob m W (RelE P _ σ) Q (eCall fs fa ρ1) := q
      exact snd_call (fs := fs) h _ F0 F1 H1 σ ob1 ρ1 Q w1 (q.shift s1 i1)
  · exact q.elim
end
end Pv

namespace Pv
open PySem PySem.Spec PyProof.Rows L2
section
def tAs1 (K : PySem.W.Frag) (cv : Value) (i : Nat) (ts : Addr → Value → Option Addr → TS) (Wout : WX) (tb : WX → TS) : TS := fun D σ H => tb (wAs K cv i ts Wout D) D σ H
variable {X : Cx} {x n : Str} {c : Value} {i : Nat} {body suite : List Stmt} {b₀ : Stmt} {np pos pos' : Pos} {tb : WX → TS} {ts : Addr → Value → Option Addr → TS} {Wout : WX}
end
end Pv
namespace Pv
open PySem PySem.Spec PyProof.Rows L2
def tStuck : TS := fun _ _ _ => False
theorem pss_stuck {X : Cx} {ss : List Stmt} : PSs X ss tStuck := ⟨fun _ _ _ _ _ _ h => h.elim⟩
def sStuck : Sem := fun _ => .stuck
theorem snd_stuck {P : Pr} {W : WX} : SndS P W tStuck sStuck := fun _ _ _ _ _ _ _ _ _ q => q
def opRep (a b : D) : Option D := match a, b with
  | .lst xs, .int k => if 0 ≤ k ∧ k < 1000 ∧ xs.length ≤ 1000 then some (.lst (List.replicate k.toNat xs).flatten) else none
  | _, _ => none
theorem reps_rep {K : PySem.W.Frag} {F : Hp} {vs : List V} {xs : List D} (h : Reps K F vs xs) : ∀ n : Nat, Reps K F (List.replicate n vs).flatten (List.replicate n xs).flatten
  | 0 => .nil
  | n + 1 => by
    rw [List.replicate_succ, List.replicate_succ, List.flatten_cons, List.flatten_cons]
    exact h.append (reps_rep h n)
theorem flat_len {α : Type} (l : List α) : ∀ n : Nat, (List.replicate n l).flatten.length = n * l.length
  | 0 => by simp
  | n + 1 => by
    rw [List.replicate_succ, List.flatten_cons, List.length_append, flat_len l n, Nat.succ_mul, Nat.add_comm]
theorem os_rep {K : PySem.W.Frag} : OpS K rRep opRep := fun F H x y a b c Q s ra rb e q => by
  unfold opRep at e
  split at e
  · rename_i xs k
    split at e
    · rename_i h
      cases e
      obtain ⟨h0, h1, h2⟩ := h
      obtain ⟨p, vs, rfl, g1, g2, g3⟩ := ra.dlist s
      have l1 := g3.length
      have hz : vs.length * k.toNat ≤ 1000 * 1000 := Nat.mul_le_mul (by omega) (by omega)
      refine ⟨p, k, vs, rfl, rb.int, g1, by omega, by omega, by rw [← big_line]; exact Nat.le_trans hz (by decide), fun r hr => ?_⟩
      refine q _ _ _ (.new (.refl _ _) hr) (.lst upd_same ?_ ((reps_rep g3 _).mono (same_new (s.free hr))))
      rw [flat_len, Nat.mul_comm, ← big_line]
      exact Nat.le_trans hz (by decide)
    · cases e
  · cases e
end Pv
namespace L2
open PySem PySem.Spec PyProof.Rows Pv
theorem mt_countDK {X : Cx} {K : PySem.W.Frag} (hu : X.A.units + 65 < cLine) (hK : X.K = K := by rfl) : MtR X "list.count" (rCountD K) := by subst hK; exact mt_countD hu
end L2

set_option maxHeartbeats 4000000
namespace K24
open PySem PySem.Spec PyProof.Rows L2 Pv Fw
def topS (i : Nat) : Stmt := PySem.Challenge.pw_fewturned_k24_refused.main.body.getD i (.Pass ⟨0, 0, 0, 0⟩)
abbrev s_is_whole : Stmt := topS 11
abbrev s_between : Stmt := topS 12
abbrev s_is_arrow : Stmt := topS 13
abbrev s_is_web : Stmt := topS 14
abbrev s_checked : Stmt := topS 15
abbrev s_need_row : Stmt := topS 16
abbrev s_turned : Stmt := topS 18
abbrev s_weight : Stmt := topS 20
abbrev s_weights_of : Stmt := topS 21
abbrev s_turned_about : Stmt := topS 22
abbrev s_joined : Stmt := topS 23
abbrev s_with_arrow : Stmt := topS 24
abbrev s_moved : Stmt := topS 27
abbrev s_is_settled : Stmt := topS 29
abbrev s_better : Stmt := topS 30
abbrev s_least_of : Stmt := topS 43
abbrev s_least : Stmt := topS 44
abbrev s_count_best : Stmt := topS 45
abbrev s_sure : Stmt := topS 46
abbrev s_next_of : Stmt := topS 48
abbrev s_rings_of : Stmt := topS 50
abbrev s_rings : Stmt := topS 51
abbrev s_ring : Stmt := topS 52
abbrev s_is_free : Stmt := topS 53
abbrev s_fit : Stmt := topS 59
abbrev s_whole_shares : Stmt := topS 61
abbrev s_paper : Stmt := topS 69
abbrev s_shows : Stmt := topS 71
abbrev s_greatest : Stmt := topS 76
abbrev s_are_parts : Stmt := topS 79
abbrev s_is_pair : Stmt := topS 83
abbrev s_all_come : Stmt := topS 84
abbrev s_kept : Stmt := topS 85
abbrev s_row_behind : Stmt := topS 86
abbrev s_led_to : Stmt := topS 88
abbrev s_parts_of : Stmt := topS 89
abbrev s_parts : Stmt := topS 90
abbrev s_part_web : Stmt := topS 91
abbrev s_text_of : Stmt := topS 93
abbrev s_shown : Stmt := topS 94
abbrev s_L_cell_at : Stmt := topS 96
abbrev s_L_mixed : Stmt := topS 97
abbrev s_L_web : Stmt := topS 98
abbrev s_L_row : Stmt := topS 99
abbrev s_L_with_web : Stmt := topS 100
abbrev s_L_with_row : Stmt := topS 101
abbrev s_L_with_number : Stmt := topS 102
abbrev s_L_asked : Stmt := topS 103
abbrev s_law : Stmt := topS 104
structure Tops (K : PySem.W.Frag) (mg : Str → Option Value) where
  is_whole : Fn K mg "is_whole" s_is_whole ["thing"]
  between : Fn K mg "between" s_between ["thing", "low", "most"]
  is_arrow : Fn K mg "is_arrow" s_is_arrow ["thing", "many"]
  is_web : Fn K mg "is_web" s_is_web ["thing"]
  checked : Fn K mg "checked" s_checked ["web"]
  need_row : Fn K mg "need_row" s_need_row ["web", "row"]
  turned : Fn K mg "turned" s_turned ["web", "row"]
  weight : Fn K mg "weight" s_weight ["web", "row"]
  weights_of : Fn K mg "weights_of" s_weights_of ["web"]
  turned_about : Fn K mg "turned_about" s_turned_about ["web"]
  joined : Fn K mg "joined" s_joined ["one", "other"]
  with_arrow : Fn K mg "with_arrow" s_with_arrow ["web", "ahead", "behind", "more"]
  moved : Fn K mg "moved" s_moved ["web", "row", "thing", "place"]
  is_settled : Fn K mg "is_settled" s_is_settled ["web", "row"]
  better : Fn K mg "better" s_better ["web", "row"]
  least_of : Fn K mg "least_of" s_least_of ["web"]
  least : Fn K mg "least" s_least ["web"]
  count_best : Fn K mg "count_best" s_count_best ["web"]
  sure : Fn K mg "sure" s_sure ["web"]
  next_of : Fn K mg "next_of" s_next_of ["web"]
  rings_of : Fn K mg "rings_of" s_rings_of ["web"]
  rings : Fn K mg "rings" s_rings ["web"]
  ring : Fn K mg "ring" s_ring ["web"]
  is_free : Fn K mg "is_free" s_is_free ["web"]
  fit : Fn K mg "fit" s_fit ["web", "thing"]
  whole_shares : Fn K mg "whole_shares" s_whole_shares ["web"]
  paper : Fn K mg "paper" s_paper ["web"]
  shows : Fn K mg "shows" s_shows ["web", "number", "thing"]
  greatest : Fn K mg "greatest" s_greatest ["web"]
  are_parts : Fn K mg "are_parts" s_are_parts ["web", "number", "thing"]
  is_pair : Fn K mg "is_pair" s_is_pair ["thing", "many"]
  all_come : Fn K mg "all_come" s_all_come ["many", "arrows"]
  kept : Fn K mg "kept" s_kept ["many", "arrows"]
  row_behind : Fn K mg "row_behind" s_row_behind ["many", "arrows"]
  led_to : Fn K mg "led_to" s_led_to ["nexts", "first"]
  parts_of : Fn K mg "parts_of" s_parts_of ["web"]
  parts : Fn K mg "parts" s_parts ["web"]
  part_web : Fn K mg "part_web" s_part_web ["web", "number"]
  text_of : Fn K mg "text_of" s_text_of ["web"]
  shown : Fn K mg "shown" s_shown ["web"]
  L_cell_at : Fn K mg "_law_cell_at" s_L_cell_at ["_law_script", "_law_k"]
  L_mixed : Fn K mg "_law_mixed" s_L_mixed ["_law_script", "_law_k", "_law_many"]
  L_web : Fn K mg "_law_web" s_L_web ["_law_script", "_law_at", "_law_most"]
  L_row : Fn K mg "_law_row" s_L_row ["_law_script", "_law_at", "_law_many"]
  L_with_web : Fn K mg "_law_with_web" s_L_with_web ["_law_what", "_law_bad", "_law_good"]
  L_with_row : Fn K mg "_law_with_row" s_L_with_row ["_law_what", "_law_web_here", "_law_bad"]
  L_with_number : Fn K mg "_law_with_number" s_L_with_number ["_law_what", "_law_web_here", "_law_row_here", "_law_bad"]
  L_asked : Fn K mg "_law_asked" s_L_asked ["_law_web_here", "_law_row_here", "_law_kind", "_law_cell"]
  law : Fn K mg "law" s_law ["_law_script"]
  x_TurnError : Xc K mg "TurnError"
  x_NoWeb : Xc K mg "NoWeb"
  x_NoRow : Xc K mg "NoRow"
  x_NoNumber : Xc K mg "NoNumber"
  x_NoArrows : Xc K mg "NoArrows"
  x_TooBig : Xc K mg "TooBig"
  x_NoText : Xc K mg "NoText"
  n_ValueError : mg "ValueError" = none
  n_all : mg "all" = none
  n_bool : mg "bool" = none
  n_dict : mg "dict" = none
  n_int : mg "int" = none
  n_isinstance : mg "isinstance" = none
  n_len : mg "len" = none
  n_list : mg "list" = none
  n_min : mg "min" = none
  n_range : mg "range" = none
  n_sorted : mg "sorted" = none
  n_sum : mg "sum" = none
  n_tuple : mg "tuple" = none
  c_THINGS_webs : Σ' t : Tok, mg "THINGS_webs" = some (.int 7 t)
  c_WEIGHT : Σ' t : Tok, mg "WEIGHT" = some (.int 99 t)
  c_POWERS : Addr
  g_POWERS : mg "POWERS" = some (.ref c_POWERS)
  k_POWERS : KTup K (fun _ => none) c_POWERS ([1, 2, 4, 8, 16, 32, 64, 128].map V.int)
  c_NONE : Addr
  g_NONE : mg "NONE" = some (.ref c_NONE)
  k_NONE : KTup K (fun _ => none) c_NONE ([0, 1].map V.int)
  c_WHOLE : Addr
  g_WHOLE : mg "WHOLE" = some (.ref c_WHOLE)
  k_WHOLE : KTup K (fun _ => none) c_WHOLE ([1, 1].map V.int)
  c_THINGS_kept : Σ' t : Tok, mg "THINGS_kept" = some (.int 12 t)
  Table_C : Addr
  Table_g : mg "Table" = some (.ref Table_C)
  Table_cls : Cls K Table_C
  Table_na_many : NoAttr K Table_C "many"
  Table_na_weights : NoAttr K Table_C "weights"
  Table_na_kept : NoAttr K Table_C "kept"
  Table_na_known : NoAttr K Table_C "known"
  Table_init : Ini K Table_C "Table.__init__" (inClass (topS 42) 0) ["self", "web", "kept"]
  Table_stands : Mth K Table_C "stands" "Table.stands" (inClass (topS 42) 1) ["self", "some", "number"]
  Table_cost : Mth K Table_C "cost" "Table.cost" (inClass (topS 42) 2) ["self", "some", "number"]
  Table_may_come : Mth K Table_C "may_come" "Table.may_come" (inClass (topS 42) 3) ["self", "some", "number"]
  Table_best : Mth K Table_C "best" "Table.best" (inClass (topS 42) 4) ["self", "some"]
  Table_found : Mth K Table_C "found" "Table.found" (inClass (topS 42) 5) ["self", "some"]
  Table_first_row : Mth K Table_C "first_row" "Table.first_row" (inClass (topS 42) 6) ["self"]
  i_NoArrows : ExcC K x_NoArrows.C
  i_NoNumber : ExcC K x_NoNumber.C
  i_NoRow : ExcC K x_NoRow.C
  i_NoText : ExcC K x_NoText.C
  i_NoWeb : ExcC K x_NoWeb.C
  i_TooBig : ExcC K x_TooBig.C
  kx_NoArrows_NoArrows : PySem.W.kitOne K (.ref x_NoArrows.C) (.ref x_NoArrows.C) = some true
  kx_NoArrows_NoNumber : PySem.W.kitOne K (.ref x_NoArrows.C) (.ref x_NoNumber.C) = some false
  kx_NoArrows_NoRow : PySem.W.kitOne K (.ref x_NoArrows.C) (.ref x_NoRow.C) = some false
  kx_NoArrows_NoText : PySem.W.kitOne K (.ref x_NoArrows.C) (.ref x_NoText.C) = some false
  kx_NoArrows_NoWeb : PySem.W.kitOne K (.ref x_NoArrows.C) (.ref x_NoWeb.C) = some false
  kx_NoArrows_TooBig : PySem.W.kitOne K (.ref x_NoArrows.C) (.ref x_TooBig.C) = some false
  kx_NoArrows_ValueError : PySem.W.kitOne K (.ref x_NoArrows.C) (.type "ValueError") = some true
  kx_NoNumber_NoArrows : PySem.W.kitOne K (.ref x_NoNumber.C) (.ref x_NoArrows.C) = some false
  kx_NoNumber_NoNumber : PySem.W.kitOne K (.ref x_NoNumber.C) (.ref x_NoNumber.C) = some true
  kx_NoNumber_NoRow : PySem.W.kitOne K (.ref x_NoNumber.C) (.ref x_NoRow.C) = some false
  kx_NoNumber_NoText : PySem.W.kitOne K (.ref x_NoNumber.C) (.ref x_NoText.C) = some false
  kx_NoNumber_NoWeb : PySem.W.kitOne K (.ref x_NoNumber.C) (.ref x_NoWeb.C) = some false
  kx_NoNumber_TooBig : PySem.W.kitOne K (.ref x_NoNumber.C) (.ref x_TooBig.C) = some false
  kx_NoNumber_ValueError : PySem.W.kitOne K (.ref x_NoNumber.C) (.type "ValueError") = some true
  kx_NoRow_NoArrows : PySem.W.kitOne K (.ref x_NoRow.C) (.ref x_NoArrows.C) = some false
  kx_NoRow_NoNumber : PySem.W.kitOne K (.ref x_NoRow.C) (.ref x_NoNumber.C) = some false
  kx_NoRow_NoRow : PySem.W.kitOne K (.ref x_NoRow.C) (.ref x_NoRow.C) = some true
  kx_NoRow_NoText : PySem.W.kitOne K (.ref x_NoRow.C) (.ref x_NoText.C) = some false
  kx_NoRow_NoWeb : PySem.W.kitOne K (.ref x_NoRow.C) (.ref x_NoWeb.C) = some false
  kx_NoRow_TooBig : PySem.W.kitOne K (.ref x_NoRow.C) (.ref x_TooBig.C) = some false
  kx_NoRow_ValueError : PySem.W.kitOne K (.ref x_NoRow.C) (.type "ValueError") = some true
  kx_NoText_NoArrows : PySem.W.kitOne K (.ref x_NoText.C) (.ref x_NoArrows.C) = some false
  kx_NoText_NoNumber : PySem.W.kitOne K (.ref x_NoText.C) (.ref x_NoNumber.C) = some false
  kx_NoText_NoRow : PySem.W.kitOne K (.ref x_NoText.C) (.ref x_NoRow.C) = some false
  kx_NoText_NoText : PySem.W.kitOne K (.ref x_NoText.C) (.ref x_NoText.C) = some true
  kx_NoText_NoWeb : PySem.W.kitOne K (.ref x_NoText.C) (.ref x_NoWeb.C) = some false
  kx_NoText_TooBig : PySem.W.kitOne K (.ref x_NoText.C) (.ref x_TooBig.C) = some false
  kx_NoText_ValueError : PySem.W.kitOne K (.ref x_NoText.C) (.type "ValueError") = some true
  kx_NoWeb_NoArrows : PySem.W.kitOne K (.ref x_NoWeb.C) (.ref x_NoArrows.C) = some false
  kx_NoWeb_NoNumber : PySem.W.kitOne K (.ref x_NoWeb.C) (.ref x_NoNumber.C) = some false
  kx_NoWeb_NoRow : PySem.W.kitOne K (.ref x_NoWeb.C) (.ref x_NoRow.C) = some false
  kx_NoWeb_NoText : PySem.W.kitOne K (.ref x_NoWeb.C) (.ref x_NoText.C) = some false
  kx_NoWeb_NoWeb : PySem.W.kitOne K (.ref x_NoWeb.C) (.ref x_NoWeb.C) = some true
  kx_NoWeb_TooBig : PySem.W.kitOne K (.ref x_NoWeb.C) (.ref x_TooBig.C) = some false
  kx_NoWeb_ValueError : PySem.W.kitOne K (.ref x_NoWeb.C) (.type "ValueError") = some true
  kx_TooBig_NoArrows : PySem.W.kitOne K (.ref x_TooBig.C) (.ref x_NoArrows.C) = some false
  kx_TooBig_NoNumber : PySem.W.kitOne K (.ref x_TooBig.C) (.ref x_NoNumber.C) = some false
  kx_TooBig_NoRow : PySem.W.kitOne K (.ref x_TooBig.C) (.ref x_NoRow.C) = some false
  kx_TooBig_NoText : PySem.W.kitOne K (.ref x_TooBig.C) (.ref x_NoText.C) = some false
  kx_TooBig_NoWeb : PySem.W.kitOne K (.ref x_TooBig.C) (.ref x_NoWeb.C) = some false
  kx_TooBig_TooBig : PySem.W.kitOne K (.ref x_TooBig.C) (.ref x_TooBig.C) = some true
  kx_TooBig_ValueError : PySem.W.kitOne K (.ref x_TooBig.C) (.type "ValueError") = some true
  xm_NoArrows_TurnError : PySem.W.exmOne K (.ref x_NoArrows.C) (.ref x_TurnError.C) = some true
  xm_NoNumber_TurnError : PySem.W.exmOne K (.ref x_NoNumber.C) (.ref x_TurnError.C) = some true
  xm_NoRow_TurnError : PySem.W.exmOne K (.ref x_NoRow.C) (.ref x_TurnError.C) = some true
  xm_NoText_TurnError : PySem.W.exmOne K (.ref x_NoText.C) (.ref x_TurnError.C) = some true
  xm_NoWeb_TurnError : PySem.W.exmOne K (.ref x_NoWeb.C) (.ref x_TurnError.C) = some true
  xm_TooBig_TurnError : PySem.W.exmOne K (.ref x_TooBig.C) (.ref x_TurnError.C) = some true
structure FAs where
  checked : Addr
  turned_about : Addr
  ring : Addr
  rings : Addr
  is_free : Addr
  least : Addr
  count_best : Addr
  sure : Addr
  parts : Addr
  whole_shares : Addr
  greatest : Addr
  paper : Addr
  turned : Addr
  weight : Addr
  part_web : Addr
  fit : Addr
  is_settled : Addr
  better : Addr
  are_parts : Addr
  shows : Addr
  moved : Addr
  with_arrow : Addr
  shown : Addr
  kept : Addr
  row_behind : Addr

abbrev faOf {K : PySem.W.Frag} {mg : Str → Option Value} (T : Tops K mg) : FAs := ⟨T.checked.f, T.turned_about.f, T.ring.f, T.rings.f, T.is_free.f, T.least.f, T.count_best.f, T.sure.f, T.parts.f, T.whole_shares.f, T.greatest.f, T.paper.f, T.turned.f, T.weight.f, T.part_web.f, T.fit.f, T.is_settled.f, T.better.f, T.are_parts.f, T.shows.f, T.moved.f, T.with_arrow.f, T.shown.f, T.kept.f, T.row_behind.f⟩
def ecOf {K : PySem.W.Frag} {mg : Str → Option Value} (T : Tops K mg) : Exc → Value
  | .noWeb => .ref T.x_NoWeb.C
  | .noRow => .ref T.x_NoRow.C
  | .noNumber => .ref T.x_NoNumber.C
  | .noArrows => .ref T.x_NoArrows.C
  | .tooBig => .ref T.x_TooBig.C
  | .noText => .ref T.x_NoText.C
theorem sc_is_whole : FnScope ["thing"] ["thing"] (defScope s_is_whole) := ⟨rfl, rfl, rfl, by decide +kernel, rfl, by decide +kernel, by decide +kernel⟩
theorem ok_is_whole {P : Program} {w : World} {K : PySem.W.Frag} {mg : Str → Option Value} {base : Heap} (T : Tops K mg) : FnOk P w K mg base (L2.CX P w) 1 T.is_whole.f T.is_whole.fd ["thing"] (spF K (ecOf T) 1 fs_is_whole) := by
  refine T.is_whole.F.okX sc_is_whole (fun vs H Q E h => h.1) (fun cdv A outer s H vs Q E hr h => ?_)
  · have hu0 := hr.units0
    have hu64 := hr.units
    have hu65 := units65 hr
    have hu1 := units1 hr
    exact ⟨_, (pss_one (ps_ret (pe_and (pe_callB call_isi (by rfl) T.n_isinstance bt_isinstance (pa_cons (pv 0) (pa_cons (pe_bltn (v := .ty "int") (by rfl) T.n_int bt_int rfl) pa_nil))) (pe_one (pe_not (pe_callB call_isi (by rfl) T.n_isinstance bt_isinstance (pa_cons (pv 0) (pa_cons (pe_bltn (v := .ty "bool") (by rfl) T.n_bool bt_bool rfl) pa_nil)))))))), fin_gen (ec := ecOf T) (g := sem_is_whole) (snd_ret (m := true) (snd_andV (snd_cb cs_isi nx_fIsi (snd_cons (snd_var (ltN rfl)) (snd_cons snd_ty snd_nil))) (snd_notV (snd_cb cs_isi nx_fIsi (snd_cons (snd_var (ltN rfl)) (snd_cons snd_ty snd_nil)))))) (by decide) h⟩
theorem sc_between : FnScope ["thing", "low", "most"] ["thing", "low", "most"] (defScope s_between) := ⟨rfl, rfl, rfl, by decide +kernel, rfl, by decide +kernel, by decide +kernel⟩
theorem ok_between {P : Program} {w : World} {K : PySem.W.Frag} {mg : Str → Option Value} {base : Heap} (T : Tops K mg) : FnOk P w K mg base (L2.CX P w) 2 T.between.f T.between.fd ["thing", "low", "most"] (spF K (ecOf T) 3 fs_between) := by
  refine T.between.F.okX sc_between (fun vs H Q E h => h.1) (fun cdv A outer s H vs Q E hr h => ?_)
  · have hu0 := hr.units0
    have hu64 := hr.units
    have hu65 := units65 hr
    have hu1 := units1 hr
    exact ⟨_, (pss_one (ps_ret (pe_and (pe_callS (ok_is_whole T) (hr.mono (by decide)) (by rfl) T.is_whole.g T.is_whole.k T.is_whole.b (fun σ => passAt (takes_of rfl rfl rfl rfl) σ) (pa_cons (pv 0) pa_nil)) (pe_one (pe_chain op_le op_le (pv 1) (pv 0) (pv 2)))))), fin_gen (ec := ecOf T) (g := sem_between) (snd_ret (m := true) (snd_andV (snd_call (snd_cons (snd_var (ltN rfl)) snd_nil)) (snd_chain os_le os_le (snd_var (ltN rfl)) (snd_var (ltN rfl)) (snd_var (ltN rfl))))) (by decide) h⟩
theorem sc_is_arrow : FnScope ["thing", "many"] ["thing", "many"] (defScope s_is_arrow) := ⟨rfl, rfl, rfl, by decide +kernel, rfl, by decide +kernel, by decide +kernel⟩
theorem ok_is_arrow {P : Program} {w : World} {K : PySem.W.Frag} {mg : Str → Option Value} {base : Heap} (T : Tops K mg) : FnOk P w K mg base (L2.CX P w) 3 T.is_arrow.f T.is_arrow.fd ["thing", "many"] (spF K (ecOf T) 2 fs_is_arrow) := by
  refine T.is_arrow.F.okX sc_is_arrow (fun vs H Q E h => h.1) (fun cdv A outer s H vs Q E hr h => ?_)
  · have hu0 := hr.units0
    have hu64 := hr.units
    have hu65 := units65 hr
    have hu1 := units1 hr
    exact ⟨_, (pss_cons (ps_if (PW.pt (pw_or (pt_not (pt_val (pe_callB call_isi (by rfl) T.n_isinstance bt_isinstance (pa_cons (pv 0) (pa_cons (pe_bltn (v := .ty "tuple") (by rfl) T.n_tuple bt_tuple rfl) pa_nil))))) (pw_or1 (pt_cmpR (op_neK (K := K) hu64) (pe_callB call_lenA (by rfl) T.n_len bt_len (pa_cons (pv 0) pa_nil)) pe_int (nomark _))))) (pss_one (ps_ret pe_bl)) pss_nil)
      (pss_cons (ps_if (PW.pt (pw_or (pt_not (pt_val (pe_callS (ok_between T) (hr.mono (by decide)) (by rfl) T.between.g T.between.k T.between.b (fun σ => passAt (takes_of rfl rfl rfl rfl) σ) (pa_cons (pe_ix (ix_seqK (K := K)) (pv 0) pe_int (fun _ _ => rfl)) (pa_cons pe_int (pa_cons (pe_op op_sub (pv 1) pe_int) pa_nil)))))) (pw_or1 (pt_not (pt_val (pe_callS (ok_between T) (hr.mono (by decide)) (by rfl) T.between.g T.between.k T.between.b (fun σ => passAt (takes_of rfl rfl rfl rfl) σ) (pa_cons (pe_ix (ix_seqK (K := K)) (pv 0) pe_int (fun _ _ => rfl)) (pa_cons pe_int (pa_cons (pe_op op_sub (pv 1) pe_int) pa_nil))))))))) (pss_one (ps_ret pe_bl)) pss_nil)
      (pss_one (ps_ret (pe_and (pe_cmpR (op_neK (K := K) hu64) (pe_ix (ix_seqK (K := K)) (pv 0) pe_int (fun _ _ => rfl)) (pe_ix (ix_seqK (K := K)) (pv 0) pe_int (fun _ _ => rfl)) (nomark _)) (pe_one (pe_callS (ok_between T) (hr.mono (by decide)) (by rfl) T.between.g T.between.k T.between.b (fun σ => passAt (takes_of rfl rfl rfl rfl) σ) (pa_cons (pe_ix (ix_seqK (K := K)) (pv 0) pe_int (fun _ _ => rfl)) (pa_cons pe_int (pa_cons (pe_glob (v := .int 99) (by rfl) T.c_WEIGHT.2 ⟨_, rfl⟩) pa_nil)))))))))), fin_gen (ec := ecOf T) (g := sem_is_arrow) (snd_seq (snd_if (snd_tor (snd_tnot (snd_tb (snd_cb cs_isi nx_fIsi (snd_cons (snd_var (ltN rfl)) (snd_cons snd_ty snd_nil))))) (snd_ts (snd_bin os_ne (snd_cb cs_len nx_fLen (snd_cons (snd_var (ltN rfl)) snd_nil)) snd_int))) (snd_ret (m := true) snd_bl) snd_next)
      (snd_seq (snd_if (snd_tor (snd_tnot (snd_tb (snd_call (snd_cons (snd_bin os_ix (snd_var (ltN rfl)) snd_int) (snd_cons snd_int (snd_cons (snd_bin os_sub (snd_var (ltN rfl)) snd_int) snd_nil)))))) (snd_tnot (snd_tb (snd_call (snd_cons (snd_bin os_ix (snd_var (ltN rfl)) snd_int) (snd_cons snd_int (snd_cons (snd_bin os_sub (snd_var (ltN rfl)) snd_int) snd_nil))))))) (snd_ret (m := true) snd_bl) snd_next)
      (snd_ret (m := true) (snd_andV (snd_bin os_ne (snd_bin os_ix (snd_var (ltN rfl)) snd_int) (snd_bin os_ix (snd_var (ltN rfl)) snd_int)) (snd_call (snd_cons (snd_bin os_ix (snd_var (ltN rfl)) snd_int) (snd_cons snd_int (snd_cons snd_int snd_nil)))))))) (by decide) h⟩
theorem sc_is_web : FnScope ["thing", "arrows", "arrow", "k"] ["thing"] (defScope s_is_web) := ⟨rfl, rfl, rfl, by decide +kernel, rfl, by decide +kernel, by decide +kernel⟩
theorem ok_is_web {P : Program} {w : World} {K : PySem.W.Frag} {mg : Str → Option Value} {base : Heap} (T : Tops K mg) : FnOk P w K mg base (L2.CX P w) 4 T.is_web.f T.is_web.fd ["thing"] (spF K (ecOf T) 1 fs_is_web) := by
  refine T.is_web.F.okX sc_is_web (fun vs H Q E h => h.1) (fun cdv A outer s H vs Q E hr h => ?_)
  · have hu0 := hr.units0
    have hu64 := hr.units
    have hu65 := units65 hr
    have hu1 := units1 hr
    exact ⟨_, (pss_cons (ps_if (PW.pt (pw_or (pt_not (pt_val (pe_callB call_isi (by rfl) T.n_isinstance bt_isinstance (pa_cons (pv 0) (pa_cons (pe_bltn (v := .ty "tuple") (by rfl) T.n_tuple bt_tuple rfl) pa_nil))))) (pw_or (pt_cmpR (op_neK (K := K) hu64) (pe_callB call_lenA (by rfl) T.n_len bt_len (pa_cons (pv 0) pa_nil)) pe_int (nomark _)) (pw_or1 (pt_not (pt_val (pe_callS (ok_between T) (hr.mono (by decide)) (by rfl) T.between.g T.between.k T.between.b (fun σ => passAt (takes_of rfl rfl rfl rfl) σ) (pa_cons (pe_ix (ix_seqK (K := K)) (pv 0) pe_int (fun _ _ => rfl)) (pa_cons pe_int (pa_cons (pe_glob (v := .int 7) (by rfl) T.c_THINGS_webs.2 ⟨_, rfl⟩) pa_nil)))))))))) (pss_one (ps_ret pe_bl)) pss_nil)
      (pss_cons (ps_set (i := 1) sc_is_web.nd rfl (by first | exact .inl rfl | exact .inr rfl) (pe_ix (ix_seqK (K := K)) (pv 0) pe_int (fun _ _ => rfl)))
      (pss_cons (ps_if (PW.pt (pw_or (pt_not (pt_val (pe_callB call_isi (by rfl) T.n_isinstance bt_isinstance (pa_cons (pv 1) (pa_cons (pe_bltn (v := .ty "tuple") (by rfl) T.n_tuple bt_tuple rfl) pa_nil))))) (pw_or1 (pt_not (pt_val (pe_callB (cr_all rfl) (by rfl) T.n_all bt_all (pa_cons (pe_lc rfl sc_is_web.nd (pi_tup (pv 1)) (blk_of (own := [("arrow", 2)]) (by kernel_rfl)) (fun s H C cl fp => (pg_name (i := 2) sc_is_web.nd rfl (by first | exact .inl rfl | exact .inr rfl))) (fun s H C cl fp => pts_nil) (fun s H C cl fp => (pe_callS (ok_is_arrow T) (hr.mono (by decide)) (by rfl) T.is_arrow.g T.is_arrow.k T.is_arrow.b (fun σ => passAt takes0 σ) (pa_cons (pv 2) (pa_cons (pe_ix (ix_seqK (K := K)) (pv 0) pe_int (fun _ _ => rfl)) pa_nil))))) pa_nil))))))) (pss_one (ps_ret pe_bl)) pss_nil)
      (pss_one (ps_ret (pe_callB (cr_all rfl) (by rfl) T.n_all bt_all (pa_cons (pe_lc rfl sc_is_web.nd (pi_range1 (by rfl) T.n_range (pa_cons (pe_op op_sub (pe_callB call_lenA (by rfl) T.n_len bt_len (pa_cons (pv 1) pa_nil)) pe_int) pa_nil)) (blk_of (own := [("k", 3)]) (by kernel_rfl)) (fun s H C cl fp => (pg_name (i := 3) sc_is_web.nd rfl (by first | exact .inl rfl | exact .inr rfl))) (fun s H C cl fp => pts_nil) (fun s H C cl fp => (pe_cmpR (op_ltAll hu0) (pe_slice sl_AP (pe_ix (ix_seqK (K := K)) (pv 1) (pv 3) (fun _ _ => rfl)) po_none (po_some pe_int)) (pe_slice sl_AP (pe_ix (ix_seqK (K := K)) (pv 1) (pe_op op_addAll (pv 3) pe_int) (fun _ _ => rfl)) po_none (po_some pe_int)) (nomark _)))) pa_nil))))))), fin_gen (ec := ecOf T) (g := sem_is_web) (snd_seq (snd_if (snd_tor (snd_tnot (snd_tb (snd_cb cs_isi nx_fIsi (snd_cons (snd_var (ltN rfl)) (snd_cons snd_ty snd_nil))))) (snd_tor (snd_ts (snd_bin os_ne (snd_cb cs_len nx_fLen (snd_cons (snd_var (ltN rfl)) snd_nil)) snd_int)) (snd_tnot (snd_tb (snd_call (snd_cons (snd_bin os_ix (snd_var (ltN rfl)) snd_int) (snd_cons snd_int (snd_cons snd_int snd_nil)))))))) (snd_ret (m := true) snd_bl) snd_next)
      (snd_seq (snd_set (m := true) (ltN rfl) (snd_bin os_ix (snd_var (ltN rfl)) snd_int))
      (snd_seq (snd_if (snd_tor (snd_tnot (snd_tb (snd_cb cs_isi nx_fIsi (snd_cons (snd_var (ltN rfl)) (snd_cons snd_ty snd_nil))))) (snd_tnot (snd_tb (snd_cb cs_all nx_fAll (snd_cons (snd_comp (si_tup (snd_var (ltN rfl))) (sg_name (ltN rfl)) snd_pts0 (snd_call (snd_cons (snd_var (ltN rfl)) (snd_cons (snd_bin os_ix (snd_var (ltN rfl)) snd_int) snd_nil)))) snd_nil))))) (snd_ret (m := true) snd_bl) snd_next)
      (snd_ret (m := true) (snd_cb cs_all nx_fAll (snd_cons (snd_comp (si_rng1 (snd_cons (snd_bin os_sub (snd_cb cs_len nx_fLen (snd_cons (snd_var (ltN rfl)) snd_nil)) snd_int) snd_nil)) (sg_name (ltN rfl)) snd_pts0 (snd_bin os_ltA (snd_sl ss_AP (snd_bin os_ix (snd_var (ltN rfl)) (snd_var (ltN rfl))) snd_pno (snd_psome snd_int)) (snd_sl ss_AP (snd_bin os_ix (snd_var (ltN rfl)) (snd_bin os_add (snd_var (ltN rfl)) snd_int)) snd_pno (snd_psome snd_int)))) snd_nil)))))) (by decide) h⟩
theorem sc_checked : FnScope ["web"] ["web"] (defScope s_checked) := ⟨rfl, rfl, rfl, by decide +kernel, rfl, by decide +kernel, by decide +kernel⟩
theorem ok_checked {P : Program} {w : World} {K : PySem.W.Frag} {mg : Str → Option Value} {base : Heap} (T : Tops K mg) : FnOk P w K mg base (L2.CX P w) 5 T.checked.f T.checked.fd ["web"] (spF K (ecOf T) 1 fs_checked) := by
  refine T.checked.F.okX sc_checked (fun vs H Q E h => h.1) (fun cdv A outer s H vs Q E hr h => ?_)
  · have hu0 := hr.units0
    have hu64 := hr.units
    have hu65 := units65 hr
    have hu1 := units1 hr
    exact ⟨_, (pss_cons (ps_if (pt_not (pt_val (pe_callS (ok_is_web T) (hr.mono (by decide)) (by rfl) T.is_web.g T.is_web.k T.is_web.b (fun σ => passAt (takes_of rfl rfl rfl rfl) σ) (pa_cons (pv 0) pa_nil)))) (pss_one (ps_raise rfl (takes_of rfl rfl rfl rfl) (pmk_own PySem.F.excBase_ValueError T.x_NoWeb.q T.x_NoWeb.g T.x_NoWeb.k (raises_own T.x_NoWeb.e T.x_NoWeb.t) (by rfl)))) pss_nil)
      (pss_one (ps_ret (pv 0)))), fin_gen (ec := ecOf T) (g := sem_checked) (snd_seq (snd_if (snd_tnot (snd_tb (snd_call (snd_cons (snd_var (ltN rfl)) snd_nil)))) (snd_raise (c := .noWeb)) snd_next)
      (snd_ret (m := true) (snd_var (ltN rfl)))) (by decide) h⟩
theorem sc_need_row : FnScope ["web", "row", "number"] ["web", "row"] (defScope s_need_row) := ⟨rfl, rfl, rfl, by decide +kernel, rfl, by decide +kernel, by decide +kernel⟩
theorem ok_need_row {P : Program} {w : World} {K : PySem.W.Frag} {mg : Str → Option Value} {base : Heap} (T : Tops K mg) : FnOk P w K mg base (L2.CX P w) 6 T.need_row.f T.need_row.fd ["web", "row"] (spF K (ecOf T) 2 fs_need_row) := by
  refine T.need_row.F.okX sc_need_row (fun vs H Q E h => h.1) (fun cdv A outer s H vs Q E hr h => ?_)
  · have hu0 := hr.units0
    have hu64 := hr.units
    have hu65 := units65 hr
    have hu1 := units1 hr
    exact ⟨_, (pss_cons (ps_expr (pe_callS (ok_checked T) (hr.mono (by decide)) (by rfl) T.checked.g T.checked.k T.checked.b (fun σ => passAt (takes_of rfl rfl rfl rfl) σ) (pa_cons (pv 0) pa_nil)))
      (pss_cons (ps_if (PW.pt (pw_or (pt_not (pt_val (pe_callB call_isi (by rfl) T.n_isinstance bt_isinstance (pa_cons (pv 1) (pa_cons (pe_bltn (v := .ty "tuple") (by rfl) T.n_tuple bt_tuple rfl) pa_nil))))) (pw_or1 (pt_not (pt_val (pe_callB (cr_all rfl) (by rfl) T.n_all bt_all (pa_cons (pe_lc rfl sc_need_row.nd (pi_tup (pv 1)) (blk_of (own := [("number", 2)]) (by kernel_rfl)) (fun s H C cl fp => (pg_name (i := 2) sc_need_row.nd rfl (by first | exact .inl rfl | exact .inr rfl))) (fun s H C cl fp => pts_nil) (fun s H C cl fp => (pe_callS (ok_is_whole T) (hr.mono (by decide)) (by rfl) T.is_whole.g T.is_whole.k T.is_whole.b (fun σ => passAt takes0 σ) (pa_cons (pv 2) pa_nil)))) pa_nil))))))) (pss_one (ps_raise rfl (takes_of rfl rfl rfl rfl) (pmk_own PySem.F.excBase_ValueError T.x_NoRow.q T.x_NoRow.g T.x_NoRow.k (raises_own T.x_NoRow.e T.x_NoRow.t) (by rfl)))) pss_nil)
      (pss_one (ps_if (pt_cmpR (op_neK (K := K) hu64) (pe_callB (cr_sortedD hu64) (by rfl) T.n_sorted bt_sorted (pa_cons (pe_callTy call_list_of (by rfl) T.n_list bt_list (pa_cons (pv 1) pa_nil)) pa_nil)) (pe_listRg rfl (by rfl) T.n_list (prg_1 (by rfl) T.n_range (pe_ix (ix_seqK (K := K)) (pv 0) pe_int (fun _ _ => rfl)))) (nomark _)) (pss_one (ps_raise rfl (takes_of rfl rfl rfl rfl) (pmk_own PySem.F.excBase_ValueError T.x_NoRow.q T.x_NoRow.g T.x_NoRow.k (raises_own T.x_NoRow.e T.x_NoRow.t) (by rfl)))) pss_nil)))), fin_gen (ec := ecOf T) (g := sem_need_row) (snd_seq (snd_drop (m := true) (snd_call (snd_cons (snd_var (ltN rfl)) snd_nil)))
      (snd_seq (snd_if (snd_tor (snd_tnot (snd_tb (snd_cb cs_isi nx_fIsi (snd_cons (snd_var (ltN rfl)) (snd_cons snd_ty snd_nil))))) (snd_tnot (snd_tb (snd_cb cs_all nx_fAll (snd_cons (snd_comp (si_tup (snd_var (ltN rfl))) (sg_name (ltN rfl)) snd_pts0 (snd_call (snd_cons (snd_var (ltN rfl)) snd_nil))) snd_nil))))) (snd_raise (c := .noRow)) snd_next)
      (snd_if (snd_ts (snd_bin os_ne (snd_cb cs_sorted nx_fSorted (snd_cons (snd_cb cs_list nx_fList (snd_cons (snd_var (ltN rfl)) snd_nil)) snd_nil)) (snd_lrg1 (snd_bin os_ix (snd_var (ltN rfl)) snd_int)))) (snd_raise (c := .noRow)) snd_next))) (by decide) h⟩
theorem sc_turned : FnScope ["web", "row"] ["web", "row"] (defScope s_turned) := ⟨rfl, rfl, rfl, by decide +kernel, rfl, by decide +kernel, by decide +kernel⟩
def sem_turned : Sem :=
  (sSeq (sDrop (eCall fs_need_row (aCons (eVar 0) (aCons (eVar 1) aNil))))
    sStuck)
def fs_turned : List D → Rf := fsOf 2 sem_turned
theorem ok_turned {P : Program} {w : World} {K : PySem.W.Frag} {mg : Str → Option Value} {base : Heap} (T : Tops K mg) : FnOk P w K mg base (L2.CX P w) 7 T.turned.f T.turned.fd ["web", "row"] (spF K (ecOf T) 2 fs_turned) := by
  refine T.turned.F.okX sc_turned (fun vs H Q E h => h.1) (fun cdv A outer s H vs Q E hr h => ?_)
  · have hu0 := hr.units0
    have hu64 := hr.units
    have hu65 := units65 hr
    have hu1 := units1 hr
    exact ⟨_, (pss_cons (ps_expr (pe_callS (ok_need_row T) (hr.mono (by decide)) (by rfl) T.need_row.g T.need_row.k T.need_row.b (fun σ => passAt (takes_of rfl rfl rfl rfl) σ) (pa_cons (pv 0) (pa_cons (pv 1) pa_nil))))
      pss_stuck), fin_gen (ec := ecOf T) (g := sem_turned) (snd_seq (snd_drop (m := true) (snd_call (snd_cons (snd_var (ltN rfl)) (snd_cons (snd_var (ltN rfl)) snd_nil))))
      snd_stuck) (by decide) h⟩
theorem sc_weight : FnScope ["web", "row"] ["web", "row"] (defScope s_weight) := ⟨rfl, rfl, rfl, by decide +kernel, rfl, by decide +kernel, by decide +kernel⟩
def sem_weight : Sem :=
  (sSeq (sDrop (eCall fs_need_row (aCons (eVar 0) (aCons (eVar 1) aNil))))
    sStuck)
def fs_weight : List D → Rf := fsOf 2 sem_weight
theorem ok_weight {P : Program} {w : World} {K : PySem.W.Frag} {mg : Str → Option Value} {base : Heap} (T : Tops K mg) : FnOk P w K mg base (L2.CX P w) 7 T.weight.f T.weight.fd ["web", "row"] (spF K (ecOf T) 2 fs_weight) := by
  refine T.weight.F.okX sc_weight (fun vs H Q E h => h.1) (fun cdv A outer s H vs Q E hr h => ?_)
  · have hu0 := hr.units0
    have hu64 := hr.units
    have hu65 := units65 hr
    have hu1 := units1 hr
    exact ⟨_, (pss_cons (ps_expr (pe_callS (ok_need_row T) (hr.mono (by decide)) (by rfl) T.need_row.g T.need_row.k T.need_row.b (fun σ => passAt (takes_of rfl rfl rfl rfl) σ) (pa_cons (pv 0) (pa_cons (pv 1) pa_nil))))
      pss_stuck), fin_gen (ec := ecOf T) (g := sem_weight) (snd_seq (snd_drop (m := true) (snd_call (snd_cons (snd_var (ltN rfl)) (snd_cons (snd_var (ltN rfl)) snd_nil))))
      snd_stuck) (by decide) h⟩
theorem sc_weights_of : FnScope ["web", "ahead", "behind", "heavy"] ["web"] (defScope s_weights_of) := ⟨rfl, rfl, rfl, by decide +kernel, rfl, by decide +kernel, by decide +kernel⟩
theorem ok_weights_of {P : Program} {w : World} {K : PySem.W.Frag} {mg : Str → Option Value} {base : Heap} (T : Tops K mg) : FnOk P w K mg base (L2.CX P w) 1 T.weights_of.f T.weights_of.fd ["web"] (spF K (ecOf T) 1 fs_weights_of) := by
  refine T.weights_of.F.okX sc_weights_of (fun vs H Q E h => h.1) (fun cdv A outer s H vs Q E hr h => ?_)
  · have hu0 := hr.units0
    have hu64 := hr.units
    have hu65 := units65 hr
    have hu1 := units1 hr
    exact ⟨_, (pss_one (ps_ret (pe_callTy (call_dictT rfl hu64) (by rfl) T.n_dict bt_dict (pa_cons (pe_lc rfl sc_weights_of.nd (pi_tup (pe_ix (ix_seqK (K := K)) (pv 0) pe_int (fun _ _ => rfl))) (blk_of (own := [("ahead", 1), ("behind", 2), ("heavy", 3)]) (by kernel_rfl)) (fun s H C cl fp => (pg_tupK (K := K) rfl (pgs_cons (pg_name (i := 1) sc_weights_of.nd rfl (by first | exact .inl rfl | exact .inr rfl)) (pgs_cons (pg_name (i := 2) sc_weights_of.nd rfl (by first | exact .inl rfl | exact .inr rfl)) (pgs_cons (pg_name (i := 3) sc_weights_of.nd rfl (by first | exact .inl rfl | exact .inr rfl)) pgs_nil))))) (fun s H C cl fp => pts_nil) (fun s H C cl fp => (pe_tup (pa_cons (pe_tup (pa_cons (pv 1) (pa_cons (pv 2) pa_nil))) (pa_cons (pv 3) pa_nil))))) pa_nil)))), fin_gen (ec := ecOf T) (g := sem_weights_of) (snd_ret (m := true) (snd_cb cs_dictT nx_fDictT (snd_cons (snd_comp (si_tup (snd_bin os_ix (snd_var (ltN rfl)) snd_int)) (sg_tup (sgs_cons (sg_name (ltN rfl)) (sgs_cons (sg_name (ltN rfl)) (sgs_cons (sg_name (ltN rfl)) sgs_nil)))) snd_pts0 (snd_tup (snd_cons (snd_tup (snd_cons (snd_var (ltN rfl)) (snd_cons (snd_var (ltN rfl)) snd_nil))) (snd_cons (snd_var (ltN rfl)) snd_nil)))) snd_nil))) (by decide) h⟩
theorem sc_turned_about : FnScope ["web", "ahead", "behind", "heavy"] ["web"] (defScope s_turned_about) := ⟨rfl, rfl, rfl, by decide +kernel, rfl, by decide +kernel, by decide +kernel⟩
def sem_turned_about : Sem :=
  (sSeq (sDrop (eCall fs_checked (aCons (eVar 0) aNil)))
    sStuck)
def fs_turned_about : List D → Rf := fsOf 4 sem_turned_about
theorem ok_turned_about {P : Program} {w : World} {K : PySem.W.Frag} {mg : Str → Option Value} {base : Heap} (T : Tops K mg) : FnOk P w K mg base (L2.CX P w) 6 T.turned_about.f T.turned_about.fd ["web"] (spF K (ecOf T) 1 fs_turned_about) := by
  refine T.turned_about.F.okX sc_turned_about (fun vs H Q E h => h.1) (fun cdv A outer s H vs Q E hr h => ?_)
  · have hu0 := hr.units0
    have hu64 := hr.units
    have hu65 := units65 hr
    have hu1 := units1 hr
    exact ⟨_, (pss_cons (ps_expr (pe_callS (ok_checked T) (hr.mono (by decide)) (by rfl) T.checked.g T.checked.k T.checked.b (fun σ => passAt (takes_of rfl rfl rfl rfl) σ) (pa_cons (pv 0) pa_nil)))
      pss_stuck), fin_gen (ec := ecOf T) (g := sem_turned_about) (snd_seq (snd_drop (m := true) (snd_call (snd_cons (snd_var (ltN rfl)) snd_nil)))
      snd_stuck) (by decide) h⟩
theorem sc_joined : FnScope ["one", "other", "more", "ahead", "behind", "heavy"] ["one", "other"] (defScope s_joined) := ⟨rfl, rfl, rfl, by decide +kernel, rfl, by decide +kernel, by decide +kernel⟩
def sem_joined : Sem :=
  (sSeq (sDrop (eCall fs_checked (aCons (eVar 0) aNil)))
    (sSeq (sDrop (eCall fs_checked (aCons (eVar 1) aNil)))
    (sSeq (sIf (tsE (eBin opGt (eBin opAdd (eBin opIx (eVar 0) (eC (.int 0))) (eBin opIx (eVar 1) (eC (.int 0)))) (eC (.int 7)))) (sRaise .tooBig) sNext)
    sStuck)))
def fs_joined : List D → Rf := fsOf 6 sem_joined
theorem ok_joined {P : Program} {w : World} {K : PySem.W.Frag} {mg : Str → Option Value} {base : Heap} (T : Tops K mg) : FnOk P w K mg base (L2.CX P w) 6 T.joined.f T.joined.fd ["one", "other"] (spF K (ecOf T) 2 fs_joined) := by
  refine T.joined.F.okX sc_joined (fun vs H Q E h => h.1) (fun cdv A outer s H vs Q E hr h => ?_)
  · have hu0 := hr.units0
    have hu64 := hr.units
    have hu65 := units65 hr
    have hu1 := units1 hr
    exact ⟨_, (pss_cons (ps_expr (pe_callS (ok_checked T) (hr.mono (by decide)) (by rfl) T.checked.g T.checked.k T.checked.b (fun σ => passAt (takes_of rfl rfl rfl rfl) σ) (pa_cons (pv 0) pa_nil)))
      (pss_cons (ps_expr (pe_callS (ok_checked T) (hr.mono (by decide)) (by rfl) T.checked.g T.checked.k T.checked.b (fun σ => passAt (takes_of rfl rfl rfl rfl) σ) (pa_cons (pv 1) pa_nil)))
      (pss_cons (ps_if (pt_cmpR op_gt (pe_op op_addAll (pe_ix (ix_seqK (K := K)) (pv 0) pe_int (fun _ _ => rfl)) (pe_ix (ix_seqK (K := K)) (pv 1) pe_int (fun _ _ => rfl))) (pe_glob (v := .int 7) (by rfl) T.c_THINGS_webs.2 ⟨_, rfl⟩) (nomark _)) (pss_one (ps_raise rfl (takes_of rfl rfl rfl rfl) (pmk_own PySem.F.excBase_ValueError T.x_TooBig.q T.x_TooBig.g T.x_TooBig.k (raises_own T.x_TooBig.e T.x_TooBig.t) (by rfl)))) pss_nil)
      pss_stuck))), fin_gen (ec := ecOf T) (g := sem_joined) (snd_seq (snd_drop (m := true) (snd_call (snd_cons (snd_var (ltN rfl)) snd_nil)))
      (snd_seq (snd_drop (m := true) (snd_call (snd_cons (snd_var (ltN rfl)) snd_nil)))
      (snd_seq (snd_if (snd_ts (snd_bin os_gt (snd_bin os_add (snd_bin os_ix (snd_var (ltN rfl)) snd_int) (snd_bin os_ix (snd_var (ltN rfl)) snd_int)) snd_int)) (snd_raise (c := .tooBig)) snd_next)
      snd_stuck))) (by decide) h⟩
theorem sc_with_arrow : FnScope ["web", "ahead", "behind", "more", "found", "pair"] ["web", "ahead", "behind", "more"] (defScope s_with_arrow) := ⟨rfl, rfl, rfl, by decide +kernel, rfl, by decide +kernel, by decide +kernel⟩
def sem_with_arrow : Sem :=
  (sSeq (sDrop (eCall fs_checked (aCons (eVar 0) aNil)))
    (sSeq (sIf (tsOr (tsNot (tsE (eCall fs_between (aCons (eVar 1) (aCons (eC (.int 0)) (aCons (eBin opSub (eBin opIx (eVar 0) (eC (.int 0))) (eC (.int 1))) aNil)))))) (tsOr (tsNot (tsE (eCall fs_between (aCons (eVar 2) (aCons (eC (.int 0)) (aCons (eBin opSub (eBin opIx (eVar 0) (eC (.int 0))) (eC (.int 1))) aNil)))))) (tsE (eBin opEq (eVar 1) (eVar 2))))) (sRaise .noNumber) sNext)
    sStuck))
def fs_with_arrow : List D → Rf := fsOf 6 sem_with_arrow
theorem ok_with_arrow {P : Program} {w : World} {K : PySem.W.Frag} {mg : Str → Option Value} {base : Heap} (T : Tops K mg) : FnOk P w K mg base (L2.CX P w) 6 T.with_arrow.f T.with_arrow.fd ["web", "ahead", "behind", "more"] (spF K (ecOf T) 4 fs_with_arrow) := by
  refine T.with_arrow.F.okX sc_with_arrow (fun vs H Q E h => h.1) (fun cdv A outer s H vs Q E hr h => ?_)
  · have hu0 := hr.units0
    have hu64 := hr.units
    have hu65 := units65 hr
    have hu1 := units1 hr
    exact ⟨_, (pss_cons (ps_expr (pe_callS (ok_checked T) (hr.mono (by decide)) (by rfl) T.checked.g T.checked.k T.checked.b (fun σ => passAt (takes_of rfl rfl rfl rfl) σ) (pa_cons (pv 0) pa_nil)))
      (pss_cons (ps_if (PW.pt (pw_or (pt_not (pt_val (pe_callS (ok_between T) (hr.mono (by decide)) (by rfl) T.between.g T.between.k T.between.b (fun σ => passAt (takes_of rfl rfl rfl rfl) σ) (pa_cons (pv 1) (pa_cons pe_int (pa_cons (pe_op op_sub (pe_ix (ix_seqK (K := K)) (pv 0) pe_int (fun _ _ => rfl)) pe_int) pa_nil)))))) (pw_or (pt_not (pt_val (pe_callS (ok_between T) (hr.mono (by decide)) (by rfl) T.between.g T.between.k T.between.b (fun σ => passAt (takes_of rfl rfl rfl rfl) σ) (pa_cons (pv 2) (pa_cons pe_int (pa_cons (pe_op op_sub (pe_ix (ix_seqK (K := K)) (pv 0) pe_int (fun _ _ => rfl)) pe_int) pa_nil)))))) (pw_or1 (pt_cmpR (op_eqK (K := K) hu64) (pv 1) (pv 2) (nomark _)))))) (pss_one (ps_raise rfl (takes_of rfl rfl rfl rfl) (pmk_own PySem.F.excBase_ValueError T.x_NoNumber.q T.x_NoNumber.g T.x_NoNumber.k (raises_own T.x_NoNumber.e T.x_NoNumber.t) (by rfl)))) pss_nil)
      pss_stuck)), fin_gen (ec := ecOf T) (g := sem_with_arrow) (snd_seq (snd_drop (m := true) (snd_call (snd_cons (snd_var (ltN rfl)) snd_nil)))
      (snd_seq (snd_if (snd_tor (snd_tnot (snd_tb (snd_call (snd_cons (snd_var (ltN rfl)) (snd_cons snd_int (snd_cons (snd_bin os_sub (snd_bin os_ix (snd_var (ltN rfl)) snd_int) snd_int) snd_nil)))))) (snd_tor (snd_tnot (snd_tb (snd_call (snd_cons (snd_var (ltN rfl)) (snd_cons snd_int (snd_cons (snd_bin os_sub (snd_bin os_ix (snd_var (ltN rfl)) snd_int) snd_int) snd_nil)))))) (snd_ts (snd_bin os_eq (snd_var (ltN rfl)) (snd_var (ltN rfl)))))) (snd_raise (c := .noNumber)) snd_next)
      snd_stuck)) (by decide) h⟩
theorem sc_moved : FnScope ["web", "row", "thing", "place"] ["web", "row", "thing", "place"] (defScope s_moved) := ⟨rfl, rfl, rfl, by decide +kernel, rfl, by decide +kernel, by decide +kernel⟩
def sem_moved : Sem :=
  (sSeq (sDrop (eCall fs_need_row (aCons (eVar 0) (aCons (eVar 1) aNil))))
    (sSeq (sIf (tsOr (tsNot (tsE (eCall fs_between (aCons (eVar 2) (aCons (eC (.int 0)) (aCons (eBin opSub (eBin opIx (eVar 0) (eC (.int 0))) (eC (.int 1))) aNil)))))) (tsNot (tsE (eCall fs_between (aCons (eVar 3) (aCons (eC (.int 0)) (aCons (eBin opSub (eBin opIx (eVar 0) (eC (.int 0))) (eC (.int 1))) aNil))))))) (sRaise .noNumber) sNext)
    sStuck))
def fs_moved : List D → Rf := fsOf 4 sem_moved
theorem ok_moved {P : Program} {w : World} {K : PySem.W.Frag} {mg : Str → Option Value} {base : Heap} (T : Tops K mg) : FnOk P w K mg base (L2.CX P w) 7 T.moved.f T.moved.fd ["web", "row", "thing", "place"] (spF K (ecOf T) 4 fs_moved) := by
  refine T.moved.F.okX sc_moved (fun vs H Q E h => h.1) (fun cdv A outer s H vs Q E hr h => ?_)
  · have hu0 := hr.units0
    have hu64 := hr.units
    have hu65 := units65 hr
    have hu1 := units1 hr
    exact ⟨_, (pss_cons (ps_expr (pe_callS (ok_need_row T) (hr.mono (by decide)) (by rfl) T.need_row.g T.need_row.k T.need_row.b (fun σ => passAt (takes_of rfl rfl rfl rfl) σ) (pa_cons (pv 0) (pa_cons (pv 1) pa_nil))))
      (pss_cons (ps_if (PW.pt (pw_or (pt_not (pt_val (pe_callS (ok_between T) (hr.mono (by decide)) (by rfl) T.between.g T.between.k T.between.b (fun σ => passAt (takes_of rfl rfl rfl rfl) σ) (pa_cons (pv 2) (pa_cons pe_int (pa_cons (pe_op op_sub (pe_ix (ix_seqK (K := K)) (pv 0) pe_int (fun _ _ => rfl)) pe_int) pa_nil)))))) (pw_or1 (pt_not (pt_val (pe_callS (ok_between T) (hr.mono (by decide)) (by rfl) T.between.g T.between.k T.between.b (fun σ => passAt (takes_of rfl rfl rfl rfl) σ) (pa_cons (pv 3) (pa_cons pe_int (pa_cons (pe_op op_sub (pe_ix (ix_seqK (K := K)) (pv 0) pe_int (fun _ _ => rfl)) pe_int) pa_nil))))))))) (pss_one (ps_raise rfl (takes_of rfl rfl rfl rfl) (pmk_own PySem.F.excBase_ValueError T.x_NoNumber.q T.x_NoNumber.g T.x_NoNumber.k (raises_own T.x_NoNumber.e T.x_NoNumber.t) (by rfl)))) pss_nil)
      pss_stuck)), fin_gen (ec := ecOf T) (g := sem_moved) (snd_seq (snd_drop (m := true) (snd_call (snd_cons (snd_var (ltN rfl)) (snd_cons (snd_var (ltN rfl)) snd_nil))))
      (snd_seq (snd_if (snd_tor (snd_tnot (snd_tb (snd_call (snd_cons (snd_var (ltN rfl)) (snd_cons snd_int (snd_cons (snd_bin os_sub (snd_bin os_ix (snd_var (ltN rfl)) snd_int) snd_int) snd_nil)))))) (snd_tnot (snd_tb (snd_call (snd_cons (snd_var (ltN rfl)) (snd_cons snd_int (snd_cons (snd_bin os_sub (snd_bin os_ix (snd_var (ltN rfl)) snd_int) snd_int) snd_nil))))))) (snd_raise (c := .noNumber)) snd_next)
      snd_stuck)) (by decide) h⟩
theorem sc_is_settled : FnScope ["web", "row"] ["web", "row"] (defScope s_is_settled) := ⟨rfl, rfl, rfl, by decide +kernel, rfl, by decide +kernel, by decide +kernel⟩
def sem_is_settled : Sem :=
  (sSeq (sDrop (eCall fs_need_row (aCons (eVar 0) (aCons (eVar 1) aNil))))
    sStuck)
def fs_is_settled : List D → Rf := fsOf 2 sem_is_settled
theorem ok_is_settled {P : Program} {w : World} {K : PySem.W.Frag} {mg : Str → Option Value} {base : Heap} (T : Tops K mg) : FnOk P w K mg base (L2.CX P w) 7 T.is_settled.f T.is_settled.fd ["web", "row"] (spF K (ecOf T) 2 fs_is_settled) := by
  refine T.is_settled.F.okX sc_is_settled (fun vs H Q E h => h.1) (fun cdv A outer s H vs Q E hr h => ?_)
  · have hu0 := hr.units0
    have hu64 := hr.units
    have hu65 := units65 hr
    have hu1 := units1 hr
    exact ⟨_, (pss_cons (ps_expr (pe_callS (ok_need_row T) (hr.mono (by decide)) (by rfl) T.need_row.g T.need_row.k T.need_row.b (fun σ => passAt (takes_of rfl rfl rfl rfl) σ) (pa_cons (pv 0) (pa_cons (pv 1) pa_nil))))
      pss_stuck), fin_gen (ec := ecOf T) (g := sem_is_settled) (snd_seq (snd_drop (m := true) (snd_call (snd_cons (snd_var (ltN rfl)) (snd_cons (snd_var (ltN rfl)) snd_nil))))
      snd_stuck) (by decide) h⟩
theorem sc_better : FnScope ["web", "row", "made", "other"] ["web", "row"] (defScope s_better) := ⟨rfl, rfl, rfl, by decide +kernel, rfl, by decide +kernel, by decide +kernel⟩
def sem_better : Sem :=
  (sSeq (sDrop (eCall fs_need_row (aCons (eVar 0) (aCons (eVar 1) aNil))))
    sStuck)
def fs_better : List D → Rf := fsOf 4 sem_better
theorem ok_better {P : Program} {w : World} {K : PySem.W.Frag} {mg : Str → Option Value} {base : Heap} (T : Tops K mg) : FnOk P w K mg base (L2.CX P w) 7 T.better.f T.better.fd ["web", "row"] (spF K (ecOf T) 2 fs_better) := by
  refine T.better.F.okX sc_better (fun vs H Q E h => h.1) (fun cdv A outer s H vs Q E hr h => ?_)
  · have hu0 := hr.units0
    have hu64 := hr.units
    have hu65 := units65 hr
    have hu1 := units1 hr
    exact ⟨_, (pss_cons (ps_expr (pe_callS (ok_need_row T) (hr.mono (by decide)) (by rfl) T.need_row.g T.need_row.k T.need_row.b (fun σ => passAt (takes_of rfl rfl rfl rfl) σ) (pa_cons (pv 0) (pa_cons (pv 1) pa_nil))))
      pss_stuck), fin_gen (ec := ecOf T) (g := sem_better) (snd_seq (snd_drop (m := true) (snd_call (snd_cons (snd_var (ltN rfl)) (snd_cons (snd_var (ltN rfl)) snd_nil))))
      snd_stuck) (by decide) h⟩
theorem sc_Table_init : FnScope ["self", "web", "kept"] ["self", "web", "kept"] (defScope (inClass (topS 42) 0)) := ⟨rfl, rfl, rfl, by decide +kernel, rfl, by decide +kernel, by decide +kernel⟩
theorem ok_Table_init {P : Program} {w : World} {K : PySem.W.Frag} {mg : Str → Option Value} {base : Heap} (T : Tops K mg) : FnOk P w K mg base (L2.CX P w) 2 T.Table_init.f T.Table_init.fd ["self", "web", "kept"] (spM K T.Table_C fns_Table 2 fm_Table_init) := by
  refine T.Table_init.F.okX sc_Table_init (fun vs H Q E h => h.1) (fun cdv A outer s H vs Q E hr h => ?_)
  · have hu0 := hr.units0
    have hu64 := hr.units
    have hu65 := units65 hr
    have hu1 := units1 hr
    exact ⟨_, (pss_cons (ps_fld (pv 0) (pe_ix (ix_seqK (K := K)) (pv 1) pe_int (fun _ _ => rfl)) (by rfl))
      (pss_cons (ps_fld (pv 0) (pe_callS (ok_weights_of T) (hr.mono (by decide)) (by rfl) T.weights_of.g T.weights_of.k T.weights_of.b (fun σ => passAt (takes_of rfl rfl rfl rfl) σ) (pa_cons (pv 1) pa_nil)) (by rfl))
      (pss_cons (ps_fld (pv 0) (pv 2) (by rfl))
      (pss_one (ps_fld (pv 0) pe_dnewK (by rfl)))))), fin_genM (ec := ecOf T) (g := sem_Table_init) (fun p => (snd_seq (snd_setF (j := 0) (ltN rfl) rfl rfl nd_Table (ltN rfl) T.Table_cls T.Table_na_many (snd_bin os_ix (snd_var (ltN rfl)) snd_int))
      (snd_seq (snd_setF (j := 1) (ltN rfl) rfl rfl nd_Table (ltN rfl) T.Table_cls T.Table_na_weights (snd_call (snd_cons (snd_var (ltN rfl)) snd_nil)))
      (snd_seq (snd_setF (j := 2) (ltN rfl) rfl rfl nd_Table (ltN rfl) T.Table_cls T.Table_na_kept (snd_var (ltN rfl)))
      (snd_setF (j := 3) (ltN rfl) rfl rfl nd_Table (ltN rfl) T.Table_cls T.Table_na_known snd_dnewK))))) (by decide) h⟩
theorem sc_Table_stands : FnScope ["self", "some", "number"] ["self", "some", "number"] (defScope (inClass (topS 42) 1)) := ⟨rfl, rfl, rfl, by decide +kernel, rfl, by decide +kernel, by decide +kernel⟩
theorem ok_Table_stands {P : Program} {w : World} {K : PySem.W.Frag} {mg : Str → Option Value} {base : Heap} (T : Tops K mg) : FnOk P w K mg base (L2.CX P w) 1 T.Table_stands.f T.Table_stands.fd ["self", "some", "number"] (spM K T.Table_C fns_Table 2 fm_Table_stands) := by
  refine T.Table_stands.F.okX sc_Table_stands (fun vs H Q E h => h.1) (fun cdv A outer s H vs Q E hr h => ?_)
  · have hu0 := hr.units0
    have hu64 := hr.units
    have hu65 := units65 hr
    have hu1 := units1 hr
    exact ⟨_, (pss_one (ps_ret (pe_cmpR (op_eqK (K := K) hu64) (pe_op op_mod (pe_op op_fdivW (pv 1) (pe_ix (ix_seqK (K := K)) (pe_glob (v := .ref T.c_POWERS) (by rfl) T.g_POWERS rfl) (pv 2) (fun _ _ => rfl))) pe_int) pe_int (nomark _)))), fin_genM (ec := ecOf T) (g := sem_Table_stands) (fun p => (snd_ret (m := true) (snd_bin os_eq (snd_bin os_mod (snd_bin os_div (snd_var (ltN rfl)) (snd_bin os_ix (snd_ktup T.k_POWERS (by decide) (Reps.ints _)) (snd_var (ltN rfl)))) snd_int) snd_int))) (by decide) h⟩
theorem sc_Table_cost : FnScope ["self", "some", "number", "made", "other"] ["self", "some", "number"] (defScope (inClass (topS 42) 2)) := ⟨rfl, rfl, rfl, by decide +kernel, rfl, by decide +kernel, by decide +kernel⟩
theorem ok_Table_cost {P : Program} {w : World} {K : PySem.W.Frag} {mg : Str → Option Value} {base : Heap} (T : Tops K mg) : FnOk P w K mg base (L2.CX P w) 2 T.Table_cost.f T.Table_cost.fd ["self", "some", "number"] (spM K T.Table_C fns_Table 2 fm_Table_cost) := by
  refine T.Table_cost.F.okX sc_Table_cost (fun vs H Q E h => h.1) (fun cdv A outer s H vs Q E hr h => ?_)
  · have hu0 := hr.units0
    have hu64 := hr.units
    have hu65 := units65 hr
    have hu1 := units1 hr
    exact ⟨_, (pss_cons (ps_set (i := 3) sc_Table_cost.nd rfl (by first | exact .inl rfl | exact .inr rfl) pe_int)
      (pss_cons (ps_for (passes_of rfl) rfl (pi_range1 (by rfl) T.n_range (pa_cons (pe_fld (pv 0) (by rfl)) pa_nil)) (pg_name (i := 4) sc_Table_cost.nd rfl (by first | exact .inl rfl | exact .inr rfl))
      (pss_one (ps_if (pt_val (pe_meth (E := fun _ _ _ => False) (pv 0) T.Table_cls T.Table_stands.m (ok_Table_stands T) (hr.mono (by first | decide | omega)) T.Table_stands.b .nil pass0E (pa_cons (pv 1) (pa_cons (pv 4) pa_nil)))) (pss_one (ps_set (i := 3) sc_Table_cost.nd rfl (by first | exact .inl rfl | exact .inr rfl) (pe_op op_addAll (pv 3) (pe_dget2 hu1 (pe_fld (pv 0) (by rfl)) (pe_tup (pa_cons (pv 2) (pa_cons (pv 4) pa_nil))) pe_int ⟨rfl, rfl, rfl, rfl⟩)))) pss_nil)))
      (pss_one (ps_ret (pv 3))))), fin_genM (ec := ecOf T) (g := sem_Table_cost) (fun p => (snd_seq (snd_set (m := true) (ltN rfl) snd_int)
      (snd_seq (snd_for (m := true) (si_rng1 (snd_cons (snd_fld (j := 0) (ltN rfl) rfl rfl T.Table_cls T.Table_na_many) snd_nil)) (sg_name (ltN rfl))
      (snd_if (snd_tb (snd_self (ltN rfl) rfl (nmem rfl) (snd_consM (snd_var (ltN rfl)) (snd_consM (snd_var (ltN rfl)) snd_nil)))) (snd_set (m := true) (ltN rfl) (snd_bin os_add (snd_var (ltN rfl)) (snd_dget2 (snd_fld (j := 1) (ltN rfl) rfl rfl T.Table_cls T.Table_na_weights) (snd_tup (snd_cons (snd_var (ltN rfl)) (snd_cons (snd_var (ltN rfl)) snd_nil))) snd_int))) snd_next))
      (snd_ret (m := true) (snd_var (ltN rfl)))))) (by decide) h⟩
theorem sc_Table_may_come : FnScope ["self", "some", "number", "one", "other"] ["self", "some", "number"] (defScope (inClass (topS 42) 3)) := ⟨rfl, rfl, rfl, by decide +kernel, rfl, by decide +kernel, by decide +kernel⟩
theorem ok_Table_may_come {P : Program} {w : World} {K : PySem.W.Frag} {mg : Str → Option Value} {base : Heap} (T : Tops K mg) : FnOk P w K mg base (L2.CX P w) 2 T.Table_may_come.f T.Table_may_come.fd ["self", "some", "number"] (spM K T.Table_C fns_Table 2 fm_Table_may_come) := by
  refine T.Table_may_come.F.okX sc_Table_may_come (fun vs H Q E h => h.1) (fun cdv A outer s H vs Q E hr h => ?_)
  · have hu0 := hr.units0
    have hu64 := hr.units
    have hu65 := units65 hr
    have hu1 := units1 hr
    exact ⟨_, (pss_cons (ps_if (pt_val (pe_meth (E := fun _ _ _ => False) (pv 0) T.Table_cls T.Table_stands.m (ok_Table_stands T) (hr.mono (by first | decide | omega)) T.Table_stands.b .nil pass0E (pa_cons (pv 1) (pa_cons (pv 2) pa_nil)))) (pss_one (ps_ret pe_bl)) pss_nil)
      (pss_one (ps_ret (pe_callB (cr_all rfl) (by rfl) T.n_all bt_all (pa_cons (pe_lc rfl sc_Table_may_come.nd (pi_list (pe_fld (pv 0) (by rfl))) (blk_of (own := [("one", 3), ("other", 4)]) (by kernel_rfl)) (fun s H C cl fp => (pg_tupK (K := K) rfl (pgs_cons (pg_name (i := 3) sc_Table_may_come.nd rfl (by first | exact .inl rfl | exact .inr rfl)) (pgs_cons (pg_name (i := 4) sc_Table_may_come.nd rfl (by first | exact .inl rfl | exact .inr rfl)) pgs_nil)))) (fun s H C cl fp => (pts_one (pt_cmpR (op_eqK (K := K) hu64) (pv 4) (pv 2) (nomark _)))) (fun s H C cl fp => (pe_meth (E := fun _ _ _ => False) (pv 0) T.Table_cls T.Table_stands.m (ok_Table_stands T) (hr.mono (by first | decide | omega)) T.Table_stands.b .nil pass0E (pa_cons (pv 1) (pa_cons (pv 3) pa_nil))))) pa_nil))))), fin_genM (ec := ecOf T) (g := sem_Table_may_come) (fun p => (snd_seq (snd_if (snd_tb (snd_self (ltN rfl) rfl (nmem rfl) (snd_consM (snd_var (ltN rfl)) (snd_consM (snd_var (ltN rfl)) snd_nil)))) (snd_ret (m := true) snd_bl) snd_next)
      (snd_ret (m := true) (snd_cb cs_all nx_fAll (snd_consM (snd_comp (si_list (snd_fld (j := 2) (ltN rfl) rfl rfl T.Table_cls T.Table_na_kept)) (sg_tup (sgs_cons (sg_name (ltN rfl)) (sgs_cons (sg_name (ltN rfl)) sgs_nil))) (snd_ts (snd_bin os_eq (snd_var (ltN rfl)) (snd_var (ltN rfl)))) (snd_self (ltN rfl) rfl (nmem rfl) (snd_consM (snd_var (ltN rfl)) (snd_consM (snd_var (ltN rfl)) snd_nil)))) snd_nil))))) (by decide) h⟩
theorem sc_Table_found : FnScope ["self", "some", "rows", "number", "later", "low", "whole", "ways"] ["self", "some"] (defScope (inClass (topS 42) 5)) := ⟨rfl, rfl, rfl, by decide +kernel, rfl, by decide +kernel, by decide +kernel⟩
theorem sc_Table_best : FnScope ["self", "some"] ["self", "some"] (defScope (inClass (topS 42) 4)) := ⟨rfl, rfl, rfl, by decide +kernel, rfl, by decide +kernel, by decide +kernel⟩
theorem ok_Table_found0 {P : Program} {w : World} {K : PySem.W.Frag} {mg : Str → Option Value} {base : Heap} (T : Tops K mg) (n : Nat) (ih : FnOk P w K mg base (L2.CX P w) (2 * n + 3) T.Table_best.f T.Table_best.fd ["self", "some"] (spM K T.Table_C fns_Table 1 (fm_Table_best n))) : FnOk P w K mg base (L2.CX P w) (2 * n + 3 + 1) T.Table_found.f T.Table_found.fd ["self", "some"] (spM K T.Table_C fns_Table 1 (fmOf 8 (sem_Table_found (fm_Table_best n)))) := by
  refine T.Table_found.F.okX sc_Table_found (fun vs H Q E h => h.1) (fun cdv A outer s H vs Q E hr h => ?_)
  · have hu0 := hr.units0
    have hu64 := hr.units
    have hu65 := units65 hr
    have hu1 := units1 hr
    exact ⟨_, (pss_cons (ps_if (pt_cmpR (op_eqK (K := K) hu64) (pv 1) (pe_op op_sub (pe_ix (ix_seqK (K := K)) (pe_glob (v := .ref T.c_POWERS) (by rfl) T.g_POWERS rfl) (pe_fld (pv 0) (by rfl)) (fun _ _ => rfl)) pe_int) (nomark _)) (pss_one (ps_ret (pe_tup (pa_cons pe_int (pa_cons pe_int pa_nil))))) pss_nil)
      (pss_cons (ps_set (i := 2) sc_Table_found.nd rfl (by first | exact .inl rfl | exact .inr rfl) (pe_lst pa_nil))
      (pss_cons (ps_for (passes_of rfl) rfl (pi_range1 (by rfl) T.n_range (pa_cons (pe_fld (pv 0) (by rfl)) pa_nil)) (pg_name (i := 3) sc_Table_found.nd rfl (by first | exact .inl rfl | exact .inr rfl))
      (pss_one (ps_if (pt_val (pe_meth (E := fun _ _ _ => False) (pv 0) T.Table_cls T.Table_may_come.m (ok_Table_may_come T) (hr.mono (by first | decide | omega)) T.Table_may_come.b .nil pass0E (pa_cons (pv 1) (pa_cons (pv 3) pa_nil)))) (pss_cons (ps_set (i := 4) sc_Table_found.nd rfl (by first | exact .inl rfl | exact .inr rfl) (pe_meth (E := fun _ _ _ => False) (pv 0) T.Table_cls T.Table_best.m ih (hr.mono (by first | decide | omega)) T.Table_best.b .nil pass0E (pa_cons (pe_op op_addAll (pv 1) (pe_ix (ix_seqK (K := K)) (pe_glob (v := .ref T.c_POWERS) (by rfl) T.g_POWERS rfl) (pv 3) (fun _ _ => rfl))) pa_nil)))
      (pss_one (ps_if (pt_cmpR op_notN (pv 4) pe_non (nomark _)) (pss_one (ps_expr (pe_bm PySem.F.plainAttrs_list PySem.F.slot_list_append PySem.F.type_list_append mt_append (pv 2) (pa_cons (pe_tup (pa_cons (pe_op op_addAll (pe_ix (ix_seqK (K := K)) (pv 4) pe_int (fun _ _ => rfl)) (pe_meth (E := fun _ _ _ => False) (pv 0) T.Table_cls T.Table_cost.m (ok_Table_cost T) (hr.mono (by first | decide | omega)) T.Table_cost.b .nil pass0E (pa_cons (pv 1) (pa_cons (pv 3) pa_nil)))) (pa_cons (pe_ix (ix_seqK (K := K)) (pv 4) pe_int (fun _ _ => rfl)) pa_nil))) pa_nil)))) pss_nil))) pss_nil)))
      (pss_cons (ps_if (pt_cmpR (op_eqK (K := K) hu64) (pv 2) (pe_lst pa_nil) (nomark _)) (pss_one (ps_ret pe_non)) pss_nil)
      (pss_cons (ps_set (i := 5) sc_Table_found.nd rfl (by first | exact .inl rfl | exact .inr rfl) (pe_ix (ix_seqK (K := K)) (pe_callB (cr_minD rfl hu64) (by rfl) T.n_min bt_min (pa_cons (pv 2) pa_nil)) pe_int (fun _ _ => rfl)))
      (pss_one (ps_ret (pe_tup (pa_cons (pv 5) (pa_cons (pe_callB (cr_sum rfl) (by rfl) T.n_sum bt_sum (pa_cons (pe_lc rfl sc_Table_found.nd (pi_list (pv 2)) (blk_of (own := [("whole", 6), ("ways", 7)]) (by kernel_rfl)) (fun s H C cl fp => (pg_tupK (K := K) rfl (pgs_cons (pg_name (i := 6) sc_Table_found.nd rfl (by first | exact .inl rfl | exact .inr rfl)) (pgs_cons (pg_name (i := 7) sc_Table_found.nd rfl (by first | exact .inl rfl | exact .inr rfl)) pgs_nil)))) (fun s H C cl fp => (pts_one (pt_cmpR (op_eqK (K := K) hu64) (pv 6) (pv 5) (nomark _)))) (fun s H C cl fp => (pv 7))) pa_nil)) pa_nil)))))))))), fin_genM (ec := ecOf T) (g := sem_Table_found (fm_Table_best n)) (fun p => (snd_seq (snd_if (snd_ts (snd_bin os_eq (snd_var (ltN rfl)) (snd_bin os_sub (snd_bin os_ix (snd_ktup T.k_POWERS (by decide) (Reps.ints _)) (snd_fld (j := 0) (ltN rfl) rfl rfl T.Table_cls T.Table_na_many)) snd_int))) (snd_ret (m := true) (snd_tup (snd_cons snd_int (snd_cons snd_int snd_nil)))) snd_next)
      (snd_seq (snd_set (m := true) (ltN rfl) (snd_lst snd_nil))
      (snd_seq (snd_for (m := true) (si_rng1 (snd_cons (snd_fld (j := 0) (ltN rfl) rfl rfl T.Table_cls T.Table_na_many) snd_nil)) (sg_name (ltN rfl))
      (snd_if (snd_tb (snd_self (ltN rfl) rfl (nmem rfl) (snd_consM (snd_var (ltN rfl)) (snd_consM (snd_var (ltN rfl)) snd_nil)))) (snd_seq (snd_set (m := true) (ltN rfl) (snd_self (ltN rfl) rfl (nmem rfl) (snd_consM (snd_bin os_add (snd_var (ltN rfl)) (snd_bin os_ix (snd_ktup T.k_POWERS (by decide) (Reps.ints _)) (snd_var (ltN rfl)))) snd_nil)))
      (snd_if (snd_ts (snd_bin os_isNot (snd_var (ltN rfl)) snd_non)) (snd_drop (m := true) (snd_mut (sp_var (ltN rfl)) ms_append (snd_consM (snd_tup (snd_consM (snd_binM os_add (snd_bin os_ix (snd_var (ltN rfl)) snd_int) (snd_self (ltN rfl) rfl (nmem rfl) (snd_consM (snd_var (ltN rfl)) (snd_consM (snd_var (ltN rfl)) snd_nil)))) (snd_consM (snd_bin os_ix (snd_var (ltN rfl)) snd_int) snd_nil))) snd_nil) (.inr (ltN rfl)))) snd_next)) snd_next))
      (snd_seq (snd_if (snd_ts (snd_bin os_eq (snd_var (ltN rfl)) (snd_lst snd_nil))) (snd_ret (m := true) snd_non) snd_next)
      (snd_seq (snd_set (m := true) (ltN rfl) (snd_bin os_ix (snd_cb cs_minD nx_fMinD (snd_cons (snd_var (ltN rfl)) snd_nil)) snd_int))
      (snd_ret (m := true) (snd_tup (snd_cons (snd_var (ltN rfl)) (snd_cons (snd_cb cs_sum nx_fSum (snd_cons (snd_comp (si_list (snd_var (ltN rfl))) (sg_tup (sgs_cons (sg_name (ltN rfl)) (sgs_cons (sg_name (ltN rfl)) sgs_nil))) (snd_ts (snd_bin os_eq (snd_var (ltN rfl)) (snd_var (ltN rfl)))) (snd_var (ltN rfl))) snd_nil)) snd_nil)))))))))) (by decide) h⟩
theorem ok_Table_best0 {P : Program} {w : World} {K : PySem.W.Frag} {mg : Str → Option Value} {base : Heap} (T : Tops K mg) : ∀ n : Nat, FnOk P w K mg base (L2.CX P w) (2 * n + 3) T.Table_best.f T.Table_best.fd ["self", "some"] (spM K T.Table_C fns_Table 1 (fm_Table_best n))
  | 0 => ⟨fun vs H Q E h => h.1, fun A outer s H args us vs Q E hr he hb hv h => by obtain ⟨_, p, vs', _, B, F, ds, fv, fs, _, _, _, _, d, fs', e, _⟩ := h; cases e⟩
  | n + 1 => by
    have ih := ok_Table_best0 (P := P) (w := w) (base := base) T n
    rw [show 2 * (n + 1) + 3 = 2 * n + 3 + 1 + 1 from by omega]
    refine T.Table_best.F.okX sc_Table_best (fun vs H Q E h => h.1) (fun cdv A outer s H vs Q E hr h => ?_)
    have hu0 := hr.units0
    have hu64 := hr.units
    have hu65 := units65 hr
    have hu1 := units1 hr
    exact ⟨_, (pss_cons (ps_if (pt_cmpR (op_notInA hu65) (pv 1) (pe_fld (pv 0) (by rfl)) (by with_unfolding_all rfl)) (pss_one (ps_dput hu1 (pe_fld (pv 0) (by rfl)) (pv 1) (pe_meth (E := fun _ _ _ => False) (pv 0) T.Table_cls T.Table_found.m (ok_Table_found0 T n ih) (hr.mono (by first | decide | omega)) T.Table_found.b .nil pass0E (pa_cons (pv 1) pa_nil)) (by rfl))) pss_nil)
      (pss_one (ps_ret (pe_dget hu1 (pe_fld (pv 0) (by rfl)) (pv 1) (fun _ _ => rfl))))), fin_genM (ec := ecOf T) (g := sem_Table_best (fmOf 8 (sem_Table_found (fm_Table_best n)))) (fun p => (snd_seq (snd_if (snd_ts (snd_bin os_notIn (snd_var (ltN rfl)) (snd_fld (j := 3) (ltN rfl) rfl rfl T.Table_cls T.Table_na_known))) (snd_dput (m := false) (sp_fld (j := 3) (ltN rfl) rfl rfl T.Table_cls T.Table_na_known) (snd_var (ltN rfl)) (snd_self (ltN rfl) rfl (nmem rfl) (snd_consM (snd_var (ltN rfl)) snd_nil)) (.inl rfl)) snd_next)
      (snd_ret (m := true) (snd_bin os_dget (snd_fld (j := 3) (ltN rfl) rfl rfl T.Table_cls T.Table_na_known) (snd_var (ltN rfl)))))) (by decide) h⟩
theorem ok_Table_best {P : Program} {w : World} {K : PySem.W.Frag} {mg : Str → Option Value} {base : Heap} (T : Tops K mg) : FnOk P w K mg base (L2.CX P w) 23 T.Table_best.f T.Table_best.fd ["self", "some"] (spM K T.Table_C fns_Table 1 (fm_Table_best 10)) := ok_Table_best0 T 10
theorem sc_least_of : FnScope ["web", "table"] ["web"] (defScope s_least_of) := ⟨rfl, rfl, rfl, by decide +kernel, rfl, by decide +kernel, by decide +kernel⟩
def sem_least_of : Sem :=
  sStuck
def fs_least_of : List D → Rf := fsOf 2 sem_least_of
theorem ok_least_of {P : Program} {w : World} {K : PySem.W.Frag} {mg : Str → Option Value} {base : Heap} (T : Tops K mg) : FnOk P w K mg base (L2.CX P w) 1 T.least_of.f T.least_of.fd ["web"] (spF K (ecOf T) 1 fs_least_of) := by
  refine T.least_of.F.okX sc_least_of (fun vs H Q E h => h.1) (fun cdv A outer s H vs Q E hr h => ?_)
  · have hu0 := hr.units0
    have hu64 := hr.units
    have hu65 := units65 hr
    have hu1 := units1 hr
    exact ⟨_, pss_stuck, fin_gen (ec := ecOf T) (g := sem_least_of) snd_stuck (by decide) h⟩
theorem sc_least : FnScope ["web"] ["web"] (defScope s_least) := ⟨rfl, rfl, rfl, by decide +kernel, rfl, by decide +kernel, by decide +kernel⟩
def sem_least : Sem :=
  (sRet (eCall fs_least_of (aCons (eCall fs_checked (aCons (eVar 0) aNil)) aNil)))
def fs_least : List D → Rf := fsOf 1 sem_least
theorem ok_least {P : Program} {w : World} {K : PySem.W.Frag} {mg : Str → Option Value} {base : Heap} (T : Tops K mg) : FnOk P w K mg base (L2.CX P w) 6 T.least.f T.least.fd ["web"] (spF K (ecOf T) 1 fs_least) := by
  refine T.least.F.okX sc_least (fun vs H Q E h => h.1) (fun cdv A outer s H vs Q E hr h => ?_)
  · have hu0 := hr.units0
    have hu64 := hr.units
    have hu65 := units65 hr
    have hu1 := units1 hr
    exact ⟨_, (pss_one (ps_ret (pe_callS (ok_least_of T) (hr.mono (by decide)) (by rfl) T.least_of.g T.least_of.k T.least_of.b (fun σ => passAt (takes_of rfl rfl rfl rfl) σ) (pa_cons (pe_callS (ok_checked T) (hr.mono (by decide)) (by rfl) T.checked.g T.checked.k T.checked.b (fun σ => passAt (takes_of rfl rfl rfl rfl) σ) (pa_cons (pv 0) pa_nil)) pa_nil)))), fin_gen (ec := ecOf T) (g := sem_least) (snd_ret (m := true) (snd_call (snd_cons (snd_call (snd_cons (snd_var (ltN rfl)) snd_nil)) snd_nil))) (by decide) h⟩
theorem sc_count_best : FnScope ["web"] ["web"] (defScope s_count_best) := ⟨rfl, rfl, rfl, by decide +kernel, rfl, by decide +kernel, by decide +kernel⟩
theorem ok_count_best {P : Program} {w : World} {K : PySem.W.Frag} {mg : Str → Option Value} {base : Heap} (T : Tops K mg) : FnOk P w K mg base (L2.CX P w) 24 T.count_best.f T.count_best.fd ["web"] (spF K (ecOf T) 1 fs_count_best) := by
  refine T.count_best.F.okX sc_count_best (fun vs H Q E h => h.1) (fun cdv A outer s H vs Q E hr h => ?_)
  · have hu0 := hr.units0
    have hu64 := hr.units
    have hu65 := units65 hr
    have hu1 := units1 hr
    exact ⟨_, (pss_one (ps_ret (pe_ix (ix_seqK (K := K)) (pe_meth (E := fun _ _ _ => False) (pe_make (E := fun _ _ _ => False) T.Table_init.mo (ok_Table_init T) (hr.mono (by decide)) (by rfl) T.Table_g T.Table_init.b .nil pass0E (pa_cons (pe_callS (ok_checked T) (hr.mono (by decide)) (by rfl) T.checked.g T.checked.k T.checked.b (fun σ => passAt (takes_of rfl rfl rfl rfl) σ) (pa_cons (pv 0) pa_nil)) (pa_cons (pe_lst pa_nil) pa_nil))) T.Table_cls T.Table_best.m (ok_Table_best T) (hr.mono (by decide)) T.Table_best.b .nil pass0E (pa_cons pe_int pa_nil)) pe_int (fun _ _ => rfl)))), fin_gen (ec := ecOf T) (g := sem_count_best) (snd_ret (m := true) (snd_bin os_ix (snd_mk (fns := fns_Table) (vs2 := [.int 0]) (ds2 := [.int 0]) (nmem rfl) (fun _ _ _ h => h) rfl (fun _ => .cons (.int _) .nil) (snd_cons (snd_call (snd_cons (snd_var (ltN rfl)) snd_nil)) (snd_cons (snd_lst snd_nil) snd_nil))) snd_int)) (by decide) h⟩
theorem sc_sure : FnScope ["web", "low", "made", "one", "other"] ["web"] (defScope s_sure) := ⟨rfl, rfl, rfl, by decide +kernel, rfl, by decide +kernel, by decide +kernel⟩
def sem_sure : Sem :=
  (sSeq (sDrop (eCall fs_checked (aCons (eVar 0) aNil)))
    sStuck)
def fs_sure : List D → Rf := fsOf 5 sem_sure
theorem ok_sure {P : Program} {w : World} {K : PySem.W.Frag} {mg : Str → Option Value} {base : Heap} (T : Tops K mg) : FnOk P w K mg base (L2.CX P w) 6 T.sure.f T.sure.fd ["web"] (spF K (ecOf T) 1 fs_sure) := by
  refine T.sure.F.okX sc_sure (fun vs H Q E h => h.1) (fun cdv A outer s H vs Q E hr h => ?_)
  · have hu0 := hr.units0
    have hu64 := hr.units
    have hu65 := units65 hr
    have hu1 := units1 hr
    exact ⟨_, (pss_cons (ps_expr (pe_callS (ok_checked T) (hr.mono (by decide)) (by rfl) T.checked.g T.checked.k T.checked.b (fun σ => passAt (takes_of rfl rfl rfl rfl) σ) (pa_cons (pv 0) pa_nil)))
      pss_stuck), fin_gen (ec := ecOf T) (g := sem_sure) (snd_seq (snd_drop (m := true) (snd_call (snd_cons (snd_var (ltN rfl)) snd_nil)))
      snd_stuck) (by decide) h⟩
theorem sc_next_of : FnScope ["web", "made", "number", "ahead", "behind", "heavy"] ["web"] (defScope s_next_of) := ⟨rfl, rfl, rfl, by decide +kernel, rfl, by decide +kernel, by decide +kernel⟩
theorem ok_next_of {P : Program} {w : World} {K : PySem.W.Frag} {mg : Str → Option Value} {base : Heap} (T : Tops K mg) : FnOk P w K mg base (L2.CX P w) 1 T.next_of.f T.next_of.fd ["web"] (spF K (ecOf T) 1 fs_next_of) := by
  refine T.next_of.F.okX sc_next_of (fun vs H Q E h => h.1) (fun cdv A outer s H vs Q E hr h => ?_)
  · exact ⟨tNext K, pss_cons (ps_setLc (i := 1) rfl sc_next_of.nd rfl rfl (by rfl) (pi_range1 (by rfl) T.n_range (pa_cons (pe_ix (ix_seqK (K := K)) (pv 0) pe_int (fun _ _ => rfl)) pa_nil)) (blk_of (own := [("number", 2)]) (by kernel_rfl)) (fun s H C cl fp => (pg_name (i := 2) sc_next_of.nd rfl (by first | exact .inl rfl | exact .inr rfl))) (fun s H C cl fp => pts_nil) (fun s H C cl fp => pe_lst pa_nil))
      (pss_cons (ps_for (passes_of rfl) rfl (pi_tup (pe_ix (ix_seqK (K := K)) (pv 0) pe_int (fun _ _ => rfl))) (pg_tupK (K := K) rfl (pgs_cons (pg_name (i := 3) sc_next_of.nd rfl (by first | exact .inl rfl | exact .inr rfl)) (pgs_cons (pg_name (i := 4) sc_next_of.nd rfl (by first | exact .inl rfl | exact .inr rfl)) (pgs_cons (pg_name (i := 5) sc_next_of.nd rfl (by first | exact .inl rfl | exact .inr rfl)) pgs_nil))))
        (pss_one (ps_expr (pe_bm PySem.F.plainAttrs_list PySem.F.slot_list_append PySem.F.type_list_append mt_append (pe_ix (ix_seqK (K := K)) (pv 1) (pv 3) (fun _ _ => rfl)) (pa_cons (pv 4) pa_nil)))))
      (pss_one (ps_ret (pv 1)))), next_reads (ec := ecOf T) rfl h⟩
theorem sc_rings_of : FnScope ["web", "nexts", "made", "first"] ["web"] (defScope s_rings_of) := ⟨rfl, rfl, rfl, by decide +kernel, rfl, by decide +kernel, by decide +kernel⟩
def sem_rings_of : Sem :=
  sStuck
def fs_rings_of : List D → Rf := fsOf 4 sem_rings_of
theorem ok_rings_of {P : Program} {w : World} {K : PySem.W.Frag} {mg : Str → Option Value} {base : Heap} (T : Tops K mg) : FnOk P w K mg base (L2.CX P w) 1 T.rings_of.f T.rings_of.fd ["web"] (spF K (ecOf T) 1 fs_rings_of) := by
  refine T.rings_of.F.okX sc_rings_of (fun vs H Q E h => h.1) (fun cdv A outer s H vs Q E hr h => ?_)
  · have hu0 := hr.units0
    have hu64 := hr.units
    have hu65 := units65 hr
    have hu1 := units1 hr
    exact ⟨_, pss_stuck, fin_gen (ec := ecOf T) (g := sem_rings_of) snd_stuck (by decide) h⟩
theorem sc_rings : FnScope ["web"] ["web"] (defScope s_rings) := ⟨rfl, rfl, rfl, by decide +kernel, rfl, by decide +kernel, by decide +kernel⟩
def sem_rings : Sem :=
  (sRet (eCall fs_rings_of (aCons (eCall fs_checked (aCons (eVar 0) aNil)) aNil)))
def fs_rings : List D → Rf := fsOf 1 sem_rings
theorem ok_rings {P : Program} {w : World} {K : PySem.W.Frag} {mg : Str → Option Value} {base : Heap} (T : Tops K mg) : FnOk P w K mg base (L2.CX P w) 6 T.rings.f T.rings.fd ["web"] (spF K (ecOf T) 1 fs_rings) := by
  refine T.rings.F.okX sc_rings (fun vs H Q E h => h.1) (fun cdv A outer s H vs Q E hr h => ?_)
  · have hu0 := hr.units0
    have hu64 := hr.units
    have hu65 := units65 hr
    have hu1 := units1 hr
    exact ⟨_, (pss_one (ps_ret (pe_callS (ok_rings_of T) (hr.mono (by decide)) (by rfl) T.rings_of.g T.rings_of.k T.rings_of.b (fun σ => passAt (takes_of rfl rfl rfl rfl) σ) (pa_cons (pe_callS (ok_checked T) (hr.mono (by decide)) (by rfl) T.checked.g T.checked.k T.checked.b (fun σ => passAt (takes_of rfl rfl rfl rfl) σ) (pa_cons (pv 0) pa_nil)) pa_nil)))), fin_gen (ec := ecOf T) (g := sem_rings) (snd_ret (m := true) (snd_call (snd_cons (snd_call (snd_cons (snd_var (ltN rfl)) snd_nil)) snd_nil))) (by decide) h⟩
theorem sc_ring : FnScope ["web", "rows", "row"] ["web"] (defScope s_ring) := ⟨rfl, rfl, rfl, by decide +kernel, rfl, by decide +kernel, by decide +kernel⟩
def sem_ring : Sem :=
  (sSeq (sDrop (eCall fs_checked (aCons (eVar 0) aNil)))
    sStuck)
def fs_ring : List D → Rf := fsOf 3 sem_ring
theorem ok_ring {P : Program} {w : World} {K : PySem.W.Frag} {mg : Str → Option Value} {base : Heap} (T : Tops K mg) : FnOk P w K mg base (L2.CX P w) 6 T.ring.f T.ring.fd ["web"] (spF K (ecOf T) 1 fs_ring) := by
  refine T.ring.F.okX sc_ring (fun vs H Q E h => h.1) (fun cdv A outer s H vs Q E hr h => ?_)
  · have hu0 := hr.units0
    have hu64 := hr.units
    have hu65 := units65 hr
    have hu1 := units1 hr
    exact ⟨_, (pss_cons (ps_expr (pe_callS (ok_checked T) (hr.mono (by decide)) (by rfl) T.checked.g T.checked.k T.checked.b (fun σ => passAt (takes_of rfl rfl rfl rfl) σ) (pa_cons (pv 0) pa_nil)))
      pss_stuck), fin_gen (ec := ecOf T) (g := sem_ring) (snd_seq (snd_drop (m := true) (snd_call (snd_cons (snd_var (ltN rfl)) snd_nil)))
      snd_stuck) (by decide) h⟩
theorem sc_is_free : FnScope ["web"] ["web"] (defScope s_is_free) := ⟨rfl, rfl, rfl, by decide +kernel, rfl, by decide +kernel, by decide +kernel⟩
def sem_is_free : Sem :=
  (sRet (eBin opIs (eCall fs_ring (aCons (eVar 0) aNil)) (eC .non)))
def fs_is_free : List D → Rf := fsOf 1 sem_is_free
theorem ok_is_free {P : Program} {w : World} {K : PySem.W.Frag} {mg : Str → Option Value} {base : Heap} (T : Tops K mg) : FnOk P w K mg base (L2.CX P w) 7 T.is_free.f T.is_free.fd ["web"] (spF K (ecOf T) 1 fs_is_free) := by
  refine T.is_free.F.okX sc_is_free (fun vs H Q E h => h.1) (fun cdv A outer s H vs Q E hr h => ?_)
  · have hu0 := hr.units0
    have hu64 := hr.units
    have hu65 := units65 hr
    have hu1 := units1 hr
    exact ⟨_, (pss_one (ps_ret (pe_cmpR op_isN (pe_callS (ok_ring T) (hr.mono (by decide)) (by rfl) T.ring.g T.ring.k T.ring.b (fun σ => passAt (takes_of rfl rfl rfl rfl) σ) (pa_cons (pv 0) pa_nil)) pe_non (nomark _)))), fin_gen (ec := ecOf T) (g := sem_is_free) (snd_ret (m := true) (snd_bin os_is (snd_call (snd_cons (snd_var (ltN rfl)) snd_nil)) snd_non)) (by decide) h⟩
theorem sc_fit : FnScope ["web", "thing"] ["web", "thing"] (defScope s_fit) := ⟨rfl, rfl, rfl, by decide +kernel, rfl, by decide +kernel, by decide +kernel⟩
def sem_fit : Sem :=
  (sSeq (sDrop (eCall fs_checked (aCons (eVar 0) aNil)))
    sStuck)
def fs_fit : List D → Rf := fsOf 2 sem_fit
theorem ok_fit {P : Program} {w : World} {K : PySem.W.Frag} {mg : Str → Option Value} {base : Heap} (T : Tops K mg) : FnOk P w K mg base (L2.CX P w) 6 T.fit.f T.fit.fd ["web", "thing"] (spF K (ecOf T) 2 fs_fit) := by
  refine T.fit.F.okX sc_fit (fun vs H Q E h => h.1) (fun cdv A outer s H vs Q E hr h => ?_)
  · have hu0 := hr.units0
    have hu64 := hr.units
    have hu65 := units65 hr
    have hu1 := units1 hr
    exact ⟨_, (pss_cons (ps_expr (pe_callS (ok_checked T) (hr.mono (by decide)) (by rfl) T.checked.g T.checked.k T.checked.b (fun σ => passAt (takes_of rfl rfl rfl rfl) σ) (pa_cons (pv 0) pa_nil)))
      pss_stuck), fin_gen (ec := ecOf T) (g := sem_fit) (snd_seq (snd_drop (m := true) (snd_call (snd_cons (snd_var (ltN rfl)) snd_nil)))
      snd_stuck) (by decide) h⟩
theorem sc_whole_shares : FnScope ["web", "left", "made", "loop", "share", "pair"] ["web"] (defScope s_whole_shares) := ⟨rfl, rfl, rfl, by decide +kernel, rfl, by decide +kernel, by decide +kernel⟩
def sem_whole_shares : Sem :=
  (sSeq (sDrop (eCall fs_checked (aCons (eVar 0) aNil)))
    sStuck)
def fs_whole_shares : List D → Rf := fsOf 6 sem_whole_shares
theorem ok_whole_shares {P : Program} {w : World} {K : PySem.W.Frag} {mg : Str → Option Value} {base : Heap} (T : Tops K mg) : FnOk P w K mg base (L2.CX P w) 6 T.whole_shares.f T.whole_shares.fd ["web"] (spF K (ecOf T) 1 fs_whole_shares) := by
  refine T.whole_shares.F.okX sc_whole_shares (fun vs H Q E h => h.1) (fun cdv A outer s H vs Q E hr h => ?_)
  · have hu0 := hr.units0
    have hu64 := hr.units
    have hu65 := units65 hr
    have hu1 := units1 hr
    exact ⟨_, (pss_cons (ps_expr (pe_callS (ok_checked T) (hr.mono (by decide)) (by rfl) T.checked.g T.checked.k T.checked.b (fun σ => passAt (takes_of rfl rfl rfl rfl) σ) (pa_cons (pv 0) pa_nil)))
      pss_stuck), fin_gen (ec := ecOf T) (g := sem_whole_shares) (snd_seq (snd_drop (m := true) (snd_call (snd_cons (snd_var (ltN rfl)) snd_nil)))
      snd_stuck) (by decide) h⟩
theorem sc_paper : FnScope ["web"] ["web"] (defScope s_paper) := ⟨rfl, rfl, rfl, by decide +kernel, rfl, by decide +kernel, by decide +kernel⟩
def sem_paper : Sem :=
  (sSeq (sDrop (eCall fs_checked (aCons (eVar 0) aNil)))
    (sSeq (sIf (tsE (eBin opGt (eBin opIx (eVar 0) (eC (.int 0))) (eC (.int 6)))) (sRaise .tooBig) sNext)
    sStuck))
def fs_paper : List D → Rf := fsOf 1 sem_paper
theorem ok_paper {P : Program} {w : World} {K : PySem.W.Frag} {mg : Str → Option Value} {base : Heap} (T : Tops K mg) : FnOk P w K mg base (L2.CX P w) 6 T.paper.f T.paper.fd ["web"] (spF K (ecOf T) 1 fs_paper) := by
  refine T.paper.F.okX sc_paper (fun vs H Q E h => h.1) (fun cdv A outer s H vs Q E hr h => ?_)
  · have hu0 := hr.units0
    have hu64 := hr.units
    have hu65 := units65 hr
    have hu1 := units1 hr
    exact ⟨_, (pss_cons (ps_expr (pe_callS (ok_checked T) (hr.mono (by decide)) (by rfl) T.checked.g T.checked.k T.checked.b (fun σ => passAt (takes_of rfl rfl rfl rfl) σ) (pa_cons (pv 0) pa_nil)))
      (pss_cons (ps_if (pt_cmpR op_gt (pe_ix (ix_seqK (K := K)) (pv 0) pe_int (fun _ _ => rfl)) pe_int (nomark _)) (pss_one (ps_raise rfl (takes_of rfl rfl rfl rfl) (pmk_own PySem.F.excBase_ValueError T.x_TooBig.q T.x_TooBig.g T.x_TooBig.k (raises_own T.x_TooBig.e T.x_TooBig.t) (by rfl)))) pss_nil)
      pss_stuck)), fin_gen (ec := ecOf T) (g := sem_paper) (snd_seq (snd_drop (m := true) (snd_call (snd_cons (snd_var (ltN rfl)) snd_nil)))
      (snd_seq (snd_if (snd_ts (snd_bin os_gt (snd_bin os_ix (snd_var (ltN rfl)) snd_int) snd_int)) (snd_raise (c := .tooBig)) snd_next)
      snd_stuck)) (by decide) h⟩
theorem sc_shows : FnScope ["web", "number", "thing"] ["web", "number", "thing"] (defScope s_shows) := ⟨rfl, rfl, rfl, by decide +kernel, rfl, by decide +kernel, by decide +kernel⟩
def sem_shows : Sem :=
  (sSeq (sDrop (eCall fs_checked (aCons (eVar 0) aNil)))
    (sSeq (sIf (tsOr (tsNot (tsE (eCall fs_is_whole (aCons (eVar 1) aNil)))) (tsE (eBin opLtA (eVar 1) (eC (.int 0))))) (sRaise .noNumber) sNext)
    sStuck))
def fs_shows : List D → Rf := fsOf 3 sem_shows
theorem ok_shows {P : Program} {w : World} {K : PySem.W.Frag} {mg : Str → Option Value} {base : Heap} (T : Tops K mg) : FnOk P w K mg base (L2.CX P w) 6 T.shows.f T.shows.fd ["web", "number", "thing"] (spF K (ecOf T) 3 fs_shows) := by
  refine T.shows.F.okX sc_shows (fun vs H Q E h => h.1) (fun cdv A outer s H vs Q E hr h => ?_)
  · have hu0 := hr.units0
    have hu64 := hr.units
    have hu65 := units65 hr
    have hu1 := units1 hr
    exact ⟨_, (pss_cons (ps_expr (pe_callS (ok_checked T) (hr.mono (by decide)) (by rfl) T.checked.g T.checked.k T.checked.b (fun σ => passAt (takes_of rfl rfl rfl rfl) σ) (pa_cons (pv 0) pa_nil)))
      (pss_cons (ps_if (PW.pt (pw_or (pt_not (pt_val (pe_callS (ok_is_whole T) (hr.mono (by decide)) (by rfl) T.is_whole.g T.is_whole.k T.is_whole.b (fun σ => passAt (takes_of rfl rfl rfl rfl) σ) (pa_cons (pv 1) pa_nil)))) (pw_or1 (pt_cmpR (op_ltAll hu0) (pv 1) pe_int (nomark _))))) (pss_one (ps_raise rfl (takes_of rfl rfl rfl rfl) (pmk_own PySem.F.excBase_ValueError T.x_NoNumber.q T.x_NoNumber.g T.x_NoNumber.k (raises_own T.x_NoNumber.e T.x_NoNumber.t) (by rfl)))) pss_nil)
      pss_stuck)), fin_gen (ec := ecOf T) (g := sem_shows) (snd_seq (snd_drop (m := true) (snd_call (snd_cons (snd_var (ltN rfl)) snd_nil)))
      (snd_seq (snd_if (snd_tor (snd_tnot (snd_tb (snd_call (snd_cons (snd_var (ltN rfl)) snd_nil)))) (snd_ts (snd_bin os_ltA (snd_var (ltN rfl)) snd_int))) (snd_raise (c := .noNumber)) snd_next)
      snd_stuck)) (by decide) h⟩
theorem sc_greatest : FnScope ["web", "loops", "desk", "shares", "at", "column"] ["web"] (defScope s_greatest) := ⟨rfl, rfl, rfl, by decide +kernel, rfl, by decide +kernel, by decide +kernel⟩
def sem_greatest : Sem :=
  (sSeq (sDrop (eCall fs_checked (aCons (eVar 0) aNil)))
    (sSeq (sIf (tsE (eBin opGt (eBin opIx (eVar 0) (eC (.int 0))) (eC (.int 5)))) (sRaise .tooBig) sNext)
    sStuck))
def fs_greatest : List D → Rf := fsOf 6 sem_greatest
theorem ok_greatest {P : Program} {w : World} {K : PySem.W.Frag} {mg : Str → Option Value} {base : Heap} (T : Tops K mg) : FnOk P w K mg base (L2.CX P w) 6 T.greatest.f T.greatest.fd ["web"] (spF K (ecOf T) 1 fs_greatest) := by
  refine T.greatest.F.okX sc_greatest (fun vs H Q E h => h.1) (fun cdv A outer s H vs Q E hr h => ?_)
  · have hu0 := hr.units0
    have hu64 := hr.units
    have hu65 := units65 hr
    have hu1 := units1 hr
    exact ⟨_, (pss_cons (ps_expr (pe_callS (ok_checked T) (hr.mono (by decide)) (by rfl) T.checked.g T.checked.k T.checked.b (fun σ => passAt (takes_of rfl rfl rfl rfl) σ) (pa_cons (pv 0) pa_nil)))
      (pss_cons (ps_if (pt_cmpR op_gt (pe_ix (ix_seqK (K := K)) (pv 0) pe_int (fun _ _ => rfl)) pe_int (nomark _)) (pss_one (ps_raise rfl (takes_of rfl rfl rfl rfl) (pmk_own PySem.F.excBase_ValueError T.x_TooBig.q T.x_TooBig.g T.x_TooBig.k (raises_own T.x_TooBig.e T.x_TooBig.t) (by rfl)))) pss_nil)
      pss_stuck)), fin_gen (ec := ecOf T) (g := sem_greatest) (snd_seq (snd_drop (m := true) (snd_call (snd_cons (snd_var (ltN rfl)) snd_nil)))
      (snd_seq (snd_if (snd_ts (snd_bin os_gt (snd_bin os_ix (snd_var (ltN rfl)) snd_int) snd_int)) (snd_raise (c := .tooBig)) snd_next)
      snd_stuck)) (by decide) h⟩
theorem sc_are_parts : FnScope ["web", "number", "thing", "part", "loop"] ["web", "number", "thing"] (defScope s_are_parts) := ⟨rfl, rfl, rfl, by decide +kernel, rfl, by decide +kernel, by decide +kernel⟩
def sem_are_parts : Sem :=
  (sSeq (sDrop (eCall fs_checked (aCons (eVar 0) aNil)))
    sStuck)
def fs_are_parts : List D → Rf := fsOf 5 sem_are_parts
theorem ok_are_parts {P : Program} {w : World} {K : PySem.W.Frag} {mg : Str → Option Value} {base : Heap} (T : Tops K mg) : FnOk P w K mg base (L2.CX P w) 6 T.are_parts.f T.are_parts.fd ["web", "number", "thing"] (spF K (ecOf T) 3 fs_are_parts) := by
  refine T.are_parts.F.okX sc_are_parts (fun vs H Q E h => h.1) (fun cdv A outer s H vs Q E hr h => ?_)
  · have hu0 := hr.units0
    have hu64 := hr.units
    have hu65 := units65 hr
    have hu1 := units1 hr
    exact ⟨_, (pss_cons (ps_expr (pe_callS (ok_checked T) (hr.mono (by decide)) (by rfl) T.checked.g T.checked.k T.checked.b (fun σ => passAt (takes_of rfl rfl rfl rfl) σ) (pa_cons (pv 0) pa_nil)))
      pss_stuck), fin_gen (ec := ecOf T) (g := sem_are_parts) (snd_seq (snd_drop (m := true) (snd_call (snd_cons (snd_var (ltN rfl)) snd_nil)))
      snd_stuck) (by decide) h⟩
theorem sc_is_pair : FnScope ["thing", "many", "number"] ["thing", "many"] (defScope s_is_pair) := ⟨rfl, rfl, rfl, by decide +kernel, rfl, by decide +kernel, by decide +kernel⟩
theorem ok_is_pair {P : Program} {w : World} {K : PySem.W.Frag} {mg : Str → Option Value} {base : Heap} (T : Tops K mg) : FnOk P w K mg base (L2.CX P w) 3 T.is_pair.f T.is_pair.fd ["thing", "many"] (spF K (ecOf T) 2 fs_is_pair) := by
  refine T.is_pair.F.okX sc_is_pair (fun vs H Q E h => h.1) (fun cdv A outer s H vs Q E hr h => ?_)
  · have hu0 := hr.units0
    have hu64 := hr.units
    have hu65 := units65 hr
    have hu1 := units1 hr
    exact ⟨_, (pss_cons (ps_if (PW.pt (pw_or (pt_not (pt_val (pe_callB call_isi (by rfl) T.n_isinstance bt_isinstance (pa_cons (pv 0) (pa_cons (pe_bltn (v := .ty "tuple") (by rfl) T.n_tuple bt_tuple rfl) pa_nil))))) (pw_or (pt_cmpR (op_neK (K := K) hu64) (pe_callB call_lenA (by rfl) T.n_len bt_len (pa_cons (pv 0) pa_nil)) pe_int (nomark _)) (pw_or1 (pt_not (pt_val (pe_callB (cr_all rfl) (by rfl) T.n_all bt_all (pa_cons (pe_lc rfl sc_is_pair.nd (pi_tup (pv 0)) (blk_of (own := [("number", 2)]) (by kernel_rfl)) (fun s H C cl fp => (pg_name (i := 2) sc_is_pair.nd rfl (by first | exact .inl rfl | exact .inr rfl))) (fun s H C cl fp => pts_nil) (fun s H C cl fp => (pe_callS (ok_between T) (hr.mono (by decide)) (by rfl) T.between.g T.between.k T.between.b (fun σ => passAt takes0 σ) (pa_cons (pv 2) (pa_cons pe_int (pa_cons (pe_op op_sub (pv 1) pe_int) pa_nil)))))) pa_nil)))))))) (pss_one (ps_ret pe_bl)) pss_nil)
      (pss_one (ps_ret (pe_cmpR (op_neK (K := K) hu64) (pe_ix (ix_seqK (K := K)) (pv 0) pe_int (fun _ _ => rfl)) (pe_ix (ix_seqK (K := K)) (pv 0) pe_int (fun _ _ => rfl)) (nomark _))))), fin_gen (ec := ecOf T) (g := sem_is_pair) (snd_seq (snd_if (snd_tor (snd_tnot (snd_tb (snd_cb cs_isi nx_fIsi (snd_cons (snd_var (ltN rfl)) (snd_cons snd_ty snd_nil))))) (snd_tor (snd_ts (snd_bin os_ne (snd_cb cs_len nx_fLen (snd_cons (snd_var (ltN rfl)) snd_nil)) snd_int)) (snd_tnot (snd_tb (snd_cb cs_all nx_fAll (snd_cons (snd_comp (si_tup (snd_var (ltN rfl))) (sg_name (ltN rfl)) snd_pts0 (snd_call (snd_cons (snd_var (ltN rfl)) (snd_cons snd_int (snd_cons (snd_bin os_sub (snd_var (ltN rfl)) snd_int) snd_nil))))) snd_nil)))))) (snd_ret (m := true) snd_bl) snd_next)
      (snd_ret (m := true) (snd_bin os_ne (snd_bin os_ix (snd_var (ltN rfl)) snd_int) (snd_bin os_ix (snd_var (ltN rfl)) snd_int)))) (by decide) h⟩
theorem sc_all_come : FnScope ["many", "arrows", "pair", "keeper", "made"] ["many", "arrows"] (defScope s_all_come) := ⟨rfl, rfl, rfl, by decide +kernel, rfl, by decide +kernel, by decide +kernel⟩
def sem_all_come : Sem :=
  (sSeq (sIf (tsNot (tsE (eCall fs_between (aCons (eVar 0) (aCons (eC (.int 1)) (aCons (eC (.int 12)) aNil)))))) (sRaise .noNumber) sNext)
    (sSeq (sIf (tsOr (tsNot (tsE (eCB fIsi (aCons (eVar 1) (aCons (eC (.ty "list")) aNil))))) (tsOr (tsE (eBin opGt (eCB fLen (aCons (eVar 1) aNil)) (eC (.int 60)))) (tsNot (tsE (eCB fAll (aCons (eComp (itBy lstOf (eVar 1)) (bN 2) tTrue ce_all_come_1 [2]) aNil)))))) (sRaise .noArrows) sNext)
    sStuck))
def fs_all_come : List D → Rf := fsOf 5 sem_all_come
theorem ok_all_come {P : Program} {w : World} {K : PySem.W.Frag} {mg : Str → Option Value} {base : Heap} (T : Tops K mg) : FnOk P w K mg base (L2.CX P w) 4 T.all_come.f T.all_come.fd ["many", "arrows"] (spF K (ecOf T) 2 fs_all_come) := by
  refine T.all_come.F.okX sc_all_come (fun vs H Q E h => h.1) (fun cdv A outer s H vs Q E hr h => ?_)
  · have hu0 := hr.units0
    have hu64 := hr.units
    have hu65 := units65 hr
    have hu1 := units1 hr
    exact ⟨_, (pss_cons (ps_if (pt_not (pt_val (pe_callS (ok_between T) (hr.mono (by decide)) (by rfl) T.between.g T.between.k T.between.b (fun σ => passAt (takes_of rfl rfl rfl rfl) σ) (pa_cons (pv 0) (pa_cons pe_int (pa_cons (pe_glob (v := .int 12) (by rfl) T.c_THINGS_kept.2 ⟨_, rfl⟩) pa_nil)))))) (pss_one (ps_raise rfl (takes_of rfl rfl rfl rfl) (pmk_own PySem.F.excBase_ValueError T.x_NoNumber.q T.x_NoNumber.g T.x_NoNumber.k (raises_own T.x_NoNumber.e T.x_NoNumber.t) (by rfl)))) pss_nil)
      (pss_cons (ps_if (PW.pt (pw_or (pt_not (pt_val (pe_callB call_isi (by rfl) T.n_isinstance bt_isinstance (pa_cons (pv 1) (pa_cons (pe_bltn (v := .ty "list") (by rfl) T.n_list bt_list rfl) pa_nil))))) (pw_or (pt_cmpR op_gt (pe_callB call_lenA (by rfl) T.n_len bt_len (pa_cons (pv 1) pa_nil)) pe_int (nomark _)) (pw_or1 (pt_not (pt_val (pe_callB (cr_all rfl) (by rfl) T.n_all bt_all (pa_cons (pe_lc rfl sc_all_come.nd (pi_list (pv 1)) (blk_of (own := [("pair", 2)]) (by kernel_rfl)) (fun s H C cl fp => (pg_name (i := 2) sc_all_come.nd rfl (by first | exact .inl rfl | exact .inr rfl))) (fun s H C cl fp => pts_nil) (fun s H C cl fp => (pe_callS (ok_is_pair T) (hr.mono (by decide)) (by rfl) T.is_pair.g T.is_pair.k T.is_pair.b (fun σ => passAt takes0 σ) (pa_cons (pv 2) (pa_cons (pv 0) pa_nil))))) pa_nil)))))))) (pss_one (ps_raise rfl (takes_of rfl rfl rfl rfl) (pmk_own PySem.F.excBase_ValueError T.x_NoArrows.q T.x_NoArrows.g T.x_NoArrows.k (raises_own T.x_NoArrows.e T.x_NoArrows.t) (by rfl)))) pss_nil)
      pss_stuck)), fin_gen (ec := ecOf T) (g := sem_all_come) (snd_seq (snd_if (snd_tnot (snd_tb (snd_call (snd_cons (snd_var (ltN rfl)) (snd_cons snd_int (snd_cons snd_int snd_nil)))))) (snd_raise (c := .noNumber)) snd_next)
      (snd_seq (snd_if (snd_tor (snd_tnot (snd_tb (snd_cb cs_isi nx_fIsi (snd_cons (snd_var (ltN rfl)) (snd_cons snd_ty snd_nil))))) (snd_tor (snd_ts (snd_bin os_gt (snd_cb cs_len nx_fLen (snd_cons (snd_var (ltN rfl)) snd_nil)) snd_int)) (snd_tnot (snd_tb (snd_cb cs_all nx_fAll (snd_cons (snd_comp (si_list (snd_var (ltN rfl))) (sg_name (ltN rfl)) snd_pts0 (snd_call (snd_cons (snd_var (ltN rfl)) (snd_cons (snd_var (ltN rfl)) snd_nil)))) snd_nil)))))) (snd_raise (c := .noArrows)) snd_next)
      snd_stuck)) (by decide) h⟩
theorem sc_kept : FnScope ["many", "arrows"] ["many", "arrows"] (defScope s_kept) := ⟨rfl, rfl, rfl, by decide +kernel, rfl, by decide +kernel, by decide +kernel⟩
def sem_kept : Sem :=
  (sRet (eBin opIx (eCall fs_all_come (aCons (eVar 0) (aCons (eVar 1) aNil))) (eC (.int 0))))
def fs_kept : List D → Rf := fsOf 2 sem_kept
theorem ok_kept {P : Program} {w : World} {K : PySem.W.Frag} {mg : Str → Option Value} {base : Heap} (T : Tops K mg) : FnOk P w K mg base (L2.CX P w) 5 T.kept.f T.kept.fd ["many", "arrows"] (spF K (ecOf T) 2 fs_kept) := by
  refine T.kept.F.okX sc_kept (fun vs H Q E h => h.1) (fun cdv A outer s H vs Q E hr h => ?_)
  · have hu0 := hr.units0
    have hu64 := hr.units
    have hu65 := units65 hr
    have hu1 := units1 hr
    exact ⟨_, (pss_one (ps_ret (pe_ix (ix_seqK (K := K)) (pe_callS (ok_all_come T) (hr.mono (by decide)) (by rfl) T.all_come.g T.all_come.k T.all_come.b (fun σ => passAt (takes_of rfl rfl rfl rfl) σ) (pa_cons (pv 0) (pa_cons (pv 1) pa_nil))) pe_int (fun _ _ => rfl)))), fin_gen (ec := ecOf T) (g := sem_kept) (snd_ret (m := true) (snd_bin os_ix (snd_call (snd_cons (snd_var (ltN rfl)) (snd_cons (snd_var (ltN rfl)) snd_nil))) snd_int)) (by decide) h⟩
theorem sc_row_behind : FnScope ["many", "arrows"] ["many", "arrows"] (defScope s_row_behind) := ⟨rfl, rfl, rfl, by decide +kernel, rfl, by decide +kernel, by decide +kernel⟩
def sem_row_behind : Sem :=
  (sRet (eBin opIx (eCall fs_all_come (aCons (eVar 0) (aCons (eVar 1) aNil))) (eC (.int 1))))
def fs_row_behind : List D → Rf := fsOf 2 sem_row_behind
theorem ok_row_behind {P : Program} {w : World} {K : PySem.W.Frag} {mg : Str → Option Value} {base : Heap} (T : Tops K mg) : FnOk P w K mg base (L2.CX P w) 5 T.row_behind.f T.row_behind.fd ["many", "arrows"] (spF K (ecOf T) 2 fs_row_behind) := by
  refine T.row_behind.F.okX sc_row_behind (fun vs H Q E h => h.1) (fun cdv A outer s H vs Q E hr h => ?_)
  · have hu0 := hr.units0
    have hu64 := hr.units
    have hu65 := units65 hr
    have hu1 := units1 hr
    exact ⟨_, (pss_one (ps_ret (pe_ix (ix_seqK (K := K)) (pe_callS (ok_all_come T) (hr.mono (by decide)) (by rfl) T.all_come.g T.all_come.k T.all_come.b (fun σ => passAt (takes_of rfl rfl rfl rfl) σ) (pa_cons (pv 0) (pa_cons (pv 1) pa_nil))) pe_int (fun _ _ => rfl)))), fin_gen (ec := ecOf T) (g := sem_row_behind) (snd_ret (m := true) (snd_bin os_ix (snd_call (snd_cons (snd_var (ltN rfl)) (snd_cons (snd_var (ltN rfl)) snd_nil))) snd_int)) (by decide) h⟩
theorem sc_led_to : FnScope ["nexts", "first", "found", "row", "to"] ["nexts", "first"] (defScope s_led_to) := ⟨rfl, rfl, rfl, by decide +kernel, rfl, by decide +kernel, by decide +kernel⟩
theorem ok_led_to {P : Program} {w : World} {K : PySem.W.Frag} {mg : Str → Option Value} {base : Heap} (T : Tops K mg) : FnOk P w K mg base (L2.CX P w) 1 T.led_to.f T.led_to.fd ["nexts", "first"] (spF K (ecOf T) 2 fs_led_to) := by
  refine T.led_to.F.okX sc_led_to (fun vs H Q E h => h.1) (fun cdv A outer s H vs Q E hr h => ?_)
  · have hu0 := hr.units0
    have hu64 := hr.units
    have hu65 := units65 hr
    have hu1 := units1 hr
    exact ⟨_, (pss_cons (ps_set (i := 2) sc_led_to.nd rfl (by first | exact .inl rfl | exact .inr rfl) (pe_disp (pps_cons (pv 1) pe_bl pps_nil) rfl rfl (by simp) (leN rfl)))
      (pss_cons (ps_set (i := 3) sc_led_to.nd rfl (by first | exact .inl rfl | exact .inr rfl) (pe_lst (pa_cons (pv 1) pa_nil)))
      (pss_cons (ps_while (passes_of rfl) (pt_cmpR (op_neK (K := K) hu64) (pv 3) (pe_lst pa_nil) (nomark _))
      (pss_one (ps_for (passes_of rfl) rfl (pi_list (pe_ix (ix_seqK (K := K)) (pv 0) (pe_bm0 PySem.F.plainAttrs_list PySem.F.slot_list_pop PySem.F.type_list_pop mt_pop (pv 3)) (fun _ _ => rfl))) (pg_name (i := 4) sc_led_to.nd rfl (by first | exact .inl rfl | exact .inr rfl))
      (pss_one (ps_if (pt_cmpR (op_notInA hu65) (pv 4) (pv 2) (by with_unfolding_all rfl)) (pss_cons (ps_dput hu1 (pv 2) (pv 4) pe_bl (by rfl))
      (pss_one (ps_expr (pe_bm PySem.F.plainAttrs_list PySem.F.slot_list_append PySem.F.type_list_append mt_append (pv 3) (pa_cons (pv 4) pa_nil))))) pss_nil)))))
      (pss_one (ps_ret (pv 2)))))), fin_gen (ec := ecOf T) (g := sem_led_to) (snd_seq (snd_set (m := true) (ltN rfl) (snd_disp1 (snd_var (ltN rfl)) snd_bl))
      (snd_seq (snd_set (m := true) (ltN rfl) (snd_lst (snd_cons (snd_var (ltN rfl)) snd_nil)))
      (snd_seq (snd_whileN (m := true) 1000000 (snd_ts (snd_bin os_ne (snd_var (ltN rfl)) (snd_lst snd_nil)))
      (snd_for (m := true) (si_list (snd_bin os_ix (snd_var (ltN rfl)) (snd_mut0 (sp_var (ltN rfl)) ms_pop))) (sg_name (ltN rfl))
      (snd_if (snd_ts (snd_bin os_notIn (snd_var (ltN rfl)) (snd_var (ltN rfl)))) (snd_seq (snd_dput (m := true) (sp_var (ltN rfl)) (snd_var (ltN rfl)) snd_bl (.inr (ltN rfl)))
      (snd_drop (m := true) (snd_mut (sp_var (ltN rfl)) ms_append (snd_cons (snd_var (ltN rfl)) snd_nil) (.inr (ltN rfl))))) snd_next)))
      (snd_ret (m := true) (snd_var (ltN rfl)))))) (by decide) h⟩
theorem sc_parts_of : FnScope ["web", "nexts", "found", "first", "made", "part", "other"] ["web"] (defScope s_parts_of) := ⟨rfl, rfl, rfl, by decide +kernel, rfl, by decide +kernel, by decide +kernel⟩
theorem ok_parts_of {P : Program} {w : World} {K : PySem.W.Frag} {mg : Str → Option Value} {base : Heap} (T : Tops K mg) : FnOk P w K mg base (L2.CX P w) 2 T.parts_of.f T.parts_of.fd ["web"] (spF K (ecOf T) 1 fs_parts_of) := by
  refine T.parts_of.F.okX sc_parts_of (fun vs H Q E h => h.1) (fun cdv A outer s H vs Q E hr h => ?_)
  · have hu0 := hr.units0
    have hu64 := hr.units
    have hu65 := units65 hr
    have hu1 := units1 hr
    exact ⟨_, (pss_cons (ps_set (i := 1) sc_parts_of.nd rfl (by first | exact .inl rfl | exact .inr rfl) (pe_callS (ok_next_of T) (hr.mono (by decide)) (by rfl) T.next_of.g T.next_of.k T.next_of.b (fun σ => passAt (takes_of rfl rfl rfl rfl) σ) (pa_cons (pv 0) pa_nil)))
      (pss_cons (ps_set (i := 2) sc_parts_of.nd rfl (by first | exact .inl rfl | exact .inr rfl) (pe_lc rfl sc_parts_of.nd (pi_range1 (by rfl) T.n_range (pa_cons (pe_ix (ix_seqK (K := K)) (pv 0) pe_int (fun _ _ => rfl)) pa_nil)) (blk_of (own := [("first", 3)]) (by kernel_rfl)) (fun s H C cl fp => (pg_name (i := 3) sc_parts_of.nd rfl (by first | exact .inl rfl | exact .inr rfl))) (fun s H C cl fp => pts_nil) (fun s H C cl fp => (pe_callS (ok_led_to T) (hr.mono (by decide)) (by rfl) T.led_to.g T.led_to.k T.led_to.b (fun σ => passAt takes0 σ) (pa_cons (pv 1) (pa_cons (pv 3) pa_nil))))))
      (pss_cons (ps_set (i := 4) sc_parts_of.nd rfl (by first | exact .inl rfl | exact .inr rfl) (pe_lst pa_nil))
      (pss_cons (ps_for (passes_of rfl) rfl (pi_range1 (by rfl) T.n_range (pa_cons (pe_ix (ix_seqK (K := K)) (pv 0) pe_int (fun _ _ => rfl)) pa_nil)) (pg_name (i := 3) sc_parts_of.nd rfl (by first | exact .inl rfl | exact .inr rfl))
      (pss_cons (ps_setLc (i := 5) rfl sc_parts_of.nd rfl rfl (by rfl) (pi_range1 (by rfl) T.n_range (pa_cons (pe_ix (ix_seqK (K := K)) (pv 0) pe_int (fun _ _ => rfl)) pa_nil)) (blk_of (own := [("other", 6)]) (by kernel_rfl)) (fun s H C cl fp => (pg_name (i := 6) sc_parts_of.nd rfl (by first | exact .inl rfl | exact .inr rfl))) (fun s H C cl fp => (pts_one (PW.pt (pw_and (pt_cmpR (op_inA hu65) (pv 6) (pe_ix (ix_seqK (K := K)) (pv 2) (pv 3) (fun _ _ => rfl)) (by with_unfolding_all rfl)) (pw_and1 (pt_cmpR (op_inA hu65) (pv 3) (pe_ix (ix_seqK (K := K)) (pv 2) (pv 6) (fun _ _ => rfl)) (by with_unfolding_all rfl))))))) (fun s H C cl fp => (pv 6)))
      (pss_one (ps_if (pt_cmpR (op_eqK (K := K) hu64) (pe_ix (ix_seqK (K := K)) (pv 5) pe_int (fun _ _ => rfl)) (pv 3) (nomark _)) (pss_one (ps_expr (pe_bm PySem.F.plainAttrs_list PySem.F.slot_list_append PySem.F.type_list_append mt_append (pv 4) (pa_cons (pv 5) pa_nil)))) pss_nil))))
      (pss_one (ps_ret (pv 4))))))), fin_gen (ec := ecOf T) (g := sem_parts_of) (snd_seq (snd_set (m := true) (ltN rfl) (snd_call (snd_cons (snd_var (ltN rfl)) snd_nil)))
      (snd_seq (snd_set (m := true) (ltN rfl) (snd_comp (si_rng1 (snd_cons (snd_bin os_ix (snd_var (ltN rfl)) snd_int) snd_nil)) (sg_name (ltN rfl)) snd_pts0 (snd_call (snd_cons (snd_var (ltN rfl)) (snd_cons (snd_var (ltN rfl)) snd_nil)))))
      (snd_seq (snd_set (m := true) (ltN rfl) (snd_lst snd_nil))
      (snd_seq (snd_for (m := true) (si_rng1 (snd_cons (snd_bin os_ix (snd_var (ltN rfl)) snd_int) snd_nil)) (sg_name (ltN rfl))
      (snd_seq (snd_set (m := true) (ltN rfl) (snd_comp (si_rng1 (snd_cons (snd_bin os_ix (snd_var (ltN rfl)) snd_int) snd_nil)) (sg_name (ltN rfl)) (snd_tand (snd_ts (snd_bin os_in (snd_var (ltN rfl)) (snd_bin os_ix (snd_var (ltN rfl)) (snd_var (ltN rfl))))) (snd_ts (snd_bin os_in (snd_var (ltN rfl)) (snd_bin os_ix (snd_var (ltN rfl)) (snd_var (ltN rfl)))))) (snd_var (ltN rfl))))
      (snd_if (snd_ts (snd_bin os_eq (snd_bin os_ix (snd_var (ltN rfl)) snd_int) (snd_var (ltN rfl)))) (snd_drop (m := true) (snd_mut (sp_var (ltN rfl)) ms_append (snd_cons (snd_var (ltN rfl)) snd_nil) (.inr (ltN rfl)))) snd_next)))
      (snd_ret (m := true) (snd_var (ltN rfl))))))) (by decide) h⟩
theorem sc_parts : FnScope ["web"] ["web"] (defScope s_parts) := ⟨rfl, rfl, rfl, by decide +kernel, rfl, by decide +kernel, by decide +kernel⟩
theorem ok_parts {P : Program} {w : World} {K : PySem.W.Frag} {mg : Str → Option Value} {base : Heap} (T : Tops K mg) : FnOk P w K mg base (L2.CX P w) 6 T.parts.f T.parts.fd ["web"] (spF K (ecOf T) 1 fs_parts) := by
  refine T.parts.F.okX sc_parts (fun vs H Q E h => h.1) (fun cdv A outer s H vs Q E hr h => ?_)
  · have hu0 := hr.units0
    have hu64 := hr.units
    have hu65 := units65 hr
    have hu1 := units1 hr
    exact ⟨_, (pss_one (ps_ret (pe_callS (ok_parts_of T) (hr.mono (by decide)) (by rfl) T.parts_of.g T.parts_of.k T.parts_of.b (fun σ => passAt (takes_of rfl rfl rfl rfl) σ) (pa_cons (pe_callS (ok_checked T) (hr.mono (by decide)) (by rfl) T.checked.g T.checked.k T.checked.b (fun σ => passAt (takes_of rfl rfl rfl rfl) σ) (pa_cons (pv 0) pa_nil)) pa_nil)))), fin_gen (ec := ecOf T) (g := sem_parts) (snd_ret (m := true) (snd_call (snd_cons (snd_call (snd_cons (snd_var (ltN rfl)) snd_nil)) snd_nil))) (by decide) h⟩
theorem sc_part_web : FnScope ["web", "number", "some", "part", "arrows", "ahead", "behind", "heavy"] ["web", "number"] (defScope s_part_web) := ⟨rfl, rfl, rfl, by decide +kernel, rfl, by decide +kernel, by decide +kernel⟩
def sem_part_web : Sem :=
  (sSeq (sDrop (eCall fs_checked (aCons (eVar 0) aNil)))
    (sSeq (sSet 2 (eCall fs_parts_of (aCons (eVar 0) aNil)))
    (sSeq (sIf (tsNot (tsE (eCall fs_between (aCons (eVar 1) (aCons (eC (.int 0)) (aCons (eBin opSub (eCB fLen (aCons (eVar 2) aNil)) (eC (.int 1))) aNil)))))) (sRaise .noNumber) sNext)
    sStuck)))
def fs_part_web : List D → Rf := fsOf 8 sem_part_web
theorem ok_part_web {P : Program} {w : World} {K : PySem.W.Frag} {mg : Str → Option Value} {base : Heap} (T : Tops K mg) : FnOk P w K mg base (L2.CX P w) 6 T.part_web.f T.part_web.fd ["web", "number"] (spF K (ecOf T) 2 fs_part_web) := by
  refine T.part_web.F.okX sc_part_web (fun vs H Q E h => h.1) (fun cdv A outer s H vs Q E hr h => ?_)
  · have hu0 := hr.units0
    have hu64 := hr.units
    have hu65 := units65 hr
    have hu1 := units1 hr
    exact ⟨_, (pss_cons (ps_expr (pe_callS (ok_checked T) (hr.mono (by decide)) (by rfl) T.checked.g T.checked.k T.checked.b (fun σ => passAt (takes_of rfl rfl rfl rfl) σ) (pa_cons (pv 0) pa_nil)))
      (pss_cons (ps_set (i := 2) sc_part_web.nd rfl (by first | exact .inl rfl | exact .inr rfl) (pe_callS (ok_parts_of T) (hr.mono (by decide)) (by rfl) T.parts_of.g T.parts_of.k T.parts_of.b (fun σ => passAt (takes_of rfl rfl rfl rfl) σ) (pa_cons (pv 0) pa_nil)))
      (pss_cons (ps_if (pt_not (pt_val (pe_callS (ok_between T) (hr.mono (by decide)) (by rfl) T.between.g T.between.k T.between.b (fun σ => passAt (takes_of rfl rfl rfl rfl) σ) (pa_cons (pv 1) (pa_cons pe_int (pa_cons (pe_op op_sub (pe_callB call_lenA (by rfl) T.n_len bt_len (pa_cons (pv 2) pa_nil)) pe_int) pa_nil)))))) (pss_one (ps_raise rfl (takes_of rfl rfl rfl rfl) (pmk_own PySem.F.excBase_ValueError T.x_NoNumber.q T.x_NoNumber.g T.x_NoNumber.k (raises_own T.x_NoNumber.e T.x_NoNumber.t) (by rfl)))) pss_nil)
      pss_stuck))), fin_gen (ec := ecOf T) (g := sem_part_web) (snd_seq (snd_drop (m := true) (snd_call (snd_cons (snd_var (ltN rfl)) snd_nil)))
      (snd_seq (snd_set (m := true) (ltN rfl) (snd_call (snd_cons (snd_var (ltN rfl)) snd_nil)))
      (snd_seq (snd_if (snd_tnot (snd_tb (snd_call (snd_cons (snd_var (ltN rfl)) (snd_cons snd_int (snd_cons (snd_bin os_sub (snd_cb cs_len nx_fLen (snd_cons (snd_var (ltN rfl)) snd_nil)) snd_int) snd_nil)))))) (snd_raise (c := .noNumber)) snd_next)
      snd_stuck))) (by decide) h⟩
theorem sc_text_of : FnScope ["web", "lines", "ahead", "behind", "heavy", "line"] ["web"] (defScope s_text_of) := ⟨rfl, rfl, rfl, by decide +kernel, rfl, by decide +kernel, by decide +kernel⟩
def sem_text_of : Sem :=
  sStuck
def fs_text_of : List D → Rf := fsOf 6 sem_text_of
theorem ok_text_of {P : Program} {w : World} {K : PySem.W.Frag} {mg : Str → Option Value} {base : Heap} (T : Tops K mg) : FnOk P w K mg base (L2.CX P w) 1 T.text_of.f T.text_of.fd ["web"] (spF K (ecOf T) 1 fs_text_of) := by
  refine T.text_of.F.okX sc_text_of (fun vs H Q E h => h.1) (fun cdv A outer s H vs Q E hr h => ?_)
  · have hu0 := hr.units0
    have hu64 := hr.units
    have hu65 := units65 hr
    have hu1 := units1 hr
    exact ⟨_, pss_stuck, fin_gen (ec := ecOf T) (g := sem_text_of) snd_stuck (by decide) h⟩
theorem sc_shown : FnScope ["web"] ["web"] (defScope s_shown) := ⟨rfl, rfl, rfl, by decide +kernel, rfl, by decide +kernel, by decide +kernel⟩
def sem_shown : Sem :=
  (sRet (eCall fs_text_of (aCons (eCall fs_checked (aCons (eVar 0) aNil)) aNil)))
def fs_shown : List D → Rf := fsOf 1 sem_shown
theorem ok_shown {P : Program} {w : World} {K : PySem.W.Frag} {mg : Str → Option Value} {base : Heap} (T : Tops K mg) : FnOk P w K mg base (L2.CX P w) 6 T.shown.f T.shown.fd ["web"] (spF K (ecOf T) 1 fs_shown) := by
  refine T.shown.F.okX sc_shown (fun vs H Q E h => h.1) (fun cdv A outer s H vs Q E hr h => ?_)
  · have hu0 := hr.units0
    have hu64 := hr.units
    have hu65 := units65 hr
    have hu1 := units1 hr
    exact ⟨_, (pss_one (ps_ret (pe_callS (ok_text_of T) (hr.mono (by decide)) (by rfl) T.text_of.g T.text_of.k T.text_of.b (fun σ => passAt (takes_of rfl rfl rfl rfl) σ) (pa_cons (pe_callS (ok_checked T) (hr.mono (by decide)) (by rfl) T.checked.g T.checked.k T.checked.b (fun σ => passAt (takes_of rfl rfl rfl rfl) σ) (pa_cons (pv 0) pa_nil)) pa_nil)))), fin_gen (ec := ecOf T) (g := sem_shown) (snd_ret (m := true) (snd_call (snd_cons (snd_call (snd_cons (snd_var (ltN rfl)) snd_nil)) snd_nil))) (by decide) h⟩
theorem sc__law_cell_at : FnScope ["_law_script", "_law_k"] ["_law_script", "_law_k"] (defScope s_L_cell_at) := ⟨rfl, rfl, rfl, by decide +kernel, rfl, by decide +kernel, by decide +kernel⟩
theorem ok_L_cell_at {P : Program} {w : World} {K : PySem.W.Frag} {mg : Str → Option Value} {base : Heap} (T : Tops K mg) : FnOk P w K mg base (L2.CX P w) 1 T.L_cell_at.f T.L_cell_at.fd ["_law_script", "_law_k"] (spF K (ecOf T) 2 fs_L_cell_at) := by
  refine T.L_cell_at.F.okX sc__law_cell_at (fun vs H Q E h => h.1) (fun cdv A outer s H vs Q E hr h => ?_)
  · have hu0 := hr.units0
    have hu64 := hr.units
    have hu65 := units65 hr
    have hu1 := units1 hr
    exact ⟨_, (pss_cons (ps_if (pt_cmpR (op_ltAll hu0) (pv 1) (pe_callB call_lenA (by rfl) T.n_len bt_len (pa_cons (pv 0) pa_nil)) (nomark _)) (pss_one (ps_ret (pe_ix (ix_seqK (K := K)) (pv 0) (pv 1) (fun _ _ => rfl)))) pss_nil)
      (pss_cons (ps_if (pt_cmpR (op_eqK (K := K) hu64) (pv 0) (pe_lst pa_nil) (nomark _)) (pss_one (ps_ret pe_int)) pss_nil)
      (pss_one (ps_ret (pe_op op_addAll (pe_op op_mulAll (pe_ix (ix_seqK (K := K)) (pv 0) (pe_op op_mod (pv 1) (pe_callB call_lenA (by rfl) T.n_len bt_len (pa_cons (pv 0) pa_nil))) (fun _ _ => rfl)) pe_int) (pv 1)))))), fin_gen (ec := ecOf T) (g := sem_L_cell_at) (snd_seq (snd_if (snd_ts (snd_bin os_ltA (snd_var (ltN rfl)) (snd_cb cs_len nx_fLen (snd_cons (snd_var (ltN rfl)) snd_nil)))) (snd_ret (m := true) (snd_bin os_ix (snd_var (ltN rfl)) (snd_var (ltN rfl)))) snd_next)
      (snd_seq (snd_if (snd_ts (snd_bin os_eq (snd_var (ltN rfl)) (snd_lst snd_nil))) (snd_ret (m := true) snd_int) snd_next)
      (snd_ret (m := true) (snd_bin os_add (snd_bin os_mul (snd_bin os_ix (snd_var (ltN rfl)) (snd_bin os_mod (snd_var (ltN rfl)) (snd_cb cs_len nx_fLen (snd_cons (snd_var (ltN rfl)) snd_nil)))) snd_int) (snd_var (ltN rfl)))))) (by decide) h⟩
theorem sc__law_mixed : FnScope ["_law_script", "_law_k", "_law_many", "_law_drawn"] ["_law_script", "_law_k", "_law_many"] (defScope s_L_mixed) := ⟨rfl, rfl, rfl, by decide +kernel, rfl, by decide +kernel, by decide +kernel⟩
theorem ok_L_mixed {P : Program} {w : World} {K : PySem.W.Frag} {mg : Str → Option Value} {base : Heap} (T : Tops K mg) : FnOk P w K mg base (L2.CX P w) 2 T.L_mixed.f T.L_mixed.fd ["_law_script", "_law_k", "_law_many"] (spF K (ecOf T) 3 fs_L_mixed) := by
  refine T.L_mixed.F.okX sc__law_mixed (fun vs H Q E h => h.1) (fun cdv A outer s H vs Q E hr h => ?_)
  · have hu0 := hr.units0
    have hu64 := hr.units
    have hu65 := units65 hr
    have hu1 := units1 hr
    exact ⟨_, (pss_cons (ps_set (i := 3) sc__law_mixed.nd rfl (by first | exact .inl rfl | exact .inr rfl) (pe_op op_mod (pe_op op_mulAll (pe_op op_addAll (pe_op op_addAll (pe_callS (ok_L_cell_at T) (hr.mono (by decide)) (by rfl) T.L_cell_at.g T.L_cell_at.k T.L_cell_at.b (fun σ => passAt (takes_of rfl rfl rfl rfl) σ) (pa_cons (pv 0) (pa_cons (pv 1) pa_nil))) (pe_op op_mulAll pe_int (pv 1))) pe_int) pe_int) pe_int))
      (pss_one (ps_ret (pe_op op_mod (pe_op op_mod (pe_op op_addAll (pe_op op_addAll (pe_op op_mulAll (pv 3) (pv 3)) (pe_op op_mulAll pe_int (pv 3))) (pv 1)) pe_int) (pv 2))))), fin_gen (ec := ecOf T) (g := sem_L_mixed) (snd_seq (snd_set (m := true) (ltN rfl) (snd_bin os_mod (snd_bin os_mul (snd_bin os_add (snd_bin os_add (snd_call (snd_cons (snd_var (ltN rfl)) (snd_cons (snd_var (ltN rfl)) snd_nil))) (snd_bin os_mul snd_int (snd_var (ltN rfl)))) snd_int) snd_int) snd_int))
      (snd_ret (m := true) (snd_bin os_mod (snd_bin os_mod (snd_bin os_add (snd_bin os_add (snd_bin os_mul (snd_var (ltN rfl)) (snd_var (ltN rfl))) (snd_bin os_mul snd_int (snd_var (ltN rfl)))) (snd_var (ltN rfl))) snd_int) (snd_var (ltN rfl))))) (by decide) h⟩
theorem sc__law_web : FnScope ["_law_script", "_law_at", "_law_most", "_law_many", "_law_thick", "_law_top", "_law_arrows", "_law_ahead", "_law_behind", "_law_cell"] ["_law_script", "_law_at", "_law_most"] (defScope s_L_web) := ⟨rfl, rfl, rfl, by decide +kernel, rfl, by decide +kernel, by decide +kernel⟩
theorem ok_L_web {P : Program} {w : World} {K : PySem.W.Frag} {mg : Str → Option Value} {base : Heap} (T : Tops K mg) : FnOk P w K mg base (L2.CX P w) 3 T.L_web.f T.L_web.fd ["_law_script", "_law_at", "_law_most"] (spF K (ecOf T) 3 fs_L_web) := by
  refine T.L_web.F.okX sc__law_web (fun vs H Q E h => h.1) (fun cdv A outer s H vs Q E hr h => ?_)
  · have hu0 := hr.units0
    have hu64 := hr.units
    have hu65 := units65 hr
    have hu1 := units1 hr
    exact ⟨_, (pss_cons (ps_set (i := 3) sc__law_web.nd rfl (by first | exact .inl rfl | exact .inr rfl) (pe_op op_addAll pe_int (pe_callS (ok_L_mixed T) (hr.mono (by decide)) (by rfl) T.L_mixed.g T.L_mixed.k T.L_mixed.b (fun σ => passAt (takes_of rfl rfl rfl rfl) σ) (pa_cons (pv 0) (pa_cons (pv 1) (pa_cons (pv 2) pa_nil))))))
      (pss_cons (ps_set (i := 4) sc__law_web.nd rfl (by first | exact .inl rfl | exact .inr rfl) (pe_op op_addAll pe_int (pe_callS (ok_L_mixed T) (hr.mono (by decide)) (by rfl) T.L_mixed.g T.L_mixed.k T.L_mixed.b (fun σ => passAt (takes_of rfl rfl rfl rfl) σ) (pa_cons (pv 0) (pa_cons (pe_op op_addAll (pv 1) pe_int) (pa_cons pe_int pa_nil))))))
      (pss_cons (ps_set (i := 5) sc__law_web.nd rfl (by first | exact .inl rfl | exact .inr rfl) (pe_ix (ix_seqK (K := K)) (pe_lst (pa_cons pe_int (pa_cons pe_int (pa_cons pe_int (pa_cons pe_int pa_nil))))) (pe_callS (ok_L_mixed T) (hr.mono (by decide)) (by rfl) T.L_mixed.g T.L_mixed.k T.L_mixed.b (fun σ => passAt (takes_of rfl rfl rfl rfl) σ) (pa_cons (pv 0) (pa_cons (pe_op op_addAll (pv 1) pe_int) (pa_cons pe_int pa_nil)))) (fun _ _ => rfl)))
      (pss_cons (ps_set (i := 6) sc__law_web.nd rfl (by first | exact .inl rfl | exact .inr rfl) (pe_lst pa_nil))
      (pss_cons (ps_for (passes_of rfl) rfl (pi_range1 (by rfl) T.n_range (pa_cons (pv 3) pa_nil)) (pg_name (i := 7) sc__law_web.nd rfl (by first | exact .inl rfl | exact .inr rfl))
      (pss_one (ps_for (passes_of rfl) rfl (pi_range1 (by rfl) T.n_range (pa_cons (pv 3) pa_nil)) (pg_name (i := 8) sc__law_web.nd rfl (by first | exact .inl rfl | exact .inr rfl))
      (pss_cons (ps_set (i := 9) sc__law_web.nd rfl (by first | exact .inl rfl | exact .inr rfl) (pe_callS (ok_L_mixed T) (hr.mono (by decide)) (by rfl) T.L_mixed.g T.L_mixed.k T.L_mixed.b (fun σ => passAt (takes_of rfl rfl rfl rfl) σ) (pa_cons (pv 0) (pa_cons (pe_op op_addAll (pe_op op_addAll (pe_op op_addAll (pv 1) pe_int) (pe_op op_mulAll pe_int (pv 7))) (pv 8)) (pa_cons (pe_op op_mulAll pe_int (pv 5)) pa_nil)))))
      (pss_one (ps_if (PW.pt (pw_and (pt_cmpR (op_neK (K := K) hu64) (pv 7) (pv 8) (nomark _)) (pw_and1 (pt_cmpR (op_ltAll hu0) (pe_op op_mod (pv 9) pe_int) (pv 4) (nomark _))))) (pss_one (ps_expr (pe_bm PySem.F.plainAttrs_list PySem.F.slot_list_append PySem.F.type_list_append mt_append (pv 6) (pa_cons (pe_tup (pa_cons (pv 7) (pa_cons (pv 8) (pa_cons (pe_op op_addAll pe_int (pe_op op_fdivW (pv 9) pe_int)) pa_nil)))) pa_nil)))) pss_nil))))))
      (pss_one (ps_ret (pe_tup (pa_cons (pv 3) (pa_cons (pe_callTy call_tuple_ofF (by rfl) T.n_tuple bt_tuple (pa_cons (pv 6) pa_nil)) pa_nil)))))))))), fin_gen (ec := ecOf T) (g := sem_L_web) (snd_seq (snd_set (m := true) (ltN rfl) (snd_bin os_add snd_int (snd_call (snd_cons (snd_var (ltN rfl)) (snd_cons (snd_var (ltN rfl)) (snd_cons (snd_var (ltN rfl)) snd_nil))))))
      (snd_seq (snd_set (m := true) (ltN rfl) (snd_bin os_add snd_int (snd_call (snd_cons (snd_var (ltN rfl)) (snd_cons (snd_bin os_add (snd_var (ltN rfl)) snd_int) (snd_cons snd_int snd_nil))))))
      (snd_seq (snd_set (m := true) (ltN rfl) (snd_bin os_ix (snd_lst (snd_cons snd_int (snd_cons snd_int (snd_cons snd_int (snd_cons snd_int snd_nil))))) (snd_call (snd_cons (snd_var (ltN rfl)) (snd_cons (snd_bin os_add (snd_var (ltN rfl)) snd_int) (snd_cons snd_int snd_nil))))))
      (snd_seq (snd_set (m := true) (ltN rfl) (snd_lst snd_nil))
      (snd_seq (snd_for (m := true) (si_rng1 (snd_cons (snd_var (ltN rfl)) snd_nil)) (sg_name (ltN rfl))
      (snd_for (m := true) (si_rng1 (snd_cons (snd_var (ltN rfl)) snd_nil)) (sg_name (ltN rfl))
      (snd_seq (snd_set (m := true) (ltN rfl) (snd_call (snd_cons (snd_var (ltN rfl)) (snd_cons (snd_bin os_add (snd_bin os_add (snd_bin os_add (snd_var (ltN rfl)) snd_int) (snd_bin os_mul snd_int (snd_var (ltN rfl)))) (snd_var (ltN rfl))) (snd_cons (snd_bin os_mul snd_int (snd_var (ltN rfl))) snd_nil)))))
      (snd_if (snd_tand (snd_ts (snd_bin os_ne (snd_var (ltN rfl)) (snd_var (ltN rfl)))) (snd_ts (snd_bin os_ltA (snd_bin os_mod (snd_var (ltN rfl)) snd_int) (snd_var (ltN rfl))))) (snd_drop (m := true) (snd_mut (sp_var (ltN rfl)) ms_append (snd_cons (snd_tup (snd_cons (snd_var (ltN rfl)) (snd_cons (snd_var (ltN rfl)) (snd_cons (snd_bin os_add snd_int (snd_bin os_div (snd_var (ltN rfl)) snd_int)) snd_nil)))) snd_nil) (.inr (ltN rfl)))) snd_next))))
      (snd_ret (m := true) (snd_tup (snd_cons (snd_var (ltN rfl)) (snd_cons (snd_cb cs_tup nx_fTup (snd_cons (snd_var (ltN rfl)) snd_nil)) snd_nil))))))))) (by decide) h⟩
theorem sc__law_row : FnScope ["_law_script", "_law_at", "_law_many", "_law_left", "_law_made", "_law_k"] ["_law_script", "_law_at", "_law_many"] (defScope s_L_row) := ⟨rfl, rfl, rfl, by decide +kernel, rfl, by decide +kernel, by decide +kernel⟩
theorem ok_L_row {P : Program} {w : World} {K : PySem.W.Frag} {mg : Str → Option Value} {base : Heap} (T : Tops K mg) : FnOk P w K mg base (L2.CX P w) 3 T.L_row.f T.L_row.fd ["_law_script", "_law_at", "_law_many"] (spF K (ecOf T) 3 fs_L_row) := by
  refine T.L_row.F.okX sc__law_row (fun vs H Q E h => h.1) (fun cdv A outer s H vs Q E hr h => ?_)
  · have hu0 := hr.units0
    have hu64 := hr.units
    have hu65 := units65 hr
    have hu1 := units1 hr
    exact ⟨_, (pss_cons (ps_set (i := 3) sc__law_row.nd rfl (by first | exact .inl rfl | exact .inr rfl) (pe_listRg rfl (by rfl) T.n_list (prg_1 (by rfl) T.n_range (pv 2))))
      (pss_cons (ps_set (i := 4) sc__law_row.nd rfl (by first | exact .inl rfl | exact .inr rfl) (pe_lst pa_nil))
      (pss_cons (ps_for (passes_of rfl) rfl (pi_range1 (by rfl) T.n_range (pa_cons (pv 2) pa_nil)) (pg_name (i := 5) sc__law_row.nd rfl (by first | exact .inl rfl | exact .inr rfl))
      (pss_one (ps_expr (pe_bm PySem.F.plainAttrs_list PySem.F.slot_list_append PySem.F.type_list_append mt_append (pv 4) (pa_cons (pe_bm PySem.F.plainAttrs_list PySem.F.slot_list_pop PySem.F.type_list_pop mt_popAt (pv 3) (pa_cons (pe_callS (ok_L_mixed T) (hr.mono (by decide)) (by rfl) T.L_mixed.g T.L_mixed.k T.L_mixed.b (fun σ => passAt (takes_of rfl rfl rfl rfl) σ) (pa_cons (pv 0) (pa_cons (pe_op op_addAll (pv 1) (pv 5)) (pa_cons (pe_callB call_lenA (by rfl) T.n_len bt_len (pa_cons (pv 3) pa_nil)) pa_nil)))) pa_nil)) pa_nil)))))
      (pss_one (ps_ret (pe_callTy call_tuple_ofF (by rfl) T.n_tuple bt_tuple (pa_cons (pv 4) pa_nil))))))), fin_gen (ec := ecOf T) (g := sem_L_row) (snd_seq (snd_set (m := true) (ltN rfl) (snd_lrg1 (snd_var (ltN rfl))))
      (snd_seq (snd_set (m := true) (ltN rfl) (snd_lst snd_nil))
      (snd_seq (snd_for (m := true) (si_rng1 (snd_cons (snd_var (ltN rfl)) snd_nil)) (sg_name (ltN rfl))
      (snd_drop (m := true) (snd_mut (sp_var (ltN rfl)) ms_append (snd_cons (snd_mut (sp_var (ltN rfl)) ms_popAt (snd_cons (snd_call (snd_cons (snd_var (ltN rfl)) (snd_cons (snd_bin os_add (snd_var (ltN rfl)) (snd_var (ltN rfl))) (snd_cons (snd_cb cs_len nx_fLen (snd_cons (snd_var (ltN rfl)) snd_nil)) snd_nil)))) snd_nil) (.inr (ltN rfl))) snd_nil) (.inr (ltN rfl)))))
      (snd_ret (m := true) (snd_cb cs_tup nx_fTup (snd_cons (snd_var (ltN rfl)) snd_nil)))))) (by decide) h⟩
def tb_L_with_web_1 (fa : FAs) : Tbl := fun f => if f = fa.checked then some fs_checked else if f = fa.turned_about then some fs_turned_about else if f = fa.ring then some fs_ring else if f = fa.rings then some fs_rings else if f = fa.is_free then some fs_is_free else if f = fa.least then some fs_least else if f = fa.count_best then some fs_count_best else if f = fa.sure then some fs_sure else if f = fa.parts then some fs_parts else if f = fa.whole_shares then some fs_whole_shares else if f = fa.greatest then some fs_greatest else if f = fa.paper then some fs_paper else if f = fa.shown then some fs_shown else none
theorem hd_L_with_web_1 {P : Program} {w : World} {K : PySem.W.Frag} {mg : Str → Option Value} {base : Heap} (T : Tops K mg) : ∀ f sp, spTb K (ecOf T) 1 (tb_L_with_web_1 (faOf T)) f = some sp → HeldS P w K mg base 24 f sp := fun f sp h => by
  unfold spTb tb_L_with_web_1 at h
  by_cases e : f = T.checked.f
  · rw [if_pos (show f = (faOf T).checked from e)] at h
    cases h
    subst e
    exact ⟨_, _, _, by decide, ok_checked T, T.checked.k, T.checked.b⟩
  rw [if_neg (show ¬ f = (faOf T).checked from e)] at h
  clear e
  by_cases e : f = T.turned_about.f
  · rw [if_pos (show f = (faOf T).turned_about from e)] at h
    cases h
    subst e
    exact ⟨_, _, _, by decide, ok_turned_about T, T.turned_about.k, T.turned_about.b⟩
  rw [if_neg (show ¬ f = (faOf T).turned_about from e)] at h
  clear e
  by_cases e : f = T.ring.f
  · rw [if_pos (show f = (faOf T).ring from e)] at h
    cases h
    subst e
    exact ⟨_, _, _, by decide, ok_ring T, T.ring.k, T.ring.b⟩
  rw [if_neg (show ¬ f = (faOf T).ring from e)] at h
  clear e
  by_cases e : f = T.rings.f
  · rw [if_pos (show f = (faOf T).rings from e)] at h
    cases h
    subst e
    exact ⟨_, _, _, by decide, ok_rings T, T.rings.k, T.rings.b⟩
  rw [if_neg (show ¬ f = (faOf T).rings from e)] at h
  clear e
  by_cases e : f = T.is_free.f
  · rw [if_pos (show f = (faOf T).is_free from e)] at h
    cases h
    subst e
    exact ⟨_, _, _, by decide, ok_is_free T, T.is_free.k, T.is_free.b⟩
  rw [if_neg (show ¬ f = (faOf T).is_free from e)] at h
  clear e
  by_cases e : f = T.least.f
  · rw [if_pos (show f = (faOf T).least from e)] at h
    cases h
    subst e
    exact ⟨_, _, _, by decide, ok_least T, T.least.k, T.least.b⟩
  rw [if_neg (show ¬ f = (faOf T).least from e)] at h
  clear e
  by_cases e : f = T.count_best.f
  · rw [if_pos (show f = (faOf T).count_best from e)] at h
    cases h
    subst e
    exact ⟨_, _, _, by decide, ok_count_best T, T.count_best.k, T.count_best.b⟩
  rw [if_neg (show ¬ f = (faOf T).count_best from e)] at h
  clear e
  by_cases e : f = T.sure.f
  · rw [if_pos (show f = (faOf T).sure from e)] at h
    cases h
    subst e
    exact ⟨_, _, _, by decide, ok_sure T, T.sure.k, T.sure.b⟩
  rw [if_neg (show ¬ f = (faOf T).sure from e)] at h
  clear e
  by_cases e : f = T.parts.f
  · rw [if_pos (show f = (faOf T).parts from e)] at h
    cases h
    subst e
    exact ⟨_, _, _, by decide, ok_parts T, T.parts.k, T.parts.b⟩
  rw [if_neg (show ¬ f = (faOf T).parts from e)] at h
  clear e
  by_cases e : f = T.whole_shares.f
  · rw [if_pos (show f = (faOf T).whole_shares from e)] at h
    cases h
    subst e
    exact ⟨_, _, _, by decide, ok_whole_shares T, T.whole_shares.k, T.whole_shares.b⟩
  rw [if_neg (show ¬ f = (faOf T).whole_shares from e)] at h
  clear e
  by_cases e : f = T.greatest.f
  · rw [if_pos (show f = (faOf T).greatest from e)] at h
    cases h
    subst e
    exact ⟨_, _, _, by decide, ok_greatest T, T.greatest.k, T.greatest.b⟩
  rw [if_neg (show ¬ f = (faOf T).greatest from e)] at h
  clear e
  by_cases e : f = T.paper.f
  · rw [if_pos (show f = (faOf T).paper from e)] at h
    cases h
    subst e
    exact ⟨_, _, _, by decide, ok_paper T, T.paper.k, T.paper.b⟩
  rw [if_neg (show ¬ f = (faOf T).paper from e)] at h
  clear e
  by_cases e : f = T.shown.f
  · rw [if_pos (show f = (faOf T).shown from e)] at h
    cases h
    subst e
    exact ⟨_, _, _, by decide, ok_shown T, T.shown.k, T.shown.b⟩
  rw [if_neg (show ¬ f = (faOf T).shown from e)] at h
  clear e
  cases h
def tb_L_with_web_2 (fa : FAs) : Tbl := fun f => if f = fa.turned then some fs_turned else if f = fa.weight then some fs_weight else if f = fa.part_web then some fs_part_web else if f = fa.fit then some fs_fit else if f = fa.is_settled then some fs_is_settled else if f = fa.better then some fs_better else none
theorem hd_L_with_web_2 {P : Program} {w : World} {K : PySem.W.Frag} {mg : Str → Option Value} {base : Heap} (T : Tops K mg) : ∀ f sp, spTb K (ecOf T) 2 (tb_L_with_web_2 (faOf T)) f = some sp → HeldS P w K mg base 7 f sp := fun f sp h => by
  unfold spTb tb_L_with_web_2 at h
  by_cases e : f = T.turned.f
  · rw [if_pos (show f = (faOf T).turned from e)] at h
    cases h
    subst e
    exact ⟨_, _, _, by decide, ok_turned T, T.turned.k, T.turned.b⟩
  rw [if_neg (show ¬ f = (faOf T).turned from e)] at h
  clear e
  by_cases e : f = T.weight.f
  · rw [if_pos (show f = (faOf T).weight from e)] at h
    cases h
    subst e
    exact ⟨_, _, _, by decide, ok_weight T, T.weight.k, T.weight.b⟩
  rw [if_neg (show ¬ f = (faOf T).weight from e)] at h
  clear e
  by_cases e : f = T.part_web.f
  · rw [if_pos (show f = (faOf T).part_web from e)] at h
    cases h
    subst e
    exact ⟨_, _, _, by decide, ok_part_web T, T.part_web.k, T.part_web.b⟩
  rw [if_neg (show ¬ f = (faOf T).part_web from e)] at h
  clear e
  by_cases e : f = T.fit.f
  · rw [if_pos (show f = (faOf T).fit from e)] at h
    cases h
    subst e
    exact ⟨_, _, _, by decide, ok_fit T, T.fit.k, T.fit.b⟩
  rw [if_neg (show ¬ f = (faOf T).fit from e)] at h
  clear e
  by_cases e : f = T.is_settled.f
  · rw [if_pos (show f = (faOf T).is_settled from e)] at h
    cases h
    subst e
    exact ⟨_, _, _, by decide, ok_is_settled T, T.is_settled.k, T.is_settled.b⟩
  rw [if_neg (show ¬ f = (faOf T).is_settled from e)] at h
  clear e
  by_cases e : f = T.better.f
  · rw [if_pos (show f = (faOf T).better from e)] at h
    cases h
    subst e
    exact ⟨_, _, _, by decide, ok_better T, T.better.k, T.better.b⟩
  rw [if_neg (show ¬ f = (faOf T).better from e)] at h
  clear e
  cases h
def tb_L_with_web_3 (fa : FAs) : Tbl := fun f => if f = fa.are_parts then some fs_are_parts else if f = fa.shows then some fs_shows else none
theorem hd_L_with_web_3 {P : Program} {w : World} {K : PySem.W.Frag} {mg : Str → Option Value} {base : Heap} (T : Tops K mg) : ∀ f sp, spTb K (ecOf T) 3 (tb_L_with_web_3 (faOf T)) f = some sp → HeldS P w K mg base 6 f sp := fun f sp h => by
  unfold spTb tb_L_with_web_3 at h
  by_cases e : f = T.are_parts.f
  · rw [if_pos (show f = (faOf T).are_parts from e)] at h
    cases h
    subst e
    exact ⟨_, _, _, by decide, ok_are_parts T, T.are_parts.k, T.are_parts.b⟩
  rw [if_neg (show ¬ f = (faOf T).are_parts from e)] at h
  clear e
  by_cases e : f = T.shows.f
  · rw [if_pos (show f = (faOf T).shows from e)] at h
    cases h
    subst e
    exact ⟨_, _, _, by decide, ok_shows T, T.shows.k, T.shows.b⟩
  rw [if_neg (show ¬ f = (faOf T).shows from e)] at h
  clear e
  cases h
def tb_L_with_web_4 (fa : FAs) : Tbl := fun f => if f = fa.moved then some fs_moved else if f = fa.with_arrow then some fs_with_arrow else none
theorem hd_L_with_web_4 {P : Program} {w : World} {K : PySem.W.Frag} {mg : Str → Option Value} {base : Heap} (T : Tops K mg) : ∀ f sp, spTb K (ecOf T) 4 (tb_L_with_web_4 (faOf T)) f = some sp → HeldS P w K mg base 7 f sp := fun f sp h => by
  unfold spTb tb_L_with_web_4 at h
  by_cases e : f = T.moved.f
  · rw [if_pos (show f = (faOf T).moved from e)] at h
    cases h
    subst e
    exact ⟨_, _, _, by decide, ok_moved T, T.moved.k, T.moved.b⟩
  rw [if_neg (show ¬ f = (faOf T).moved from e)] at h
  clear e
  by_cases e : f = T.with_arrow.f
  · rw [if_pos (show f = (faOf T).with_arrow from e)] at h
    cases h
    subst e
    exact ⟨_, _, _, by decide, ok_with_arrow T, T.with_arrow.k, T.with_arrow.b⟩
  rw [if_neg (show ¬ f = (faOf T).with_arrow from e)] at h
  clear e
  cases h
theorem sc__law_with_web : FnScope ["_law_what", "_law_bad", "_law_good", "_law_some"] ["_law_what", "_law_bad", "_law_good"] (defScope s_L_with_web) := ⟨rfl, rfl, rfl, by decide +kernel, rfl, by decide +kernel, by decide +kernel⟩
def sem_L_with_web (fa : FAs) : Sem :=
  (sSeq (sIf (tsE (eBin opLtA (eVar 0) (eC (.int 13)))) (sSeq (sSet 3 (eLst (aCons (eC (.adr fa.checked)) (aCons (eC (.adr fa.turned_about)) (aCons (eC (.adr fa.ring)) (aCons (eC (.adr fa.rings)) (aCons (eC (.adr fa.is_free)) (aCons (eC (.adr fa.least)) (aCons (eC (.adr fa.count_best)) (aCons (eC (.adr fa.sure)) (aCons (eC (.adr fa.parts)) aNil)))))))))))
    (sSeq (sDrop (eMut 3 okT "list" muExtend (aCons (eLst (aCons (eC (.adr fa.whole_shares)) (aCons (eC (.adr fa.greatest)) (aCons (eC (.adr fa.paper)) aNil)))) aNil)))
    (sRet (eCallH (tb_L_with_web_1 fa) (eBin opIx (eBin opAdd (eVar 3) (eLst (aCons (eC (.adr fa.shown)) aNil))) (eVar 0)) (aCons (eVar 1) aNil))))) sNext)
    (sSeq (sIf (tsE (eBin opLtA (eVar 0) (eC (.int 19)))) (sRet (eCallH (tb_L_with_web_2 fa) (eBin opIx (eLst (aCons (eC (.adr fa.turned)) (aCons (eC (.adr fa.weight)) (aCons (eC (.adr fa.part_web)) (aCons (eC (.adr fa.fit)) (aCons (eC (.adr fa.is_settled)) (aCons (eC (.adr fa.better)) aNil))))))) (eBin opSub (eVar 0) (eC (.int 13)))) (aCons (eVar 1) (aCons (eC .non) aNil)))) sNext)
    (sSeq (sIf (tsE (eBin opLtA (eVar 0) (eC (.int 21)))) (sRet (eCallH (tb_L_with_web_3 fa) (eBin opIx (eLst (aCons (eC (.adr fa.are_parts)) (aCons (eC (.adr fa.shows)) aNil))) (eBin opSub (eVar 0) (eC (.int 19)))) (aCons (eVar 1) (aCons (eC .non) (aCons (eC .non) aNil))))) sNext)
    (sSeq (sIf (tsE (eBin opLtA (eVar 0) (eC (.int 23)))) (sRet (eCallH (tb_L_with_web_4 fa) (eBin opIx (eLst (aCons (eC (.adr fa.moved)) (aCons (eC (.adr fa.with_arrow)) aNil))) (eBin opSub (eVar 0) (eC (.int 21)))) (aCons (eVar 1) (aCons (eC .non) (aCons (eC .non) (aCons (eC .non) aNil)))))) sNext)
    (sRet (eCall fs_joined (aCons (eBin opIx (eLst (aCons (eVar 1) (aCons (eVar 2) aNil))) (eBin opMod (eVar 0) (eC (.int 2)))) (aCons (eBin opIx (eLst (aCons (eVar 2) (aCons (eVar 1) aNil))) (eBin opMod (eVar 0) (eC (.int 2)))) aNil))))))))
def fs_L_with_web (fa : FAs) : List D → Rf := fsOf 4 (sem_L_with_web fa)
theorem ok_L_with_web {P : Program} {w : World} {K : PySem.W.Frag} {mg : Str → Option Value} {base : Heap} (T : Tops K mg) : FnOk P w K mg base (L2.CX P w) 25 T.L_with_web.f T.L_with_web.fd ["_law_what", "_law_bad", "_law_good"] (spF K (ecOf T) 3 (fs_L_with_web (faOf T))) := by
  refine T.L_with_web.F.okX sc__law_with_web (fun vs H Q E h => h.1) (fun cdv A outer s H vs Q E hr h => ?_)
  · have hu0 := hr.units0
    have hu64 := hr.units
    have hu65 := units65 hr
    have hu1 := units1 hr
    exact ⟨_, (pss_cons (ps_if (pt_cmpR (op_ltAll hu0) (pv 0) pe_int (nomark _)) (pss_cons (ps_set (i := 3) sc__law_with_web.nd rfl (by first | exact .inl rfl | exact .inr rfl) (pe_lst (pa_cons (pe_glob (v := .ref T.checked.f) (by rfl) T.checked.g rfl) (pa_cons (pe_glob (v := .ref T.turned_about.f) (by rfl) T.turned_about.g rfl) (pa_cons (pe_glob (v := .ref T.ring.f) (by rfl) T.ring.g rfl) (pa_cons (pe_glob (v := .ref T.rings.f) (by rfl) T.rings.g rfl) (pa_cons (pe_glob (v := .ref T.is_free.f) (by rfl) T.is_free.g rfl) (pa_cons (pe_glob (v := .ref T.least.f) (by rfl) T.least.g rfl) (pa_cons (pe_glob (v := .ref T.count_best.f) (by rfl) T.count_best.g rfl) (pa_cons (pe_glob (v := .ref T.sure.f) (by rfl) T.sure.g rfl) (pa_cons (pe_glob (v := .ref T.parts.f) (by rfl) T.parts.g rfl) pa_nil)))))))))))
      (pss_cons (ps_expr (pe_bm PySem.F.plainAttrs_list PySem.F.slot_list_extend PySem.F.type_list_extend mt_extend (pv 3) (pa_cons (pe_lst (pa_cons (pe_glob (v := .ref T.whole_shares.f) (by rfl) T.whole_shares.g rfl) (pa_cons (pe_glob (v := .ref T.greatest.f) (by rfl) T.greatest.g rfl) (pa_cons (pe_glob (v := .ref T.paper.f) (by rfl) T.paper.g rfl) pa_nil)))) pa_nil)))
      (pss_one (ps_ret (pe_callH (hd_L_with_web_1 T) (hr.mono (by decide)) (fun σ => passAt (takes_of rfl rfl rfl rfl) σ) (pe_ix (ix_seqK (K := K)) (pe_op op_addAll (pv 3) (pe_lst (pa_cons (pe_glob (v := .ref T.shown.f) (by rfl) T.shown.g rfl) pa_nil))) (pv 0) (fun _ _ => rfl)) (pa_cons (pv 1) pa_nil)))))) pss_nil)
      (pss_cons (ps_if (pt_cmpR (op_ltAll hu0) (pv 0) pe_int (nomark _)) (pss_one (ps_ret (pe_callH (hd_L_with_web_2 T) (hr.mono (by decide)) (fun σ => passAt (takes_of rfl rfl rfl rfl) σ) (pe_ix (ix_seqK (K := K)) (pe_lst (pa_cons (pe_glob (v := .ref T.turned.f) (by rfl) T.turned.g rfl) (pa_cons (pe_glob (v := .ref T.weight.f) (by rfl) T.weight.g rfl) (pa_cons (pe_glob (v := .ref T.part_web.f) (by rfl) T.part_web.g rfl) (pa_cons (pe_glob (v := .ref T.fit.f) (by rfl) T.fit.g rfl) (pa_cons (pe_glob (v := .ref T.is_settled.f) (by rfl) T.is_settled.g rfl) (pa_cons (pe_glob (v := .ref T.better.f) (by rfl) T.better.g rfl) pa_nil))))))) (pe_op op_sub (pv 0) pe_int) (fun _ _ => rfl)) (pa_cons (pv 1) (pa_cons pe_non pa_nil))))) pss_nil)
      (pss_cons (ps_if (pt_cmpR (op_ltAll hu0) (pv 0) pe_int (nomark _)) (pss_one (ps_ret (pe_callH (hd_L_with_web_3 T) (hr.mono (by decide)) (fun σ => passAt (takes_of rfl rfl rfl rfl) σ) (pe_ix (ix_seqK (K := K)) (pe_lst (pa_cons (pe_glob (v := .ref T.are_parts.f) (by rfl) T.are_parts.g rfl) (pa_cons (pe_glob (v := .ref T.shows.f) (by rfl) T.shows.g rfl) pa_nil))) (pe_op op_sub (pv 0) pe_int) (fun _ _ => rfl)) (pa_cons (pv 1) (pa_cons pe_non (pa_cons pe_non pa_nil)))))) pss_nil)
      (pss_cons (ps_if (pt_cmpR (op_ltAll hu0) (pv 0) pe_int (nomark _)) (pss_one (ps_ret (pe_callH (hd_L_with_web_4 T) (hr.mono (by decide)) (fun σ => passAt (takes_of rfl rfl rfl rfl) σ) (pe_ix (ix_seqK (K := K)) (pe_lst (pa_cons (pe_glob (v := .ref T.moved.f) (by rfl) T.moved.g rfl) (pa_cons (pe_glob (v := .ref T.with_arrow.f) (by rfl) T.with_arrow.g rfl) pa_nil))) (pe_op op_sub (pv 0) pe_int) (fun _ _ => rfl)) (pa_cons (pv 1) (pa_cons pe_non (pa_cons pe_non (pa_cons pe_non pa_nil))))))) pss_nil)
      (pss_one (ps_ret (pe_callS (ok_joined T) (hr.mono (by decide)) (by rfl) T.joined.g T.joined.k T.joined.b (fun σ => passAt (takes_of rfl rfl rfl rfl) σ) (pa_cons (pe_ix (ix_seqK (K := K)) (pe_lst (pa_cons (pv 1) (pa_cons (pv 2) pa_nil))) (pe_op op_mod (pv 0) pe_int) (fun _ _ => rfl)) (pa_cons (pe_ix (ix_seqK (K := K)) (pe_lst (pa_cons (pv 2) (pa_cons (pv 1) pa_nil))) (pe_op op_mod (pv 0) pe_int) (fun _ _ => rfl)) pa_nil))))))))), fin_gen (ec := ecOf T) (g := sem_L_with_web (faOf T)) (snd_seq (snd_if (snd_ts (snd_bin os_ltA (snd_var (ltN rfl)) snd_int)) (snd_seq (snd_set (m := true) (ltN rfl) (snd_lst (snd_cons snd_adr (snd_cons snd_adr (snd_cons snd_adr (snd_cons snd_adr (snd_cons snd_adr (snd_cons snd_adr (snd_cons snd_adr (snd_cons snd_adr (snd_cons snd_adr snd_nil)))))))))))
      (snd_seq (snd_drop (m := true) (snd_mut (sp_var (ltN rfl)) ms_extend (snd_cons (snd_lst (snd_cons snd_adr (snd_cons snd_adr (snd_cons snd_adr snd_nil)))) snd_nil) (.inr (ltN rfl))))
      (snd_ret (m := true) (snd_callH (snd_bin os_ix (snd_bin os_add (snd_var (ltN rfl)) (snd_lst (snd_cons snd_adr snd_nil))) (snd_var (ltN rfl))) (snd_cons (snd_var (ltN rfl)) snd_nil))))) snd_next)
      (snd_seq (snd_if (snd_ts (snd_bin os_ltA (snd_var (ltN rfl)) snd_int)) (snd_ret (m := true) (snd_callH (snd_bin os_ix (snd_lst (snd_cons snd_adr (snd_cons snd_adr (snd_cons snd_adr (snd_cons snd_adr (snd_cons snd_adr (snd_cons snd_adr snd_nil))))))) (snd_bin os_sub (snd_var (ltN rfl)) snd_int)) (snd_cons (snd_var (ltN rfl)) (snd_cons snd_non snd_nil)))) snd_next)
      (snd_seq (snd_if (snd_ts (snd_bin os_ltA (snd_var (ltN rfl)) snd_int)) (snd_ret (m := true) (snd_callH (snd_bin os_ix (snd_lst (snd_cons snd_adr (snd_cons snd_adr snd_nil))) (snd_bin os_sub (snd_var (ltN rfl)) snd_int)) (snd_cons (snd_var (ltN rfl)) (snd_cons snd_non (snd_cons snd_non snd_nil))))) snd_next)
      (snd_seq (snd_if (snd_ts (snd_bin os_ltA (snd_var (ltN rfl)) snd_int)) (snd_ret (m := true) (snd_callH (snd_bin os_ix (snd_lst (snd_cons snd_adr (snd_cons snd_adr snd_nil))) (snd_bin os_sub (snd_var (ltN rfl)) snd_int)) (snd_cons (snd_var (ltN rfl)) (snd_cons snd_non (snd_cons snd_non (snd_cons snd_non snd_nil)))))) snd_next)
      (snd_ret (m := true) (snd_call (snd_cons (snd_bin os_ix (snd_lst (snd_cons (snd_var (ltN rfl)) (snd_cons (snd_var (ltN rfl)) snd_nil))) (snd_bin os_mod (snd_var (ltN rfl)) snd_int)) (snd_cons (snd_bin os_ix (snd_lst (snd_cons (snd_var (ltN rfl)) (snd_cons (snd_var (ltN rfl)) snd_nil))) (snd_bin os_mod (snd_var (ltN rfl)) snd_int)) snd_nil)))))))) (by decide) h⟩
def tb_L_with_row_1 (fa : FAs) : Tbl := fun f => if f = fa.turned then some fs_turned else if f = fa.weight then some fs_weight else if f = fa.is_settled then some fs_is_settled else if f = fa.better then some fs_better else none
theorem hd_L_with_row_1 {P : Program} {w : World} {K : PySem.W.Frag} {mg : Str → Option Value} {base : Heap} (T : Tops K mg) : ∀ f sp, spTb K (ecOf T) 2 (tb_L_with_row_1 (faOf T)) f = some sp → HeldS P w K mg base 7 f sp := fun f sp h => by
  unfold spTb tb_L_with_row_1 at h
  by_cases e : f = T.turned.f
  · rw [if_pos (show f = (faOf T).turned from e)] at h
    cases h
    subst e
    exact ⟨_, _, _, by decide, ok_turned T, T.turned.k, T.turned.b⟩
  rw [if_neg (show ¬ f = (faOf T).turned from e)] at h
  clear e
  by_cases e : f = T.weight.f
  · rw [if_pos (show f = (faOf T).weight from e)] at h
    cases h
    subst e
    exact ⟨_, _, _, by decide, ok_weight T, T.weight.k, T.weight.b⟩
  rw [if_neg (show ¬ f = (faOf T).weight from e)] at h
  clear e
  by_cases e : f = T.is_settled.f
  · rw [if_pos (show f = (faOf T).is_settled from e)] at h
    cases h
    subst e
    exact ⟨_, _, _, by decide, ok_is_settled T, T.is_settled.k, T.is_settled.b⟩
  rw [if_neg (show ¬ f = (faOf T).is_settled from e)] at h
  clear e
  by_cases e : f = T.better.f
  · rw [if_pos (show f = (faOf T).better from e)] at h
    cases h
    subst e
    exact ⟨_, _, _, by decide, ok_better T, T.better.k, T.better.b⟩
  rw [if_neg (show ¬ f = (faOf T).better from e)] at h
  clear e
  cases h
theorem sc__law_with_row : FnScope ["_law_what", "_law_web_here", "_law_bad"] ["_law_what", "_law_web_here", "_law_bad"] (defScope s_L_with_row) := ⟨rfl, rfl, rfl, by decide +kernel, rfl, by decide +kernel, by decide +kernel⟩
def sem_L_with_row (fa : FAs) : Sem :=
  (sSeq (sIf (tsE (eBin opLtA (eVar 0) (eC (.int 4)))) (sRet (eCallH (tb_L_with_row_1 fa) (eBin opIx (eLst (aCons (eC (.adr fa.turned)) (aCons (eC (.adr fa.weight)) (aCons (eC (.adr fa.is_settled)) (aCons (eC (.adr fa.better)) aNil))))) (eVar 0)) (aCons (eVar 1) (aCons (eVar 2) aNil)))) sNext)
    (sRet (eCall fs_moved (aCons (eVar 1) (aCons (eVar 2) (aCons (eC .non) (aCons (eC .non) aNil)))))))
def fs_L_with_row (fa : FAs) : List D → Rf := fsOf 3 (sem_L_with_row fa)
theorem ok_L_with_row {P : Program} {w : World} {K : PySem.W.Frag} {mg : Str → Option Value} {base : Heap} (T : Tops K mg) : FnOk P w K mg base (L2.CX P w) 8 T.L_with_row.f T.L_with_row.fd ["_law_what", "_law_web_here", "_law_bad"] (spF K (ecOf T) 3 (fs_L_with_row (faOf T))) := by
  refine T.L_with_row.F.okX sc__law_with_row (fun vs H Q E h => h.1) (fun cdv A outer s H vs Q E hr h => ?_)
  · have hu0 := hr.units0
    have hu64 := hr.units
    have hu65 := units65 hr
    have hu1 := units1 hr
    exact ⟨_, (pss_cons (ps_if (pt_cmpR (op_ltAll hu0) (pv 0) pe_int (nomark _)) (pss_one (ps_ret (pe_callH (hd_L_with_row_1 T) (hr.mono (by decide)) (fun σ => passAt (takes_of rfl rfl rfl rfl) σ) (pe_ix (ix_seqK (K := K)) (pe_lst (pa_cons (pe_glob (v := .ref T.turned.f) (by rfl) T.turned.g rfl) (pa_cons (pe_glob (v := .ref T.weight.f) (by rfl) T.weight.g rfl) (pa_cons (pe_glob (v := .ref T.is_settled.f) (by rfl) T.is_settled.g rfl) (pa_cons (pe_glob (v := .ref T.better.f) (by rfl) T.better.g rfl) pa_nil))))) (pv 0) (fun _ _ => rfl)) (pa_cons (pv 1) (pa_cons (pv 2) pa_nil))))) pss_nil)
      (pss_one (ps_ret (pe_callS (ok_moved T) (hr.mono (by decide)) (by rfl) T.moved.g T.moved.k T.moved.b (fun σ => passAt (takes_of rfl rfl rfl rfl) σ) (pa_cons (pv 1) (pa_cons (pv 2) (pa_cons pe_non (pa_cons pe_non pa_nil)))))))), fin_gen (ec := ecOf T) (g := sem_L_with_row (faOf T)) (snd_seq (snd_if (snd_ts (snd_bin os_ltA (snd_var (ltN rfl)) snd_int)) (snd_ret (m := true) (snd_callH (snd_bin os_ix (snd_lst (snd_cons snd_adr (snd_cons snd_adr (snd_cons snd_adr (snd_cons snd_adr snd_nil))))) (snd_var (ltN rfl))) (snd_cons (snd_var (ltN rfl)) (snd_cons (snd_var (ltN rfl)) snd_nil)))) snd_next)
      (snd_ret (m := true) (snd_call (snd_cons (snd_var (ltN rfl)) (snd_cons (snd_var (ltN rfl)) (snd_cons snd_non (snd_cons snd_non snd_nil))))))) (by decide) h⟩
def tb_L_with_number_1 (fa : FAs) : Tbl := fun f => if f = fa.kept then some fs_kept else if f = fa.row_behind then some fs_row_behind else none
theorem hd_L_with_number_1 {P : Program} {w : World} {K : PySem.W.Frag} {mg : Str → Option Value} {base : Heap} (T : Tops K mg) : ∀ f sp, spTb K (ecOf T) 2 (tb_L_with_number_1 (faOf T)) f = some sp → HeldS P w K mg base 5 f sp := fun f sp h => by
  unfold spTb tb_L_with_number_1 at h
  by_cases e : f = T.kept.f
  · rw [if_pos (show f = (faOf T).kept from e)] at h
    cases h
    subst e
    exact ⟨_, _, _, by decide, ok_kept T, T.kept.k, T.kept.b⟩
  rw [if_neg (show ¬ f = (faOf T).kept from e)] at h
  clear e
  by_cases e : f = T.row_behind.f
  · rw [if_pos (show f = (faOf T).row_behind from e)] at h
    cases h
    subst e
    exact ⟨_, _, _, by decide, ok_row_behind T, T.row_behind.k, T.row_behind.b⟩
  rw [if_neg (show ¬ f = (faOf T).row_behind from e)] at h
  clear e
  cases h
theorem sc__law_with_number : FnScope ["_law_what", "_law_web_here", "_law_row_here", "_law_bad"] ["_law_what", "_law_web_here", "_law_row_here", "_law_bad"] (defScope s_L_with_number) := ⟨rfl, rfl, rfl, by decide +kernel, rfl, by decide +kernel, by decide +kernel⟩
def sem_L_with_number (fa : FAs) : Sem :=
  (sSeq (sIf (tsE (eBin opEq (eVar 0) (eC (.int 0)))) (sRet (eCall fs_part_web (aCons (eVar 1) (aCons (eVar 3) aNil)))) sNext)
    (sSeq (sIf (tsE (eBin opEq (eVar 0) (eC (.int 1)))) (sRet (eCall fs_shows (aCons (eVar 1) (aCons (eVar 3) (aCons (eC .non) aNil))))) sNext)
    (sSeq (sIf (tsE (eBin opLtA (eVar 0) (eC (.int 4)))) (sRet (eCall fs_moved (aCons (eVar 1) (aCons (eVar 2) (aCons (eBin opIx (eLst (aCons (eVar 3) (aCons (eC (.int 0)) aNil))) (eBin opSub (eVar 0) (eC (.int 2)))) (aCons (eBin opIx (eLst (aCons (eC .non) (aCons (eVar 3) aNil))) (eBin opSub (eVar 0) (eC (.int 2)))) aNil)))))) sNext)
    (sSeq (sIf (tsE (eBin opLtA (eVar 0) (eC (.int 6)))) (sRet (eCallH (tb_L_with_number_1 fa) (eBin opIx (eLst (aCons (eC (.adr fa.kept)) (aCons (eC (.adr fa.row_behind)) aNil))) (eBin opSub (eVar 0) (eC (.int 4)))) (aCons (eBin opIx (eLst (aCons (eVar 3) (aCons (eC (.int 13)) aNil))) (eBin opSub (eVar 0) (eC (.int 4)))) (aCons (eC .non) aNil)))) sNext)
    (sRet (eCall fs_with_arrow (aCons (eVar 1) (aCons (eVar 3) (aCons (eC .non) (aCons (eC .non) aNil))))))))))
def fs_L_with_number (fa : FAs) : List D → Rf := fsOf 4 (sem_L_with_number fa)
theorem ok_L_with_number {P : Program} {w : World} {K : PySem.W.Frag} {mg : Str → Option Value} {base : Heap} (T : Tops K mg) : FnOk P w K mg base (L2.CX P w) 8 T.L_with_number.f T.L_with_number.fd ["_law_what", "_law_web_here", "_law_row_here", "_law_bad"] (spF K (ecOf T) 4 (fs_L_with_number (faOf T))) := by
  refine T.L_with_number.F.okX sc__law_with_number (fun vs H Q E h => h.1) (fun cdv A outer s H vs Q E hr h => ?_)
  · have hu0 := hr.units0
    have hu64 := hr.units
    have hu65 := units65 hr
    have hu1 := units1 hr
    exact ⟨_, (pss_cons (ps_if (pt_cmpR (op_eqK (K := K) hu64) (pv 0) pe_int (nomark _)) (pss_one (ps_ret (pe_callS (ok_part_web T) (hr.mono (by decide)) (by rfl) T.part_web.g T.part_web.k T.part_web.b (fun σ => passAt (takes_of rfl rfl rfl rfl) σ) (pa_cons (pv 1) (pa_cons (pv 3) pa_nil))))) pss_nil)
      (pss_cons (ps_if (pt_cmpR (op_eqK (K := K) hu64) (pv 0) pe_int (nomark _)) (pss_one (ps_ret (pe_callS (ok_shows T) (hr.mono (by decide)) (by rfl) T.shows.g T.shows.k T.shows.b (fun σ => passAt (takes_of rfl rfl rfl rfl) σ) (pa_cons (pv 1) (pa_cons (pv 3) (pa_cons pe_non pa_nil)))))) pss_nil)
      (pss_cons (ps_if (pt_cmpR (op_ltAll hu0) (pv 0) pe_int (nomark _)) (pss_one (ps_ret (pe_callS (ok_moved T) (hr.mono (by decide)) (by rfl) T.moved.g T.moved.k T.moved.b (fun σ => passAt (takes_of rfl rfl rfl rfl) σ) (pa_cons (pv 1) (pa_cons (pv 2) (pa_cons (pe_ix (ix_seqK (K := K)) (pe_lst (pa_cons (pv 3) (pa_cons pe_int pa_nil))) (pe_op op_sub (pv 0) pe_int) (fun _ _ => rfl)) (pa_cons (pe_ix (ix_seqK (K := K)) (pe_lst (pa_cons pe_non (pa_cons (pv 3) pa_nil))) (pe_op op_sub (pv 0) pe_int) (fun _ _ => rfl)) pa_nil))))))) pss_nil)
      (pss_cons (ps_if (pt_cmpR (op_ltAll hu0) (pv 0) pe_int (nomark _)) (pss_one (ps_ret (pe_callH (hd_L_with_number_1 T) (hr.mono (by decide)) (fun σ => passAt (takes_of rfl rfl rfl rfl) σ) (pe_ix (ix_seqK (K := K)) (pe_lst (pa_cons (pe_glob (v := .ref T.kept.f) (by rfl) T.kept.g rfl) (pa_cons (pe_glob (v := .ref T.row_behind.f) (by rfl) T.row_behind.g rfl) pa_nil))) (pe_op op_sub (pv 0) pe_int) (fun _ _ => rfl)) (pa_cons (pe_ix (ix_seqK (K := K)) (pe_lst (pa_cons (pv 3) (pa_cons pe_int pa_nil))) (pe_op op_sub (pv 0) pe_int) (fun _ _ => rfl)) (pa_cons pe_non pa_nil))))) pss_nil)
      (pss_one (ps_ret (pe_callS (ok_with_arrow T) (hr.mono (by decide)) (by rfl) T.with_arrow.g T.with_arrow.k T.with_arrow.b (fun σ => passAt (takes_of rfl rfl rfl rfl) σ) (pa_cons (pv 1) (pa_cons (pv 3) (pa_cons pe_non (pa_cons pe_non pa_nil))))))))))), fin_gen (ec := ecOf T) (g := sem_L_with_number (faOf T)) (snd_seq (snd_if (snd_ts (snd_bin os_eq (snd_var (ltN rfl)) snd_int)) (snd_ret (m := true) (snd_call (snd_cons (snd_var (ltN rfl)) (snd_cons (snd_var (ltN rfl)) snd_nil)))) snd_next)
      (snd_seq (snd_if (snd_ts (snd_bin os_eq (snd_var (ltN rfl)) snd_int)) (snd_ret (m := true) (snd_call (snd_cons (snd_var (ltN rfl)) (snd_cons (snd_var (ltN rfl)) (snd_cons snd_non snd_nil))))) snd_next)
      (snd_seq (snd_if (snd_ts (snd_bin os_ltA (snd_var (ltN rfl)) snd_int)) (snd_ret (m := true) (snd_call (snd_cons (snd_var (ltN rfl)) (snd_cons (snd_var (ltN rfl)) (snd_cons (snd_bin os_ix (snd_lst (snd_cons (snd_var (ltN rfl)) (snd_cons snd_int snd_nil))) (snd_bin os_sub (snd_var (ltN rfl)) snd_int)) (snd_cons (snd_bin os_ix (snd_lst (snd_cons snd_non (snd_cons (snd_var (ltN rfl)) snd_nil))) (snd_bin os_sub (snd_var (ltN rfl)) snd_int)) snd_nil)))))) snd_next)
      (snd_seq (snd_if (snd_ts (snd_bin os_ltA (snd_var (ltN rfl)) snd_int)) (snd_ret (m := true) (snd_callH (snd_bin os_ix (snd_lst (snd_cons snd_adr (snd_cons snd_adr snd_nil))) (snd_bin os_sub (snd_var (ltN rfl)) snd_int)) (snd_cons (snd_bin os_ix (snd_lst (snd_cons (snd_var (ltN rfl)) (snd_cons snd_int snd_nil))) (snd_bin os_sub (snd_var (ltN rfl)) snd_int)) (snd_cons snd_non snd_nil)))) snd_next)
      (snd_ret (m := true) (snd_call (snd_cons (snd_var (ltN rfl)) (snd_cons (snd_var (ltN rfl)) (snd_cons snd_non (snd_cons snd_non snd_nil)))))))))) (by decide) h⟩
def tb_L_asked_1 (fa : FAs) : Tbl := fun f => if f = fa.kept then some fs_kept else if f = fa.row_behind then some fs_row_behind else none
theorem hd_L_asked_1 {P : Program} {w : World} {K : PySem.W.Frag} {mg : Str → Option Value} {base : Heap} (T : Tops K mg) : ∀ f sp, spTb K (ecOf T) 2 (tb_L_asked_1 (faOf T)) f = some sp → HeldS P w K mg base 5 f sp := fun f sp h => by
  unfold spTb tb_L_asked_1 at h
  by_cases e : f = T.kept.f
  · rw [if_pos (show f = (faOf T).kept from e)] at h
    cases h
    subst e
    exact ⟨_, _, _, by decide, ok_kept T, T.kept.k, T.kept.b⟩
  rw [if_neg (show ¬ f = (faOf T).kept from e)] at h
  clear e
  by_cases e : f = T.row_behind.f
  · rw [if_pos (show f = (faOf T).row_behind from e)] at h
    cases h
    subst e
    exact ⟨_, _, _, by decide, ok_row_behind T, T.row_behind.k, T.row_behind.b⟩
  rw [if_neg (show ¬ f = (faOf T).row_behind from e)] at h
  clear e
  cases h
theorem sc__law_asked : FnScope ["_law_web_here", "_law_row_here", "_law_kind", "_law_cell", "_law_what", "_law_bad", "_law_some"] ["_law_web_here", "_law_row_here", "_law_kind", "_law_cell"] (defScope s_L_asked) := ⟨rfl, rfl, rfl, by decide +kernel, rfl, by decide +kernel, by decide +kernel⟩
def sem_L_asked (fa : FAs) : Sem :=
  (sSeq (sSet 4 (eBin opDiv (eVar 3) (eC (.int 100))))
    (sSeq (sIf (tsE (eBin opEq (eVar 2) (eC (.int 0)))) (sRet (eCall (fs_L_with_web fa) (aCons (eBin opMod (eVar 4) (eC (.int 25))) (aCons (eBin opIx (eLst (aCons (eC .non) (aCons (eCB fList (aCons (eVar 0) aNil)) (aCons (eSl (opSl false) (eVar 0) pNo (pSome (eC (.int 1)))) (aCons (eTup (aCons (eC (.int 0)) (aCons (eTupF aNil) aNil))) (aCons (eC (.int 5)) (aCons (eTup (aCons (eC (.int 8)) (aCons (eTupF aNil) aNil))) aNil))))))) (eBin opMod (eVar 3) (eC (.int 6)))) (aCons (eVar 0) aNil))))) sNext)
    (sSeq (sIf (tsE (eBin opEq (eVar 2) (eC (.int 1)))) (sSeq (sSet 5 (eBin opIx (eLst (aCons (eC .non) (aCons (eCB fList (aCons (eVar 1) aNil)) (aCons (eBin opAdd (eVar 1) (eSl (opSl true) (eVar 1) pNo (pSome (eC (.int 1))))) (aCons (eSl (opSl true) (eVar 1) (pSome (eC (.int 1))) pNo) (aCons (eBin opAdd (eSl (opSl true) (eVar 1) pNo (pSome (eUn opNeg (eC (.int 1))))) (eTupF (aCons (eBin opIx (eVar 0) (eC (.int 0))) aNil))) (aCons (eC (.str "row")) aNil))))))) (eBin opMod (eVar 3) (eC (.int 6)))))
    (sRet (eCall (fs_L_with_row fa) (aCons (eBin opMod (eVar 4) (eC (.int 5))) (aCons (eVar 0) (aCons (eVar 5) aNil)))))) sNext)
    (sSeq (sIf (tsE (eBin opEq (eVar 2) (eC (.int 2)))) (sRet (eCall (fs_L_with_number fa) (aCons (eBin opMod (eVar 4) (eC (.int 7))) (aCons (eVar 0) (aCons (eVar 1) (aCons (eBin opIx (eLst (aCons (eUn opNeg (eC (.int 1))) (aCons (eC (.bl true)) (aCons (eC .non) (aCons (eC (.str "0")) aNil))))) (eBin opMod (eVar 3) (eC (.int 4)))) aNil)))))) sNext)
    (sSeq (sIf (tsE (eBin opEq (eVar 2) (eC (.int 3)))) (sSeq (sSet 6 (eLst (aCons (eC .non) (aCons (eTupF (aCons (eTup (aCons (eC (.int 0)) (aCons (eC (.int 1)) aNil))) aNil)) (aCons (eLst (aCons (eTup (aCons (eC (.int 0)) (aCons (eC (.int 0)) aNil))) aNil)) (aCons (eLst (aCons (eTup (aCons (eC (.int 0)) (aCons (eC (.int 9)) aNil))) aNil)) (aCons (eLst (aCons (eLst (aCons (eC (.int 0)) (aCons (eC (.int 1)) aNil))) aNil)) (aCons (eBin opRep (eLst (aCons (eTup (aCons (eC (.int 0)) (aCons (eC (.int 1)) aNil))) aNil)) (eC (.int 61))) (aCons (eLst (aCons (eTup (aCons (eC (.int 0)) (aCons (eC (.bl true)) aNil))) aNil)) (aCons (eLst (aCons (eTup (aCons (eC (.int 0)) (aCons (eC (.int 1)) (aCons (eC (.int 1)) aNil)))) aNil)) (aCons (eLst (aCons (eC .non) aNil)) aNil)))))))))))
    (sRet (eCallH (tb_L_asked_1 fa) (eBin opIx (eLst (aCons (eC (.adr fa.kept)) (aCons (eC (.adr fa.row_behind)) aNil))) (eBin opMod (eVar 4) (eC (.int 2)))) (aCons (eC (.int 9)) (aCons (eBin opIx (eVar 6) (eBin opMod (eVar 3) (eC (.int 9)))) aNil))))) sNext)
    (sSeq (sIf (tsE (eBin opEq (eBin opMod (eVar 4) (eC (.int 3))) (eC (.int 0)))) (sRet (eCall fs_greatest (aCons (eTup (aCons (eC (.int 6)) (aCons (eBin opIx (eVar 0) (eC (.int 1))) aNil))) aNil))) sNext)
    (sSeq (sIf (tsE (eBin opEq (eBin opMod (eVar 4) (eC (.int 3))) (eC (.int 1)))) (sRet (eCall fs_paper (aCons (eTup (aCons (eC (.int 7)) (aCons (eBin opIx (eVar 0) (eC (.int 1))) aNil))) aNil))) sNext)
    (sRet (eCall fs_joined (aCons (eVar 0) (aCons (eTup (aCons (eC (.int 7)) (aCons (eTupF aNil) aNil))) aNil)))))))))))
def fs_L_asked (fa : FAs) : List D → Rf := fsOf 7 (sem_L_asked fa)
theorem ok_L_asked {P : Program} {w : World} {K : PySem.W.Frag} {mg : Str → Option Value} {base : Heap} (T : Tops K mg) : FnOk P w K mg base (L2.CX P w) 26 T.L_asked.f T.L_asked.fd ["_law_web_here", "_law_row_here", "_law_kind", "_law_cell"] (spF K (ecOf T) 4 (fs_L_asked (faOf T))) := by
  refine T.L_asked.F.okX sc__law_asked (fun vs H Q E h => h.1) (fun cdv A outer s H vs Q E hr h => ?_)
  · have hu0 := hr.units0
    have hu64 := hr.units
    have hu65 := units65 hr
    have hu1 := units1 hr
    exact ⟨_, (pss_cons (ps_set (i := 4) sc__law_asked.nd rfl (by first | exact .inl rfl | exact .inr rfl) (pe_op op_fdivW (pv 3) pe_int))
      (pss_cons (ps_if (pt_cmpR (op_eqK (K := K) hu64) (pv 2) pe_int (nomark _)) (pss_one (ps_ret (pe_callS (ok_L_with_web T) (hr.mono (by decide)) (by rfl) T.L_with_web.g T.L_with_web.k T.L_with_web.b (fun σ => passAt (takes_of rfl rfl rfl rfl) σ) (pa_cons (pe_op op_mod (pv 4) pe_int) (pa_cons (pe_ix (ix_seqK (K := K)) (pe_lst (pa_cons pe_non (pa_cons (pe_callTy call_list_of (by rfl) T.n_list bt_list (pa_cons (pv 0) pa_nil)) (pa_cons (pe_slice sl_AP (pv 0) po_none (po_some pe_int)) (pa_cons (pe_tup (pa_cons pe_int (pa_cons (pe_tupF pa_nil) pa_nil))) (pa_cons pe_int (pa_cons (pe_tup (pa_cons pe_int (pa_cons (pe_tupF pa_nil) pa_nil))) pa_nil))))))) (pe_op op_mod (pv 3) pe_int) (fun _ _ => rfl)) (pa_cons (pv 0) pa_nil)))))) pss_nil)
      (pss_cons (ps_if (pt_cmpR (op_eqK (K := K) hu64) (pv 2) pe_int (nomark _)) (pss_cons (ps_set (i := 5) sc__law_asked.nd rfl (by first | exact .inl rfl | exact .inr rfl) (pe_ix (ix_seqK (K := K)) (pe_lst (pa_cons pe_non (pa_cons (pe_callTy call_list_of (by rfl) T.n_list bt_list (pa_cons (pv 1) pa_nil)) (pa_cons (pe_op op_addAll (pv 1) (pe_slice sl_AF (pv 1) po_none (po_some pe_int))) (pa_cons (pe_slice sl_AF (pv 1) (po_some pe_int) po_none) (pa_cons (pe_op op_addAll (pe_slice sl_AF (pv 1) po_none (po_some (pe_un un_neg pe_int))) (pe_tupF (pa_cons (pe_ix (ix_seqK (K := K)) (pv 0) pe_int (fun _ _ => rfl)) pa_nil))) (pa_cons pe_str pa_nil))))))) (pe_op op_mod (pv 3) pe_int) (fun _ _ => rfl)))
      (pss_one (ps_ret (pe_callS (ok_L_with_row T) (hr.mono (by decide)) (by rfl) T.L_with_row.g T.L_with_row.k T.L_with_row.b (fun σ => passAt (takes_of rfl rfl rfl rfl) σ) (pa_cons (pe_op op_mod (pv 4) pe_int) (pa_cons (pv 0) (pa_cons (pv 5) pa_nil))))))) pss_nil)
      (pss_cons (ps_if (pt_cmpR (op_eqK (K := K) hu64) (pv 2) pe_int (nomark _)) (pss_one (ps_ret (pe_callS (ok_L_with_number T) (hr.mono (by decide)) (by rfl) T.L_with_number.g T.L_with_number.k T.L_with_number.b (fun σ => passAt (takes_of rfl rfl rfl rfl) σ) (pa_cons (pe_op op_mod (pv 4) pe_int) (pa_cons (pv 0) (pa_cons (pv 1) (pa_cons (pe_ix (ix_seqK (K := K)) (pe_lst (pa_cons (pe_un un_neg pe_int) (pa_cons pe_bl (pa_cons pe_non (pa_cons pe_str pa_nil))))) (pe_op op_mod (pv 3) pe_int) (fun _ _ => rfl)) pa_nil))))))) pss_nil)
      (pss_cons (ps_if (pt_cmpR (op_eqK (K := K) hu64) (pv 2) pe_int (nomark _)) (pss_cons (ps_set (i := 6) sc__law_asked.nd rfl (by first | exact .inl rfl | exact .inr rfl) (pe_lst (pa_cons pe_non (pa_cons (pe_tupF (pa_cons (pe_tup (pa_cons pe_int (pa_cons pe_int pa_nil))) pa_nil)) (pa_cons (pe_lst (pa_cons (pe_tup (pa_cons pe_int (pa_cons pe_int pa_nil))) pa_nil)) (pa_cons (pe_lst (pa_cons (pe_tup (pa_cons pe_int (pa_cons pe_int pa_nil))) pa_nil)) (pa_cons (pe_lst (pa_cons (pe_lst (pa_cons pe_int (pa_cons pe_int pa_nil))) pa_nil)) (pa_cons (pe_op op_rep (pe_lst (pa_cons (pe_tup (pa_cons pe_int (pa_cons pe_int pa_nil))) pa_nil)) pe_int) (pa_cons (pe_lst (pa_cons (pe_tup (pa_cons pe_int (pa_cons pe_bl pa_nil))) pa_nil)) (pa_cons (pe_lst (pa_cons (pe_tup (pa_cons pe_int (pa_cons pe_int (pa_cons pe_int pa_nil)))) pa_nil)) (pa_cons (pe_lst (pa_cons pe_non pa_nil)) pa_nil)))))))))))
      (pss_one (ps_ret (pe_callH (hd_L_asked_1 T) (hr.mono (by decide)) (fun σ => passAt (takes_of rfl rfl rfl rfl) σ) (pe_ix (ix_seqK (K := K)) (pe_lst (pa_cons (pe_glob (v := .ref T.kept.f) (by rfl) T.kept.g rfl) (pa_cons (pe_glob (v := .ref T.row_behind.f) (by rfl) T.row_behind.g rfl) pa_nil))) (pe_op op_mod (pv 4) pe_int) (fun _ _ => rfl)) (pa_cons pe_int (pa_cons (pe_ix (ix_seqK (K := K)) (pv 6) (pe_op op_mod (pv 3) pe_int) (fun _ _ => rfl)) pa_nil)))))) pss_nil)
      (pss_cons (ps_if (pt_cmpR (op_eqK (K := K) hu64) (pe_op op_mod (pv 4) pe_int) pe_int (nomark _)) (pss_one (ps_ret (pe_callS (ok_greatest T) (hr.mono (by decide)) (by rfl) T.greatest.g T.greatest.k T.greatest.b (fun σ => passAt (takes_of rfl rfl rfl rfl) σ) (pa_cons (pe_tup (pa_cons pe_int (pa_cons (pe_ix (ix_seqK (K := K)) (pv 0) pe_int (fun _ _ => rfl)) pa_nil))) pa_nil)))) pss_nil)
      (pss_cons (ps_if (pt_cmpR (op_eqK (K := K) hu64) (pe_op op_mod (pv 4) pe_int) pe_int (nomark _)) (pss_one (ps_ret (pe_callS (ok_paper T) (hr.mono (by decide)) (by rfl) T.paper.g T.paper.k T.paper.b (fun σ => passAt (takes_of rfl rfl rfl rfl) σ) (pa_cons (pe_tup (pa_cons pe_int (pa_cons (pe_ix (ix_seqK (K := K)) (pv 0) pe_int (fun _ _ => rfl)) pa_nil))) pa_nil)))) pss_nil)
      (pss_one (ps_ret (pe_callS (ok_joined T) (hr.mono (by decide)) (by rfl) T.joined.g T.joined.k T.joined.b (fun σ => passAt (takes_of rfl rfl rfl rfl) σ) (pa_cons (pv 0) (pa_cons (pe_tup (pa_cons pe_int (pa_cons (pe_tupF pa_nil) pa_nil))) pa_nil)))))))))))), fin_gen (ec := ecOf T) (g := sem_L_asked (faOf T)) (snd_seq (snd_set (m := true) (ltN rfl) (snd_bin os_div (snd_var (ltN rfl)) snd_int))
      (snd_seq (snd_if (snd_ts (snd_bin os_eq (snd_var (ltN rfl)) snd_int)) (snd_ret (m := true) (snd_call (snd_cons (snd_bin os_mod (snd_var (ltN rfl)) snd_int) (snd_cons (snd_bin os_ix (snd_lst (snd_cons snd_non (snd_cons (snd_cb cs_list nx_fList (snd_cons (snd_var (ltN rfl)) snd_nil)) (snd_cons (snd_sl ss_AP (snd_var (ltN rfl)) snd_pno (snd_psome snd_int)) (snd_cons (snd_tup (snd_cons snd_int (snd_cons (snd_tupF snd_nil) snd_nil))) (snd_cons snd_int (snd_cons (snd_tup (snd_cons snd_int (snd_cons (snd_tupF snd_nil) snd_nil))) snd_nil))))))) (snd_bin os_mod (snd_var (ltN rfl)) snd_int)) (snd_cons (snd_var (ltN rfl)) snd_nil))))) snd_next)
      (snd_seq (snd_if (snd_ts (snd_bin os_eq (snd_var (ltN rfl)) snd_int)) (snd_seq (snd_set (m := true) (ltN rfl) (snd_bin os_ix (snd_lst (snd_cons snd_non (snd_cons (snd_cb cs_list nx_fList (snd_cons (snd_var (ltN rfl)) snd_nil)) (snd_cons (snd_bin os_add (snd_var (ltN rfl)) (snd_sl ss_AF (snd_var (ltN rfl)) snd_pno (snd_psome snd_int))) (snd_cons (snd_sl ss_AF (snd_var (ltN rfl)) (snd_psome snd_int) snd_pno) (snd_cons (snd_bin os_add (snd_sl ss_AF (snd_var (ltN rfl)) snd_pno (snd_psome (snd_un us_neg snd_int))) (snd_tupF (snd_cons (snd_bin os_ix (snd_var (ltN rfl)) snd_int) snd_nil))) (snd_cons snd_str snd_nil))))))) (snd_bin os_mod (snd_var (ltN rfl)) snd_int)))
      (snd_ret (m := true) (snd_call (snd_cons (snd_bin os_mod (snd_var (ltN rfl)) snd_int) (snd_cons (snd_var (ltN rfl)) (snd_cons (snd_var (ltN rfl)) snd_nil)))))) snd_next)
      (snd_seq (snd_if (snd_ts (snd_bin os_eq (snd_var (ltN rfl)) snd_int)) (snd_ret (m := true) (snd_call (snd_cons (snd_bin os_mod (snd_var (ltN rfl)) snd_int) (snd_cons (snd_var (ltN rfl)) (snd_cons (snd_var (ltN rfl)) (snd_cons (snd_bin os_ix (snd_lst (snd_cons (snd_un us_neg snd_int) (snd_cons snd_bl (snd_cons snd_non (snd_cons snd_str snd_nil))))) (snd_bin os_mod (snd_var (ltN rfl)) snd_int)) snd_nil)))))) snd_next)
      (snd_seq (snd_if (snd_ts (snd_bin os_eq (snd_var (ltN rfl)) snd_int)) (snd_seq (snd_set (m := true) (ltN rfl) (snd_lst (snd_cons snd_non (snd_cons (snd_tupF (snd_cons (snd_tup (snd_cons snd_int (snd_cons snd_int snd_nil))) snd_nil)) (snd_cons (snd_lst (snd_cons (snd_tup (snd_cons snd_int (snd_cons snd_int snd_nil))) snd_nil)) (snd_cons (snd_lst (snd_cons (snd_tup (snd_cons snd_int (snd_cons snd_int snd_nil))) snd_nil)) (snd_cons (snd_lst (snd_cons (snd_lst (snd_cons snd_int (snd_cons snd_int snd_nil))) snd_nil)) (snd_cons (snd_bin os_rep (snd_lst (snd_cons (snd_tup (snd_cons snd_int (snd_cons snd_int snd_nil))) snd_nil)) snd_int) (snd_cons (snd_lst (snd_cons (snd_tup (snd_cons snd_int (snd_cons snd_bl snd_nil))) snd_nil)) (snd_cons (snd_lst (snd_cons (snd_tup (snd_cons snd_int (snd_cons snd_int (snd_cons snd_int snd_nil)))) snd_nil)) (snd_cons (snd_lst (snd_cons snd_non snd_nil)) snd_nil)))))))))))
      (snd_ret (m := true) (snd_callH (snd_bin os_ix (snd_lst (snd_cons snd_adr (snd_cons snd_adr snd_nil))) (snd_bin os_mod (snd_var (ltN rfl)) snd_int)) (snd_cons snd_int (snd_cons (snd_bin os_ix (snd_var (ltN rfl)) (snd_bin os_mod (snd_var (ltN rfl)) snd_int)) snd_nil))))) snd_next)
      (snd_seq (snd_if (snd_ts (snd_bin os_eq (snd_bin os_mod (snd_var (ltN rfl)) snd_int) snd_int)) (snd_ret (m := true) (snd_call (snd_cons (snd_tup (snd_cons snd_int (snd_cons (snd_bin os_ix (snd_var (ltN rfl)) snd_int) snd_nil))) snd_nil))) snd_next)
      (snd_seq (snd_if (snd_ts (snd_bin os_eq (snd_bin os_mod (snd_var (ltN rfl)) snd_int) snd_int)) (snd_ret (m := true) (snd_call (snd_cons (snd_tup (snd_cons snd_int (snd_cons (snd_bin os_ix (snd_var (ltN rfl)) snd_int) snd_nil))) snd_nil))) snd_next)
      (snd_ret (m := true) (snd_call (snd_cons (snd_var (ltN rfl)) (snd_cons (snd_tup (snd_cons snd_int (snd_cons (snd_tupF snd_nil) snd_nil))) snd_nil))))))))))) (by decide) h⟩
def cl_law_0 : Exc → Option Bool
  | .noWeb => some true
  | .noRow => some true
  | .noNumber => some true
  | .noArrows => some true
  | .tooBig => some true
  | .noText => some true

def su_law_0 (a : Addr) : Exc → Sem
  | .noWeb => (sSeq (sSet 5 (eLst (aCons (eIsX 4 a true) (aCons (eIsX 4 a false) (aCons (eIsX 4 a false) (aCons (eIsX 4 a false) aNil))))))
    (sSeq (sDrop (eMut 5 okT "list" muExtend (aCons (eLst (aCons (eIsX 4 a false) (aCons (eIsX 4 a false) aNil))) aNil)))
    (sRet (eIf (tsE (eIsX 4 a true)) (eIf (tsE (eBin opEq (eMeth (tyD "list") opCountL (eVar 5) (aCons (eC (.bl true)) aNil)) (eC (.int 1)))) (eBin opEq (eMeth (tyD "list") opIndexL (eVar 5) (aCons (eC (.bl true)) aNil)) (eVar 3)) (eC (.bl false))) (eC (.bl false))))))
  | .noRow => (sSeq (sSet 5 (eLst (aCons (eIsX 4 a false) (aCons (eIsX 4 a true) (aCons (eIsX 4 a false) (aCons (eIsX 4 a false) aNil))))))
    (sSeq (sDrop (eMut 5 okT "list" muExtend (aCons (eLst (aCons (eIsX 4 a false) (aCons (eIsX 4 a false) aNil))) aNil)))
    (sRet (eIf (tsE (eIsX 4 a true)) (eIf (tsE (eBin opEq (eMeth (tyD "list") opCountL (eVar 5) (aCons (eC (.bl true)) aNil)) (eC (.int 1)))) (eBin opEq (eMeth (tyD "list") opIndexL (eVar 5) (aCons (eC (.bl true)) aNil)) (eVar 3)) (eC (.bl false))) (eC (.bl false))))))
  | .noNumber => (sSeq (sSet 5 (eLst (aCons (eIsX 4 a false) (aCons (eIsX 4 a false) (aCons (eIsX 4 a true) (aCons (eIsX 4 a false) aNil))))))
    (sSeq (sDrop (eMut 5 okT "list" muExtend (aCons (eLst (aCons (eIsX 4 a false) (aCons (eIsX 4 a false) aNil))) aNil)))
    (sRet (eIf (tsE (eIsX 4 a true)) (eIf (tsE (eBin opEq (eMeth (tyD "list") opCountL (eVar 5) (aCons (eC (.bl true)) aNil)) (eC (.int 1)))) (eBin opEq (eMeth (tyD "list") opIndexL (eVar 5) (aCons (eC (.bl true)) aNil)) (eVar 3)) (eC (.bl false))) (eC (.bl false))))))
  | .noArrows => (sSeq (sSet 5 (eLst (aCons (eIsX 4 a false) (aCons (eIsX 4 a false) (aCons (eIsX 4 a false) (aCons (eIsX 4 a true) aNil))))))
    (sSeq (sDrop (eMut 5 okT "list" muExtend (aCons (eLst (aCons (eIsX 4 a false) (aCons (eIsX 4 a false) aNil))) aNil)))
    (sRet (eIf (tsE (eIsX 4 a true)) (eIf (tsE (eBin opEq (eMeth (tyD "list") opCountL (eVar 5) (aCons (eC (.bl true)) aNil)) (eC (.int 1)))) (eBin opEq (eMeth (tyD "list") opIndexL (eVar 5) (aCons (eC (.bl true)) aNil)) (eVar 3)) (eC (.bl false))) (eC (.bl false))))))
  | .tooBig => (sSeq (sSet 5 (eLst (aCons (eIsX 4 a false) (aCons (eIsX 4 a false) (aCons (eIsX 4 a false) (aCons (eIsX 4 a false) aNil))))))
    (sSeq (sDrop (eMut 5 okT "list" muExtend (aCons (eLst (aCons (eIsX 4 a true) (aCons (eIsX 4 a false) aNil))) aNil)))
    (sRet (eIf (tsE (eIsX 4 a true)) (eIf (tsE (eBin opEq (eMeth (tyD "list") opCountL (eVar 5) (aCons (eC (.bl true)) aNil)) (eC (.int 1)))) (eBin opEq (eMeth (tyD "list") opIndexL (eVar 5) (aCons (eC (.bl true)) aNil)) (eVar 3)) (eC (.bl false))) (eC (.bl false))))))
  | .noText => (sSeq (sSet 5 (eLst (aCons (eIsX 4 a false) (aCons (eIsX 4 a false) (aCons (eIsX 4 a false) (aCons (eIsX 4 a false) aNil))))))
    (sSeq (sDrop (eMut 5 okT "list" muExtend (aCons (eLst (aCons (eIsX 4 a false) (aCons (eIsX 4 a true) aNil))) aNil)))
    (sRet (eIf (tsE (eIsX 4 a true)) (eIf (tsE (eBin opEq (eMeth (tyD "list") opCountL (eVar 5) (aCons (eC (.bl true)) aNil)) (eC (.int 1)))) (eBin opEq (eMeth (tyD "list") opIndexL (eVar 5) (aCons (eC (.bl true)) aNil)) (eVar 3)) (eC (.bl false))) (eC (.bl false))))))

theorem cnt0 : opCountL (.lst [.bl true, .bl false, .bl false, .bl false, .bl false, .bl false]) [.bl true] = some (.int 1) := by rfl
theorem idx0 : opIndexL (.lst [.bl true, .bl false, .bl false, .bl false, .bl false, .bl false]) [.bl true] = some (.int 0) := by rfl
theorem cnt1 : opCountL (.lst [.bl false, .bl true, .bl false, .bl false, .bl false, .bl false]) [.bl true] = some (.int 1) := by rfl
theorem idx1 : opIndexL (.lst [.bl false, .bl true, .bl false, .bl false, .bl false, .bl false]) [.bl true] = some (.int 1) := by rfl
theorem cnt2 : opCountL (.lst [.bl false, .bl false, .bl true, .bl false, .bl false, .bl false]) [.bl true] = some (.int 1) := by rfl
theorem idx2 : opIndexL (.lst [.bl false, .bl false, .bl true, .bl false, .bl false, .bl false]) [.bl true] = some (.int 2) := by rfl
theorem cnt3 : opCountL (.lst [.bl false, .bl false, .bl false, .bl true, .bl false, .bl false]) [.bl true] = some (.int 1) := by rfl
theorem idx3 : opIndexL (.lst [.bl false, .bl false, .bl false, .bl true, .bl false, .bl false]) [.bl true] = some (.int 3) := by rfl
theorem cnt4 : opCountL (.lst [.bl false, .bl false, .bl false, .bl false, .bl true, .bl false]) [.bl true] = some (.int 1) := by rfl
theorem idx4 : opIndexL (.lst [.bl false, .bl false, .bl false, .bl false, .bl true, .bl false]) [.bl true] = some (.int 4) := by rfl
theorem cnt5 : opCountL (.lst [.bl false, .bl false, .bl false, .bl false, .bl false, .bl true]) [.bl true] = some (.int 1) := by rfl
theorem idx5 : opIndexL (.lst [.bl false, .bl false, .bl false, .bl false, .bl false, .bl true]) [.bl true] = some (.int 5) := by rfl
theorem q11 : opEq (.int 1) (.int 1) = some (.bl true) := by rfl
theorem indA (a : Addr) (c : Exc) (x0 x1 x2 x3 x4 : Pv.Slot) : clr 4 (su_law_0 a c [x0, x1, x2, x3, .fz (.adr a)]) = clr 4 (su_law_0 0 c [x0, x1, x2, x3, .fz (.adr 0)]) := by
  cases c <;> simp [su_law_0, eIsX, tyM]
theorem indB (a : Addr) (c : Exc) (x0 x1 x2 x3 x4 x5 : Pv.Slot) (rest : Envi) : clr 4 (su_law_0 a c (x0 :: x1 :: x2 :: x3 :: .fz (.adr a) :: x5 :: rest)) = clr 4 (su_law_0 0 c (x0 :: x1 :: x2 :: x3 :: .fz (.adr 0) :: x5 :: rest)) := by
  have h6 : 6 ≤ big := by decide
  have h4 : Small 4 := small_of (by decide)
  cases c <;> simp [su_law_0, eIsX, h6, h4, cnt0, cnt1, cnt2, cnt3, cnt4, cnt5, idx0, idx1, idx2, idx3, idx4, idx5, q11]
  · cases x3 with
    | fz d => cases h : opEq (.int 0) d <;> simp [h, clr] <;> rfl
    | ow o => cases h : opEq (.int 0) o.toD <;> simp [h, clr] <;> rfl
    | un => rfl
    | self => rfl
  · cases x3 with
    | fz d => cases h : opEq (.int 1) d <;> simp [h, clr] <;> rfl
    | ow o => cases h : opEq (.int 1) o.toD <;> simp [h, clr] <;> rfl
    | un => rfl
    | self => rfl
  · cases x3 with
    | fz d => cases h : opEq (.int 2) d <;> simp [h, clr] <;> rfl
    | ow o => cases h : opEq (.int 2) o.toD <;> simp [h, clr] <;> rfl
    | un => rfl
    | self => rfl
  · cases x3 with
    | fz d => cases h : opEq (.int 3) d <;> simp [h, clr] <;> rfl
    | ow o => cases h : opEq (.int 3) o.toD <;> simp [h, clr] <;> rfl
    | un => rfl
    | self => rfl
  · cases x3 with
    | fz d => cases h : opEq (.int 4) d <;> simp [h, clr] <;> rfl
    | ow o => cases h : opEq (.int 4) o.toD <;> simp [h, clr] <;> rfl
    | un => rfl
    | self => rfl
  · cases x3 with
    | fz d => cases h : opEq (.int 5) d <;> simp [h, clr] <;> rfl
    | ow o => cases h : opEq (.int 5) o.toD <;> simp [h, clr] <;> rfl
    | un => rfl
    | self => rfl
theorem ind_law_0 (a : Addr) (c : Exc) (ρ : Envi) : clr 4 (su_law_0 a c (ρ.set 4 (.fz (.adr a)))) = clr 4 (su_law_0 0 c (ρ.set 4 (.fz (.adr 0)))) := by
  match ρ with
  | [] => cases c <;> rfl
  | [_] => cases c <;> rfl
  | [_, _] => cases c <;> rfl
  | [_, _, _] => cases c <;> rfl
  | [_, _, _, _] => cases c <;> rfl
  | [x0, x1, x2, x3, x4] => exact indA a c x0 x1 x2 x3 x4
  | x0 :: x1 :: x2 :: x3 :: x4 :: x5 :: rest => exact indB a c x0 x1 x2 x3 x4 x5 rest
theorem sc_law : FnScope ["_law_script", "_law_web_here", "_law_row_here", "_law_kind", "e", "_law_own"] ["_law_script"] (defScope s_law) := ⟨rfl, rfl, rfl, by decide +kernel, rfl, by decide +kernel, by decide +kernel⟩
def sem_law (fa : FAs) : Sem :=
  (sSeq (sSet 1 (eCall fs_L_web (aCons (eVar 0) (aCons (eC (.int 12)) (aCons (eC (.int 5)) aNil)))))
    (sSeq (sSet 2 (eCall fs_L_row (aCons (eVar 0) (aCons (eC (.int 4)) (aCons (eBin opIx (eVar 1) (eC (.int 0))) aNil)))))
    (sSeq (sSet 3 (eCall fs_L_mixed (aCons (eVar 0) (aCons (eC (.int 0)) (aCons (eC (.int 5)) aNil)))))
    (sSeq (sTry 4 cl_law_0 (sDrop (eCall (fs_L_asked fa) (aCons (eVar 1) (aCons (eVar 2) (aCons (eVar 3) (aCons (eCall fs_L_mixed (aCons (eVar 0) (aCons (eC (.int 1)) (aCons (eBin opPow (eC (.int 10)) (eC (.int 6))) aNil)))) aNil)))))) (su_law_0 0))
    (sRet (eC (.bl false)))))))
def fs_law (fa : FAs) : List D → Rf := fsOf 6 (sem_law fa)
theorem ok_law {P : Program} {w : World} {K : PySem.W.Frag} {mg : Str → Option Value} {base : Heap} (T : Tops K mg) : FnOk P w K mg base CX0 27 T.law.f T.law.fd ["_law_script"] (fun vs H Q _ => ∃ F ds, Same F H ∧ Reps K F vs ds ∧ vs.length = 1 ∧ (∀ fa, fs_law fa ds = .fz (.bl true)) ∧ ∀ H', Q (.bl true) H') := by
  refine T.law.F.ok sc_law (fun vs H Q E h => ?_) (fun cdv A outer s H vs Q E hr h => ?_)
  · obtain ⟨F, ds, _, _, h, _⟩ := h
    exact h
  · have hu0 := hr.units0
    have hu64 := hr.units
    have hu65 := units65 hr
    have hu1 := units1 hr
    obtain ⟨F, ds, hs, hrp, hl, hq, hk⟩ := h
    exact ⟨_, (pss_cons (ps_set (i := 1) sc_law.nd rfl (by first | exact .inl rfl | exact .inr rfl) (pe_callS (ok_L_web T) (hr.mono (by decide)) (by rfl) T.L_web.g T.L_web.k T.L_web.b (fun σ => passAt takes0 σ) (pa_cons (pv 0) (pa_cons pe_int (pa_cons pe_int pa_nil)))))
      (pss_cons (ps_set (i := 2) sc_law.nd rfl (by first | exact .inl rfl | exact .inr rfl) (pe_callS (ok_L_row T) (hr.mono (by decide)) (by rfl) T.L_row.g T.L_row.k T.L_row.b (fun σ => passAt takes0 σ) (pa_cons (pv 0) (pa_cons pe_int (pa_cons (pe_ix (ix_seqK (K := K)) (pv 1) pe_int (fun _ _ => rfl)) pa_nil)))))
      (pss_cons (ps_set (i := 3) sc_law.nd rfl (by first | exact .inl rfl | exact .inr rfl) (pe_callS (ok_L_mixed T) (hr.mono (by decide)) (by rfl) T.L_mixed.g T.L_mixed.k T.L_mixed.b (fun σ => passAt takes0 σ) (pa_cons (pv 0) (pa_cons pe_int (pa_cons pe_int pa_nil)))))
      (pss_cons (ps_try_as (i := 4) (Wout := W0) rfl rfl sc_law.nd rfl rfl ⟨rfl, by decide, .inl T.x_TurnError.g⟩ takes0 (fun W pn xe tk pas => (pss_one (ps_expr (pe_callS (ok_L_asked T) (hr.mono (by decide)) (by rfl) T.L_asked.g T.L_asked.k T.L_asked.b (fun σ => passAt tk σ) (pa_cons (pv 1) (pa_cons (pv 2) (pa_cons (pv 3) (pa_cons (pe_callS (ok_L_mixed T) (hr.mono (by decide)) (by rfl) T.L_mixed.g T.L_mixed.k T.L_mixed.b (fun σ => passAt tk σ) (pa_cons (pv 0) (pa_cons pe_int (pa_cons (pe_op op_pow pe_int pe_int) pa_nil)))) pa_nil)))))))) (fun a oe cls d pn hz hf => (pss_cons (ps_set (i := 5) sc_law.nd rfl (by first | exact .inl rfl | exact .inr rfl) (pe_lst (pa_cons (pe_callB (call_isX hz hf) (by rfl) T.n_isinstance bt_isinstance (pa_cons (pv 4) (pa_cons (pe_glob (v := .ref T.x_NoWeb.C) (by rfl) T.x_NoWeb.g rfl) pa_nil))) (pa_cons (pe_callB (call_isX hz hf) (by rfl) T.n_isinstance bt_isinstance (pa_cons (pv 4) (pa_cons (pe_glob (v := .ref T.x_NoRow.C) (by rfl) T.x_NoRow.g rfl) pa_nil))) (pa_cons (pe_callB (call_isX hz hf) (by rfl) T.n_isinstance bt_isinstance (pa_cons (pv 4) (pa_cons (pe_glob (v := .ref T.x_NoNumber.C) (by rfl) T.x_NoNumber.g rfl) pa_nil))) (pa_cons (pe_callB (call_isX hz hf) (by rfl) T.n_isinstance bt_isinstance (pa_cons (pv 4) (pa_cons (pe_glob (v := .ref T.x_NoArrows.C) (by rfl) T.x_NoArrows.g rfl) pa_nil))) pa_nil))))))
      (pss_cons (ps_expr (pe_bmK (K := K) PySem.F.plainAttrs_list PySem.F.slot_list_extend PySem.F.type_list_extend mt_extend (pv 5) (pa_cons (pe_lst (pa_cons (pe_callB (call_isX hz hf) (by rfl) T.n_isinstance bt_isinstance (pa_cons (pv 4) (pa_cons (pe_glob (v := .ref T.x_TooBig.C) (by rfl) T.x_TooBig.g rfl) pa_nil))) (pa_cons (pe_callB (call_isX hz hf) (by rfl) T.n_isinstance bt_isinstance (pa_cons (pv 4) (pa_cons (pe_glob (v := .ref T.x_NoText.C) (by rfl) T.x_NoText.g rfl) pa_nil))) pa_nil))) pa_nil)))
      (pss_one (ps_ret (pe_and (pe_callB (call_isX hz hf) (by rfl) T.n_isinstance bt_isinstance (pa_cons (pv 4) (pa_cons (pe_bltn (v := .ty "ValueError") (by rfl) T.n_ValueError bt_ValueError rfl) pa_nil))) (pe_and (pe_cmpR (op_eqK (K := K) hu64) (pe_bmK (K := K) PySem.F.plainAttrs_list PySem.F.slot_list_count PySem.F.type_list_count (mt_countDK (K := K) hu65) (pv 5) (pa_cons pe_bl pa_nil)) pe_int (nomark _)) (pe_one (pe_cmpR (op_eqK (K := K) hu64) (pe_bmK (K := K) PySem.F.plainAttrs_list PySem.F.slot_list_index PySem.F.type_list_index (mt_indexDK (K := K) hu65) (pv 5) (pa_cons pe_bl pa_nil)) (pv 3) (nomark _)))))))))))
      (pss_one (ps_ret pe_bl)))))), fin_law (ec := ecOf T) (g := sem_law (faOf T)) (snd_seq (snd_set (m := true) (ltN rfl) (snd_call (snd_cons (snd_var (ltN rfl)) (snd_cons snd_int (snd_cons snd_int snd_nil)))))
      (snd_seq (snd_set (m := true) (ltN rfl) (snd_call (snd_cons (snd_var (ltN rfl)) (snd_cons snd_int (snd_cons (snd_bin os_ix (snd_var (ltN rfl)) snd_int) snd_nil)))))
      (snd_seq (snd_set (m := true) (ltN rfl) (snd_call (snd_cons (snd_var (ltN rfl)) (snd_cons snd_int (snd_cons snd_int snd_nil)))))
      (snd_seq (snd_try (su := su_law_0) cl_law_0 (ltN rfl) (fun c b e => by cases c <;> first | (cases e; first | exact T.xm_NoWeb_TurnError | exact T.xm_NoRow_TurnError | exact T.xm_NoNumber_TurnError | exact T.xm_NoArrows_TurnError | exact T.xm_TooBig_TurnError | exact T.xm_NoText_TurnError) | cases e) (fun W => (snd_drop (m := true) (snd_call (snd_cons (snd_var (ltN rfl)) (snd_cons (snd_var (ltN rfl)) (snd_cons (snd_var (ltN rfl)) (snd_cons (snd_call (snd_cons (snd_var (ltN rfl)) (snd_cons snd_int (snd_cons (snd_bin os_pow snd_int snd_int) snd_nil)))) snd_nil))))))) (fun a c hc => match c, hc with | .noWeb, _ => (snd_seq (snd_set (m := true) (ltN rfl) (snd_lst (snd_cons (snd_isX (c := .noWeb) (b := true) (ltN rfl) ⟨T.x_NoWeb.C, _, rfl, T.i_NoWeb, relv_ref, T.kx_NoWeb_NoWeb⟩) (snd_cons (snd_isX (c := .noWeb) (b := false) (ltN rfl) ⟨T.x_NoWeb.C, _, rfl, T.i_NoWeb, relv_ref, T.kx_NoWeb_NoRow⟩) (snd_cons (snd_isX (c := .noWeb) (b := false) (ltN rfl) ⟨T.x_NoWeb.C, _, rfl, T.i_NoWeb, relv_ref, T.kx_NoWeb_NoNumber⟩) (snd_cons (snd_isX (c := .noWeb) (b := false) (ltN rfl) ⟨T.x_NoWeb.C, _, rfl, T.i_NoWeb, relv_ref, T.kx_NoWeb_NoArrows⟩) snd_nil))))))       (snd_seq (snd_drop (m := true) (snd_mut (sp_var (ltN rfl)) ms_extend (snd_cons (snd_lst (snd_cons (snd_isX (c := .noWeb) (b := false) (ltN rfl) ⟨T.x_NoWeb.C, _, rfl, T.i_NoWeb, relv_ref, T.kx_NoWeb_TooBig⟩) (snd_cons (snd_isX (c := .noWeb) (b := false) (ltN rfl) ⟨T.x_NoWeb.C, _, rfl, T.i_NoWeb, relv_ref, T.kx_NoWeb_NoText⟩) snd_nil))) snd_nil) (.inr (ltN rfl))))       (snd_ret (m := true) (snd_andV (snd_isX (c := .noWeb) (b := true) (ltN rfl) ⟨T.x_NoWeb.C, _, rfl, T.i_NoWeb, relv_ty, T.kx_NoWeb_ValueError⟩) (snd_andV (snd_bin os_eq (snd_bm mh_countL (snd_var (ltN rfl)) (snd_cons snd_bl snd_nil)) snd_int) (snd_bin os_eq (snd_bm mh_indexL (snd_var (ltN rfl)) (snd_cons snd_bl snd_nil)) (snd_var (ltN rfl)))))))) | .noRow, _ => (snd_seq (snd_set (m := true) (ltN rfl) (snd_lst (snd_cons (snd_isX (c := .noRow) (b := false) (ltN rfl) ⟨T.x_NoRow.C, _, rfl, T.i_NoRow, relv_ref, T.kx_NoRow_NoWeb⟩) (snd_cons (snd_isX (c := .noRow) (b := true) (ltN rfl) ⟨T.x_NoRow.C, _, rfl, T.i_NoRow, relv_ref, T.kx_NoRow_NoRow⟩) (snd_cons (snd_isX (c := .noRow) (b := false) (ltN rfl) ⟨T.x_NoRow.C, _, rfl, T.i_NoRow, relv_ref, T.kx_NoRow_NoNumber⟩) (snd_cons (snd_isX (c := .noRow) (b := false) (ltN rfl) ⟨T.x_NoRow.C, _, rfl, T.i_NoRow, relv_ref, T.kx_NoRow_NoArrows⟩) snd_nil))))))       (snd_seq (snd_drop (m := true) (snd_mut (sp_var (ltN rfl)) ms_extend (snd_cons (snd_lst (snd_cons (snd_isX (c := .noRow) (b := false) (ltN rfl) ⟨T.x_NoRow.C, _, rfl, T.i_NoRow, relv_ref, T.kx_NoRow_TooBig⟩) (snd_cons (snd_isX (c := .noRow) (b := false) (ltN rfl) ⟨T.x_NoRow.C, _, rfl, T.i_NoRow, relv_ref, T.kx_NoRow_NoText⟩) snd_nil))) snd_nil) (.inr (ltN rfl))))       (snd_ret (m := true) (snd_andV (snd_isX (c := .noRow) (b := true) (ltN rfl) ⟨T.x_NoRow.C, _, rfl, T.i_NoRow, relv_ty, T.kx_NoRow_ValueError⟩) (snd_andV (snd_bin os_eq (snd_bm mh_countL (snd_var (ltN rfl)) (snd_cons snd_bl snd_nil)) snd_int) (snd_bin os_eq (snd_bm mh_indexL (snd_var (ltN rfl)) (snd_cons snd_bl snd_nil)) (snd_var (ltN rfl)))))))) | .noNumber, _ => (snd_seq (snd_set (m := true) (ltN rfl) (snd_lst (snd_cons (snd_isX (c := .noNumber) (b := false) (ltN rfl) ⟨T.x_NoNumber.C, _, rfl, T.i_NoNumber, relv_ref, T.kx_NoNumber_NoWeb⟩) (snd_cons (snd_isX (c := .noNumber) (b := false) (ltN rfl) ⟨T.x_NoNumber.C, _, rfl, T.i_NoNumber, relv_ref, T.kx_NoNumber_NoRow⟩) (snd_cons (snd_isX (c := .noNumber) (b := true) (ltN rfl) ⟨T.x_NoNumber.C, _, rfl, T.i_NoNumber, relv_ref, T.kx_NoNumber_NoNumber⟩) (snd_cons (snd_isX (c := .noNumber) (b := false) (ltN rfl) ⟨T.x_NoNumber.C, _, rfl, T.i_NoNumber, relv_ref, T.kx_NoNumber_NoArrows⟩) snd_nil))))))       (snd_seq (snd_drop (m := true) (snd_mut (sp_var (ltN rfl)) ms_extend (snd_cons (snd_lst (snd_cons (snd_isX (c := .noNumber) (b := false) (ltN rfl) ⟨T.x_NoNumber.C, _, rfl, T.i_NoNumber, relv_ref, T.kx_NoNumber_TooBig⟩) (snd_cons (snd_isX (c := .noNumber) (b := false) (ltN rfl) ⟨T.x_NoNumber.C, _, rfl, T.i_NoNumber, relv_ref, T.kx_NoNumber_NoText⟩) snd_nil))) snd_nil) (.inr (ltN rfl))))       (snd_ret (m := true) (snd_andV (snd_isX (c := .noNumber) (b := true) (ltN rfl) ⟨T.x_NoNumber.C, _, rfl, T.i_NoNumber, relv_ty, T.kx_NoNumber_ValueError⟩) (snd_andV (snd_bin os_eq (snd_bm mh_countL (snd_var (ltN rfl)) (snd_cons snd_bl snd_nil)) snd_int) (snd_bin os_eq (snd_bm mh_indexL (snd_var (ltN rfl)) (snd_cons snd_bl snd_nil)) (snd_var (ltN rfl)))))))) | .noArrows, _ => (snd_seq (snd_set (m := true) (ltN rfl) (snd_lst (snd_cons (snd_isX (c := .noArrows) (b := false) (ltN rfl) ⟨T.x_NoArrows.C, _, rfl, T.i_NoArrows, relv_ref, T.kx_NoArrows_NoWeb⟩) (snd_cons (snd_isX (c := .noArrows) (b := false) (ltN rfl) ⟨T.x_NoArrows.C, _, rfl, T.i_NoArrows, relv_ref, T.kx_NoArrows_NoRow⟩) (snd_cons (snd_isX (c := .noArrows) (b := false) (ltN rfl) ⟨T.x_NoArrows.C, _, rfl, T.i_NoArrows, relv_ref, T.kx_NoArrows_NoNumber⟩) (snd_cons (snd_isX (c := .noArrows) (b := true) (ltN rfl) ⟨T.x_NoArrows.C, _, rfl, T.i_NoArrows, relv_ref, T.kx_NoArrows_NoArrows⟩) snd_nil))))))       (snd_seq (snd_drop (m := true) (snd_mut (sp_var (ltN rfl)) ms_extend (snd_cons (snd_lst (snd_cons (snd_isX (c := .noArrows) (b := false) (ltN rfl) ⟨T.x_NoArrows.C, _, rfl, T.i_NoArrows, relv_ref, T.kx_NoArrows_TooBig⟩) (snd_cons (snd_isX (c := .noArrows) (b := false) (ltN rfl) ⟨T.x_NoArrows.C, _, rfl, T.i_NoArrows, relv_ref, T.kx_NoArrows_NoText⟩) snd_nil))) snd_nil) (.inr (ltN rfl))))       (snd_ret (m := true) (snd_andV (snd_isX (c := .noArrows) (b := true) (ltN rfl) ⟨T.x_NoArrows.C, _, rfl, T.i_NoArrows, relv_ty, T.kx_NoArrows_ValueError⟩) (snd_andV (snd_bin os_eq (snd_bm mh_countL (snd_var (ltN rfl)) (snd_cons snd_bl snd_nil)) snd_int) (snd_bin os_eq (snd_bm mh_indexL (snd_var (ltN rfl)) (snd_cons snd_bl snd_nil)) (snd_var (ltN rfl)))))))) | .tooBig, _ => (snd_seq (snd_set (m := true) (ltN rfl) (snd_lst (snd_cons (snd_isX (c := .tooBig) (b := false) (ltN rfl) ⟨T.x_TooBig.C, _, rfl, T.i_TooBig, relv_ref, T.kx_TooBig_NoWeb⟩) (snd_cons (snd_isX (c := .tooBig) (b := false) (ltN rfl) ⟨T.x_TooBig.C, _, rfl, T.i_TooBig, relv_ref, T.kx_TooBig_NoRow⟩) (snd_cons (snd_isX (c := .tooBig) (b := false) (ltN rfl) ⟨T.x_TooBig.C, _, rfl, T.i_TooBig, relv_ref, T.kx_TooBig_NoNumber⟩) (snd_cons (snd_isX (c := .tooBig) (b := false) (ltN rfl) ⟨T.x_TooBig.C, _, rfl, T.i_TooBig, relv_ref, T.kx_TooBig_NoArrows⟩) snd_nil))))))       (snd_seq (snd_drop (m := true) (snd_mut (sp_var (ltN rfl)) ms_extend (snd_cons (snd_lst (snd_cons (snd_isX (c := .tooBig) (b := true) (ltN rfl) ⟨T.x_TooBig.C, _, rfl, T.i_TooBig, relv_ref, T.kx_TooBig_TooBig⟩) (snd_cons (snd_isX (c := .tooBig) (b := false) (ltN rfl) ⟨T.x_TooBig.C, _, rfl, T.i_TooBig, relv_ref, T.kx_TooBig_NoText⟩) snd_nil))) snd_nil) (.inr (ltN rfl))))       (snd_ret (m := true) (snd_andV (snd_isX (c := .tooBig) (b := true) (ltN rfl) ⟨T.x_TooBig.C, _, rfl, T.i_TooBig, relv_ty, T.kx_TooBig_ValueError⟩) (snd_andV (snd_bin os_eq (snd_bm mh_countL (snd_var (ltN rfl)) (snd_cons snd_bl snd_nil)) snd_int) (snd_bin os_eq (snd_bm mh_indexL (snd_var (ltN rfl)) (snd_cons snd_bl snd_nil)) (snd_var (ltN rfl)))))))) | .noText, _ => (snd_seq (snd_set (m := true) (ltN rfl) (snd_lst (snd_cons (snd_isX (c := .noText) (b := false) (ltN rfl) ⟨T.x_NoText.C, _, rfl, T.i_NoText, relv_ref, T.kx_NoText_NoWeb⟩) (snd_cons (snd_isX (c := .noText) (b := false) (ltN rfl) ⟨T.x_NoText.C, _, rfl, T.i_NoText, relv_ref, T.kx_NoText_NoRow⟩) (snd_cons (snd_isX (c := .noText) (b := false) (ltN rfl) ⟨T.x_NoText.C, _, rfl, T.i_NoText, relv_ref, T.kx_NoText_NoNumber⟩) (snd_cons (snd_isX (c := .noText) (b := false) (ltN rfl) ⟨T.x_NoText.C, _, rfl, T.i_NoText, relv_ref, T.kx_NoText_NoArrows⟩) snd_nil))))))       (snd_seq (snd_drop (m := true) (snd_mut (sp_var (ltN rfl)) ms_extend (snd_cons (snd_lst (snd_cons (snd_isX (c := .noText) (b := false) (ltN rfl) ⟨T.x_NoText.C, _, rfl, T.i_NoText, relv_ref, T.kx_NoText_TooBig⟩) (snd_cons (snd_isX (c := .noText) (b := true) (ltN rfl) ⟨T.x_NoText.C, _, rfl, T.i_NoText, relv_ref, T.kx_NoText_NoText⟩) snd_nil))) snd_nil) (.inr (ltN rfl))))       (snd_ret (m := true) (snd_andV (snd_isX (c := .noText) (b := true) (ltN rfl) ⟨T.x_NoText.C, _, rfl, T.i_NoText, relv_ty, T.kx_NoText_ValueError⟩) (snd_andV (snd_bin os_eq (snd_bm mh_countL (snd_var (ltN rfl)) (snd_cons snd_bl snd_nil)) snd_int) (snd_bin os_eq (snd_bm mh_indexL (snd_var (ltN rfl)) (snd_cons snd_bl snd_nil)) (snd_var (ltN rfl))))))))) ind_law_0)
      (snd_ret (m := true) snd_bl))))) (by rw [hl]; decide) hs hrp (hq (faOf T)) hk⟩
def spL (K : PySem.W.Frag) : L2.Sp := (fun vs H Q _ => ∃ F ds, Same F H ∧ Reps K F vs ds ∧ vs.length = 1 ∧ (∀ fa, fs_law fa ds = .fz (.bl true)) ∧ ∀ H', Q (.bl true) H')
theorem all_mk {P : Program} {w : World} {K : PySem.W.Frag} {h : Heap} {mg : Str → Option Value} {fa : Addr} (X : K.In h) (G : h.Ns mainGlobals mg) (hfa : mg "law" = some (.ref fa))
    {f0 : Addr} {oc0 kV0 dc0 pm0 cd0 ct0 : Value} {od0 an0 : Option Addr} {sl0 : Array (Option Value)}
    {f1 : Addr} {oc1 kV1 dc1 pm1 cd1 ct1 : Value} {od1 an1 : Option Addr} {sl1 : Array (Option Value)}
    {f2 : Addr} {oc2 kV2 dc2 pm2 cd2 ct2 : Value} {od2 an2 : Option Addr} {sl2 : Array (Option Value)}
    {f3 : Addr} {oc3 kV3 dc3 pm3 cd3 ct3 : Value} {od3 an3 : Option Addr} {sl3 : Array (Option Value)}
    {f4 : Addr} {oc4 kV4 dc4 pm4 cd4 ct4 : Value} {od4 an4 : Option Addr} {sl4 : Array (Option Value)}
    {f5 : Addr} {oc5 kV5 dc5 pm5 cd5 ct5 : Value} {od5 an5 : Option Addr} {sl5 : Array (Option Value)}
    {f6 : Addr} {oc6 kV6 dc6 pm6 cd6 ct6 : Value} {od6 an6 : Option Addr} {sl6 : Array (Option Value)}
    {f7 : Addr} {oc7 kV7 dc7 pm7 cd7 ct7 : Value} {od7 an7 : Option Addr} {sl7 : Array (Option Value)}
    {f8 : Addr} {oc8 kV8 dc8 pm8 cd8 ct8 : Value} {od8 an8 : Option Addr} {sl8 : Array (Option Value)}
    {f9 : Addr} {oc9 kV9 dc9 pm9 cd9 ct9 : Value} {od9 an9 : Option Addr} {sl9 : Array (Option Value)}
    {f10 : Addr} {oc10 kV10 dc10 pm10 cd10 ct10 : Value} {od10 an10 : Option Addr} {sl10 : Array (Option Value)}
    {f11 : Addr} {oc11 kV11 dc11 pm11 cd11 ct11 : Value} {od11 an11 : Option Addr} {sl11 : Array (Option Value)}
    {f12 : Addr} {oc12 kV12 dc12 pm12 cd12 ct12 : Value} {od12 an12 : Option Addr} {sl12 : Array (Option Value)}
    {f13 : Addr} {oc13 kV13 dc13 pm13 cd13 ct13 : Value} {od13 an13 : Option Addr} {sl13 : Array (Option Value)}
    {f14 : Addr} {oc14 kV14 dc14 pm14 cd14 ct14 : Value} {od14 an14 : Option Addr} {sl14 : Array (Option Value)}
    {f15 : Addr} {oc15 kV15 dc15 pm15 cd15 ct15 : Value} {od15 an15 : Option Addr} {sl15 : Array (Option Value)}
    {f16 : Addr} {oc16 kV16 dc16 pm16 cd16 ct16 : Value} {od16 an16 : Option Addr} {sl16 : Array (Option Value)}
    {f17 : Addr} {oc17 kV17 dc17 pm17 cd17 ct17 : Value} {od17 an17 : Option Addr} {sl17 : Array (Option Value)}
    {f18 : Addr} {oc18 kV18 dc18 pm18 cd18 ct18 : Value} {od18 an18 : Option Addr} {sl18 : Array (Option Value)}
    {f19 : Addr} {oc19 kV19 dc19 pm19 cd19 ct19 : Value} {od19 an19 : Option Addr} {sl19 : Array (Option Value)}
    {f20 : Addr} {oc20 kV20 dc20 pm20 cd20 ct20 : Value} {od20 an20 : Option Addr} {sl20 : Array (Option Value)}
    {f21 : Addr} {oc21 kV21 dc21 pm21 cd21 ct21 : Value} {od21 an21 : Option Addr} {sl21 : Array (Option Value)}
    {f22 : Addr} {oc22 kV22 dc22 pm22 cd22 ct22 : Value} {od22 an22 : Option Addr} {sl22 : Array (Option Value)}
    {f23 : Addr} {oc23 kV23 dc23 pm23 cd23 ct23 : Value} {od23 an23 : Option Addr} {sl23 : Array (Option Value)}
    {f24 : Addr} {oc24 kV24 dc24 pm24 cd24 ct24 : Value} {od24 an24 : Option Addr} {sl24 : Array (Option Value)}
    {f25 : Addr} {oc25 kV25 dc25 pm25 cd25 ct25 : Value} {od25 an25 : Option Addr} {sl25 : Array (Option Value)}
    {f26 : Addr} {oc26 kV26 dc26 pm26 cd26 ct26 : Value} {od26 an26 : Option Addr} {sl26 : Array (Option Value)}
    {f27 : Addr} {oc27 kV27 dc27 pm27 cd27 ct27 : Value} {od27 an27 : Option Addr} {sl27 : Array (Option Value)}
    {f28 : Addr} {oc28 kV28 dc28 pm28 cd28 ct28 : Value} {od28 an28 : Option Addr} {sl28 : Array (Option Value)}
    {f29 : Addr} {oc29 kV29 dc29 pm29 cd29 ct29 : Value} {od29 an29 : Option Addr} {sl29 : Array (Option Value)}
    {f30 : Addr} {oc30 kV30 dc30 pm30 cd30 ct30 : Value} {od30 an30 : Option Addr} {sl30 : Array (Option Value)}
    {f31 : Addr} {oc31 kV31 dc31 pm31 cd31 ct31 : Value} {od31 an31 : Option Addr} {sl31 : Array (Option Value)}
    {f32 : Addr} {oc32 kV32 dc32 pm32 cd32 ct32 : Value} {od32 an32 : Option Addr} {sl32 : Array (Option Value)}
    {f33 : Addr} {oc33 kV33 dc33 pm33 cd33 ct33 : Value} {od33 an33 : Option Addr} {sl33 : Array (Option Value)}
    {f34 : Addr} {oc34 kV34 dc34 pm34 cd34 ct34 : Value} {od34 an34 : Option Addr} {sl34 : Array (Option Value)}
    {f35 : Addr} {oc35 kV35 dc35 pm35 cd35 ct35 : Value} {od35 an35 : Option Addr} {sl35 : Array (Option Value)}
    {f36 : Addr} {oc36 kV36 dc36 pm36 cd36 ct36 : Value} {od36 an36 : Option Addr} {sl36 : Array (Option Value)}
    {f37 : Addr} {oc37 kV37 dc37 pm37 cd37 ct37 : Value} {od37 an37 : Option Addr} {sl37 : Array (Option Value)}
    {f38 : Addr} {oc38 kV38 dc38 pm38 cd38 ct38 : Value} {od38 an38 : Option Addr} {sl38 : Array (Option Value)}
    {f39 : Addr} {oc39 kV39 dc39 pm39 cd39 ct39 : Value} {od39 an39 : Option Addr} {sl39 : Array (Option Value)}
    {f40 : Addr} {oc40 kV40 dc40 pm40 cd40 ct40 : Value} {od40 an40 : Option Addr} {sl40 : Array (Option Value)}
    {f41 : Addr} {oc41 kV41 dc41 pm41 cd41 ct41 : Value} {od41 an41 : Option Addr} {sl41 : Array (Option Value)}
    {f42 : Addr} {oc42 kV42 dc42 pm42 cd42 ct42 : Value} {od42 an42 : Option Addr} {sl42 : Array (Option Value)}
    {f43 : Addr} {oc43 kV43 dc43 pm43 cd43 ct43 : Value} {od43 an43 : Option Addr} {sl43 : Array (Option Value)}
    {f44 : Addr} {oc44 kV44 dc44 pm44 cd44 ct44 : Value} {od44 an44 : Option Addr} {sl44 : Array (Option Value)}
    {f45 : Addr} {oc45 kV45 dc45 pm45 cd45 ct45 : Value} {od45 an45 : Option Addr} {sl45 : Array (Option Value)}
    {f46 : Addr} {oc46 kV46 dc46 pm46 cd46 ct46 : Value} {od46 an46 : Option Addr} {sl46 : Array (Option Value)}
    {f47 : Addr} {oc47 kV47 dc47 pm47 cd47 ct47 : Value} {od47 an47 : Option Addr} {sl47 : Array (Option Value)}
    {f48 : Addr} {oc48 kV48 dc48 pm48 cd48 ct48 : Value} {od48 an48 : Option Addr} {sl48 : Array (Option Value)}
    {CTurnError : Addr}
    {CNoWeb : Addr}
    {CNoRow : Addr}
    {CNoNumber : Addr}
    {CNoArrows : Addr}
    {CTooBig : Addr}
    {CNoText : Addr}
    {tTHINGS_webs : Tok}
    {tWEIGHT : Tok}
    {aPOWERS : Addr} {tPOWERS0 tPOWERS1 tPOWERS2 tPOWERS3 tPOWERS4 tPOWERS5 tPOWERS6 tPOWERS7 : Tok} {nPOWERS : Nat} {sPOWERS : Array (Option Value)}
    {aNONE : Addr} {tNONE0 tNONE1 : Tok} {nNONE : Nat} {sNONE : Array (Option Value)}
    {aWHOLE : Addr} {tWHOLE0 tWHOLE1 : Tok} {nWHOLE : Nat} {sWHOLE : Array (Option Value)}
    {tTHINGS_kept : Tok}
    {CTable : Addr}
    {fTableinit : Addr} {ocTableinit kVTableinit dcTableinit pmTableinit cdTableinit ctTableinit : Value} {odTableinit anTableinit : Option Addr} {slTableinit : Array (Option Value)}
    {fTablestands : Addr} {ocTablestands kVTablestands dcTablestands pmTablestands cdTablestands ctTablestands : Value} {odTablestands anTablestands : Option Addr} {slTablestands : Array (Option Value)}
    {fTablecost : Addr} {ocTablecost kVTablecost dcTablecost pmTablecost cdTablecost ctTablecost : Value} {odTablecost anTablecost : Option Addr} {slTablecost : Array (Option Value)}
    {fTablemay_come : Addr} {ocTablemay_come kVTablemay_come dcTablemay_come pmTablemay_come cdTablemay_come ctTablemay_come : Value} {odTablemay_come anTablemay_come : Option Addr} {slTablemay_come : Array (Option Value)}
    {fTablebest : Addr} {ocTablebest kVTablebest dcTablebest pmTablebest cdTablebest ctTablebest : Value} {odTablebest anTablebest : Option Addr} {slTablebest : Array (Option Value)}
    {fTablefound : Addr} {ocTablefound kVTablefound dcTablefound pmTablefound cdTablefound ctTablefound : Value} {odTablefound anTablefound : Option Addr} {slTablefound : Array (Option Value)}
    {fTablefirst_row : Addr} {ocTablefirst_row kVTablefirst_row dcTablefirst_row pmTablefirst_row cdTablefirst_row ctTablefirst_row : Value} {odTablefirst_row anTablefirst_row : Option Addr} {slTablefirst_row : Array (Option Value)}
    (a0 : PySem.W.nsIn K mainGlobals "is_whole" = some (some (.ref f0))) (l0 : K.lookup f0 = some ⟨oc0, od0, .func (PySem.W.fnOf "is_whole" "is_whole" (defArgs s_is_whole) (defBody s_is_whole) (defScope s_is_whole) .none kV0 dc0 pm0 an0 cd0 ct0), sl0⟩) (c0 : PySem.W.codeIn K cd0 "is_whole" = true) (k0 : PySem.W.keepIn K (.ref f0) = true)
    (a1 : PySem.W.nsIn K mainGlobals "between" = some (some (.ref f1))) (l1 : K.lookup f1 = some ⟨oc1, od1, .func (PySem.W.fnOf "between" "between" (defArgs s_between) (defBody s_between) (defScope s_between) .none kV1 dc1 pm1 an1 cd1 ct1), sl1⟩) (c1 : PySem.W.codeIn K cd1 "between" = true) (k1 : PySem.W.keepIn K (.ref f1) = true)
    (a2 : PySem.W.nsIn K mainGlobals "is_arrow" = some (some (.ref f2))) (l2 : K.lookup f2 = some ⟨oc2, od2, .func (PySem.W.fnOf "is_arrow" "is_arrow" (defArgs s_is_arrow) (defBody s_is_arrow) (defScope s_is_arrow) .none kV2 dc2 pm2 an2 cd2 ct2), sl2⟩) (c2 : PySem.W.codeIn K cd2 "is_arrow" = true) (k2 : PySem.W.keepIn K (.ref f2) = true)
    (a3 : PySem.W.nsIn K mainGlobals "is_web" = some (some (.ref f3))) (l3 : K.lookup f3 = some ⟨oc3, od3, .func (PySem.W.fnOf "is_web" "is_web" (defArgs s_is_web) (defBody s_is_web) (defScope s_is_web) .none kV3 dc3 pm3 an3 cd3 ct3), sl3⟩) (c3 : PySem.W.codeIn K cd3 "is_web" = true) (k3 : PySem.W.keepIn K (.ref f3) = true)
    (a4 : PySem.W.nsIn K mainGlobals "checked" = some (some (.ref f4))) (l4 : K.lookup f4 = some ⟨oc4, od4, .func (PySem.W.fnOf "checked" "checked" (defArgs s_checked) (defBody s_checked) (defScope s_checked) .none kV4 dc4 pm4 an4 cd4 ct4), sl4⟩) (c4 : PySem.W.codeIn K cd4 "checked" = true) (k4 : PySem.W.keepIn K (.ref f4) = true)
    (a5 : PySem.W.nsIn K mainGlobals "need_row" = some (some (.ref f5))) (l5 : K.lookup f5 = some ⟨oc5, od5, .func (PySem.W.fnOf "need_row" "need_row" (defArgs s_need_row) (defBody s_need_row) (defScope s_need_row) .none kV5 dc5 pm5 an5 cd5 ct5), sl5⟩) (c5 : PySem.W.codeIn K cd5 "need_row" = true) (k5 : PySem.W.keepIn K (.ref f5) = true)
    (a6 : PySem.W.nsIn K mainGlobals "turned" = some (some (.ref f6))) (l6 : K.lookup f6 = some ⟨oc6, od6, .func (PySem.W.fnOf "turned" "turned" (defArgs s_turned) (defBody s_turned) (defScope s_turned) .none kV6 dc6 pm6 an6 cd6 ct6), sl6⟩) (c6 : PySem.W.codeIn K cd6 "turned" = true) (k6 : PySem.W.keepIn K (.ref f6) = true)
    (a7 : PySem.W.nsIn K mainGlobals "weight" = some (some (.ref f7))) (l7 : K.lookup f7 = some ⟨oc7, od7, .func (PySem.W.fnOf "weight" "weight" (defArgs s_weight) (defBody s_weight) (defScope s_weight) .none kV7 dc7 pm7 an7 cd7 ct7), sl7⟩) (c7 : PySem.W.codeIn K cd7 "weight" = true) (k7 : PySem.W.keepIn K (.ref f7) = true)
    (a8 : PySem.W.nsIn K mainGlobals "weights_of" = some (some (.ref f8))) (l8 : K.lookup f8 = some ⟨oc8, od8, .func (PySem.W.fnOf "weights_of" "weights_of" (defArgs s_weights_of) (defBody s_weights_of) (defScope s_weights_of) .none kV8 dc8 pm8 an8 cd8 ct8), sl8⟩) (c8 : PySem.W.codeIn K cd8 "weights_of" = true) (k8 : PySem.W.keepIn K (.ref f8) = true)
    (a9 : PySem.W.nsIn K mainGlobals "turned_about" = some (some (.ref f9))) (l9 : K.lookup f9 = some ⟨oc9, od9, .func (PySem.W.fnOf "turned_about" "turned_about" (defArgs s_turned_about) (defBody s_turned_about) (defScope s_turned_about) .none kV9 dc9 pm9 an9 cd9 ct9), sl9⟩) (c9 : PySem.W.codeIn K cd9 "turned_about" = true) (k9 : PySem.W.keepIn K (.ref f9) = true)
    (a10 : PySem.W.nsIn K mainGlobals "joined" = some (some (.ref f10))) (l10 : K.lookup f10 = some ⟨oc10, od10, .func (PySem.W.fnOf "joined" "joined" (defArgs s_joined) (defBody s_joined) (defScope s_joined) .none kV10 dc10 pm10 an10 cd10 ct10), sl10⟩) (c10 : PySem.W.codeIn K cd10 "joined" = true) (k10 : PySem.W.keepIn K (.ref f10) = true)
    (a11 : PySem.W.nsIn K mainGlobals "with_arrow" = some (some (.ref f11))) (l11 : K.lookup f11 = some ⟨oc11, od11, .func (PySem.W.fnOf "with_arrow" "with_arrow" (defArgs s_with_arrow) (defBody s_with_arrow) (defScope s_with_arrow) .none kV11 dc11 pm11 an11 cd11 ct11), sl11⟩) (c11 : PySem.W.codeIn K cd11 "with_arrow" = true) (k11 : PySem.W.keepIn K (.ref f11) = true)
    (a12 : PySem.W.nsIn K mainGlobals "moved" = some (some (.ref f12))) (l12 : K.lookup f12 = some ⟨oc12, od12, .func (PySem.W.fnOf "moved" "moved" (defArgs s_moved) (defBody s_moved) (defScope s_moved) .none kV12 dc12 pm12 an12 cd12 ct12), sl12⟩) (c12 : PySem.W.codeIn K cd12 "moved" = true) (k12 : PySem.W.keepIn K (.ref f12) = true)
    (a13 : PySem.W.nsIn K mainGlobals "is_settled" = some (some (.ref f13))) (l13 : K.lookup f13 = some ⟨oc13, od13, .func (PySem.W.fnOf "is_settled" "is_settled" (defArgs s_is_settled) (defBody s_is_settled) (defScope s_is_settled) .none kV13 dc13 pm13 an13 cd13 ct13), sl13⟩) (c13 : PySem.W.codeIn K cd13 "is_settled" = true) (k13 : PySem.W.keepIn K (.ref f13) = true)
    (a14 : PySem.W.nsIn K mainGlobals "better" = some (some (.ref f14))) (l14 : K.lookup f14 = some ⟨oc14, od14, .func (PySem.W.fnOf "better" "better" (defArgs s_better) (defBody s_better) (defScope s_better) .none kV14 dc14 pm14 an14 cd14 ct14), sl14⟩) (c14 : PySem.W.codeIn K cd14 "better" = true) (k14 : PySem.W.keepIn K (.ref f14) = true)
    (a15 : PySem.W.nsIn K mainGlobals "least_of" = some (some (.ref f15))) (l15 : K.lookup f15 = some ⟨oc15, od15, .func (PySem.W.fnOf "least_of" "least_of" (defArgs s_least_of) (defBody s_least_of) (defScope s_least_of) .none kV15 dc15 pm15 an15 cd15 ct15), sl15⟩) (c15 : PySem.W.codeIn K cd15 "least_of" = true) (k15 : PySem.W.keepIn K (.ref f15) = true)
    (a16 : PySem.W.nsIn K mainGlobals "least" = some (some (.ref f16))) (l16 : K.lookup f16 = some ⟨oc16, od16, .func (PySem.W.fnOf "least" "least" (defArgs s_least) (defBody s_least) (defScope s_least) .none kV16 dc16 pm16 an16 cd16 ct16), sl16⟩) (c16 : PySem.W.codeIn K cd16 "least" = true) (k16 : PySem.W.keepIn K (.ref f16) = true)
    (a17 : PySem.W.nsIn K mainGlobals "count_best" = some (some (.ref f17))) (l17 : K.lookup f17 = some ⟨oc17, od17, .func (PySem.W.fnOf "count_best" "count_best" (defArgs s_count_best) (defBody s_count_best) (defScope s_count_best) .none kV17 dc17 pm17 an17 cd17 ct17), sl17⟩) (c17 : PySem.W.codeIn K cd17 "count_best" = true) (k17 : PySem.W.keepIn K (.ref f17) = true)
    (a18 : PySem.W.nsIn K mainGlobals "sure" = some (some (.ref f18))) (l18 : K.lookup f18 = some ⟨oc18, od18, .func (PySem.W.fnOf "sure" "sure" (defArgs s_sure) (defBody s_sure) (defScope s_sure) .none kV18 dc18 pm18 an18 cd18 ct18), sl18⟩) (c18 : PySem.W.codeIn K cd18 "sure" = true) (k18 : PySem.W.keepIn K (.ref f18) = true)
    (a19 : PySem.W.nsIn K mainGlobals "next_of" = some (some (.ref f19))) (l19 : K.lookup f19 = some ⟨oc19, od19, .func (PySem.W.fnOf "next_of" "next_of" (defArgs s_next_of) (defBody s_next_of) (defScope s_next_of) .none kV19 dc19 pm19 an19 cd19 ct19), sl19⟩) (c19 : PySem.W.codeIn K cd19 "next_of" = true) (k19 : PySem.W.keepIn K (.ref f19) = true)
    (a20 : PySem.W.nsIn K mainGlobals "rings_of" = some (some (.ref f20))) (l20 : K.lookup f20 = some ⟨oc20, od20, .func (PySem.W.fnOf "rings_of" "rings_of" (defArgs s_rings_of) (defBody s_rings_of) (defScope s_rings_of) .none kV20 dc20 pm20 an20 cd20 ct20), sl20⟩) (c20 : PySem.W.codeIn K cd20 "rings_of" = true) (k20 : PySem.W.keepIn K (.ref f20) = true)
    (a21 : PySem.W.nsIn K mainGlobals "rings" = some (some (.ref f21))) (l21 : K.lookup f21 = some ⟨oc21, od21, .func (PySem.W.fnOf "rings" "rings" (defArgs s_rings) (defBody s_rings) (defScope s_rings) .none kV21 dc21 pm21 an21 cd21 ct21), sl21⟩) (c21 : PySem.W.codeIn K cd21 "rings" = true) (k21 : PySem.W.keepIn K (.ref f21) = true)
    (a22 : PySem.W.nsIn K mainGlobals "ring" = some (some (.ref f22))) (l22 : K.lookup f22 = some ⟨oc22, od22, .func (PySem.W.fnOf "ring" "ring" (defArgs s_ring) (defBody s_ring) (defScope s_ring) .none kV22 dc22 pm22 an22 cd22 ct22), sl22⟩) (c22 : PySem.W.codeIn K cd22 "ring" = true) (k22 : PySem.W.keepIn K (.ref f22) = true)
    (a23 : PySem.W.nsIn K mainGlobals "is_free" = some (some (.ref f23))) (l23 : K.lookup f23 = some ⟨oc23, od23, .func (PySem.W.fnOf "is_free" "is_free" (defArgs s_is_free) (defBody s_is_free) (defScope s_is_free) .none kV23 dc23 pm23 an23 cd23 ct23), sl23⟩) (c23 : PySem.W.codeIn K cd23 "is_free" = true) (k23 : PySem.W.keepIn K (.ref f23) = true)
    (a24 : PySem.W.nsIn K mainGlobals "fit" = some (some (.ref f24))) (l24 : K.lookup f24 = some ⟨oc24, od24, .func (PySem.W.fnOf "fit" "fit" (defArgs s_fit) (defBody s_fit) (defScope s_fit) .none kV24 dc24 pm24 an24 cd24 ct24), sl24⟩) (c24 : PySem.W.codeIn K cd24 "fit" = true) (k24 : PySem.W.keepIn K (.ref f24) = true)
    (a25 : PySem.W.nsIn K mainGlobals "whole_shares" = some (some (.ref f25))) (l25 : K.lookup f25 = some ⟨oc25, od25, .func (PySem.W.fnOf "whole_shares" "whole_shares" (defArgs s_whole_shares) (defBody s_whole_shares) (defScope s_whole_shares) .none kV25 dc25 pm25 an25 cd25 ct25), sl25⟩) (c25 : PySem.W.codeIn K cd25 "whole_shares" = true) (k25 : PySem.W.keepIn K (.ref f25) = true)
    (a26 : PySem.W.nsIn K mainGlobals "paper" = some (some (.ref f26))) (l26 : K.lookup f26 = some ⟨oc26, od26, .func (PySem.W.fnOf "paper" "paper" (defArgs s_paper) (defBody s_paper) (defScope s_paper) .none kV26 dc26 pm26 an26 cd26 ct26), sl26⟩) (c26 : PySem.W.codeIn K cd26 "paper" = true) (k26 : PySem.W.keepIn K (.ref f26) = true)
    (a27 : PySem.W.nsIn K mainGlobals "shows" = some (some (.ref f27))) (l27 : K.lookup f27 = some ⟨oc27, od27, .func (PySem.W.fnOf "shows" "shows" (defArgs s_shows) (defBody s_shows) (defScope s_shows) .none kV27 dc27 pm27 an27 cd27 ct27), sl27⟩) (c27 : PySem.W.codeIn K cd27 "shows" = true) (k27 : PySem.W.keepIn K (.ref f27) = true)
    (a28 : PySem.W.nsIn K mainGlobals "greatest" = some (some (.ref f28))) (l28 : K.lookup f28 = some ⟨oc28, od28, .func (PySem.W.fnOf "greatest" "greatest" (defArgs s_greatest) (defBody s_greatest) (defScope s_greatest) .none kV28 dc28 pm28 an28 cd28 ct28), sl28⟩) (c28 : PySem.W.codeIn K cd28 "greatest" = true) (k28 : PySem.W.keepIn K (.ref f28) = true)
    (a29 : PySem.W.nsIn K mainGlobals "are_parts" = some (some (.ref f29))) (l29 : K.lookup f29 = some ⟨oc29, od29, .func (PySem.W.fnOf "are_parts" "are_parts" (defArgs s_are_parts) (defBody s_are_parts) (defScope s_are_parts) .none kV29 dc29 pm29 an29 cd29 ct29), sl29⟩) (c29 : PySem.W.codeIn K cd29 "are_parts" = true) (k29 : PySem.W.keepIn K (.ref f29) = true)
    (a30 : PySem.W.nsIn K mainGlobals "is_pair" = some (some (.ref f30))) (l30 : K.lookup f30 = some ⟨oc30, od30, .func (PySem.W.fnOf "is_pair" "is_pair" (defArgs s_is_pair) (defBody s_is_pair) (defScope s_is_pair) .none kV30 dc30 pm30 an30 cd30 ct30), sl30⟩) (c30 : PySem.W.codeIn K cd30 "is_pair" = true) (k30 : PySem.W.keepIn K (.ref f30) = true)
    (a31 : PySem.W.nsIn K mainGlobals "all_come" = some (some (.ref f31))) (l31 : K.lookup f31 = some ⟨oc31, od31, .func (PySem.W.fnOf "all_come" "all_come" (defArgs s_all_come) (defBody s_all_come) (defScope s_all_come) .none kV31 dc31 pm31 an31 cd31 ct31), sl31⟩) (c31 : PySem.W.codeIn K cd31 "all_come" = true) (k31 : PySem.W.keepIn K (.ref f31) = true)
    (a32 : PySem.W.nsIn K mainGlobals "kept" = some (some (.ref f32))) (l32 : K.lookup f32 = some ⟨oc32, od32, .func (PySem.W.fnOf "kept" "kept" (defArgs s_kept) (defBody s_kept) (defScope s_kept) .none kV32 dc32 pm32 an32 cd32 ct32), sl32⟩) (c32 : PySem.W.codeIn K cd32 "kept" = true) (k32 : PySem.W.keepIn K (.ref f32) = true)
    (a33 : PySem.W.nsIn K mainGlobals "row_behind" = some (some (.ref f33))) (l33 : K.lookup f33 = some ⟨oc33, od33, .func (PySem.W.fnOf "row_behind" "row_behind" (defArgs s_row_behind) (defBody s_row_behind) (defScope s_row_behind) .none kV33 dc33 pm33 an33 cd33 ct33), sl33⟩) (c33 : PySem.W.codeIn K cd33 "row_behind" = true) (k33 : PySem.W.keepIn K (.ref f33) = true)
    (a34 : PySem.W.nsIn K mainGlobals "led_to" = some (some (.ref f34))) (l34 : K.lookup f34 = some ⟨oc34, od34, .func (PySem.W.fnOf "led_to" "led_to" (defArgs s_led_to) (defBody s_led_to) (defScope s_led_to) .none kV34 dc34 pm34 an34 cd34 ct34), sl34⟩) (c34 : PySem.W.codeIn K cd34 "led_to" = true) (k34 : PySem.W.keepIn K (.ref f34) = true)
    (a35 : PySem.W.nsIn K mainGlobals "parts_of" = some (some (.ref f35))) (l35 : K.lookup f35 = some ⟨oc35, od35, .func (PySem.W.fnOf "parts_of" "parts_of" (defArgs s_parts_of) (defBody s_parts_of) (defScope s_parts_of) .none kV35 dc35 pm35 an35 cd35 ct35), sl35⟩) (c35 : PySem.W.codeIn K cd35 "parts_of" = true) (k35 : PySem.W.keepIn K (.ref f35) = true)
    (a36 : PySem.W.nsIn K mainGlobals "parts" = some (some (.ref f36))) (l36 : K.lookup f36 = some ⟨oc36, od36, .func (PySem.W.fnOf "parts" "parts" (defArgs s_parts) (defBody s_parts) (defScope s_parts) .none kV36 dc36 pm36 an36 cd36 ct36), sl36⟩) (c36 : PySem.W.codeIn K cd36 "parts" = true) (k36 : PySem.W.keepIn K (.ref f36) = true)
    (a37 : PySem.W.nsIn K mainGlobals "part_web" = some (some (.ref f37))) (l37 : K.lookup f37 = some ⟨oc37, od37, .func (PySem.W.fnOf "part_web" "part_web" (defArgs s_part_web) (defBody s_part_web) (defScope s_part_web) .none kV37 dc37 pm37 an37 cd37 ct37), sl37⟩) (c37 : PySem.W.codeIn K cd37 "part_web" = true) (k37 : PySem.W.keepIn K (.ref f37) = true)
    (a38 : PySem.W.nsIn K mainGlobals "text_of" = some (some (.ref f38))) (l38 : K.lookup f38 = some ⟨oc38, od38, .func (PySem.W.fnOf "text_of" "text_of" (defArgs s_text_of) (defBody s_text_of) (defScope s_text_of) .none kV38 dc38 pm38 an38 cd38 ct38), sl38⟩) (c38 : PySem.W.codeIn K cd38 "text_of" = true) (k38 : PySem.W.keepIn K (.ref f38) = true)
    (a39 : PySem.W.nsIn K mainGlobals "shown" = some (some (.ref f39))) (l39 : K.lookup f39 = some ⟨oc39, od39, .func (PySem.W.fnOf "shown" "shown" (defArgs s_shown) (defBody s_shown) (defScope s_shown) .none kV39 dc39 pm39 an39 cd39 ct39), sl39⟩) (c39 : PySem.W.codeIn K cd39 "shown" = true) (k39 : PySem.W.keepIn K (.ref f39) = true)
    (a40 : PySem.W.nsIn K mainGlobals "_law_cell_at" = some (some (.ref f40))) (l40 : K.lookup f40 = some ⟨oc40, od40, .func (PySem.W.fnOf "_law_cell_at" "_law_cell_at" (defArgs s_L_cell_at) (defBody s_L_cell_at) (defScope s_L_cell_at) .none kV40 dc40 pm40 an40 cd40 ct40), sl40⟩) (c40 : PySem.W.codeIn K cd40 "_law_cell_at" = true) (k40 : PySem.W.keepIn K (.ref f40) = true)
    (a41 : PySem.W.nsIn K mainGlobals "_law_mixed" = some (some (.ref f41))) (l41 : K.lookup f41 = some ⟨oc41, od41, .func (PySem.W.fnOf "_law_mixed" "_law_mixed" (defArgs s_L_mixed) (defBody s_L_mixed) (defScope s_L_mixed) .none kV41 dc41 pm41 an41 cd41 ct41), sl41⟩) (c41 : PySem.W.codeIn K cd41 "_law_mixed" = true) (k41 : PySem.W.keepIn K (.ref f41) = true)
    (a42 : PySem.W.nsIn K mainGlobals "_law_web" = some (some (.ref f42))) (l42 : K.lookup f42 = some ⟨oc42, od42, .func (PySem.W.fnOf "_law_web" "_law_web" (defArgs s_L_web) (defBody s_L_web) (defScope s_L_web) .none kV42 dc42 pm42 an42 cd42 ct42), sl42⟩) (c42 : PySem.W.codeIn K cd42 "_law_web" = true) (k42 : PySem.W.keepIn K (.ref f42) = true)
    (a43 : PySem.W.nsIn K mainGlobals "_law_row" = some (some (.ref f43))) (l43 : K.lookup f43 = some ⟨oc43, od43, .func (PySem.W.fnOf "_law_row" "_law_row" (defArgs s_L_row) (defBody s_L_row) (defScope s_L_row) .none kV43 dc43 pm43 an43 cd43 ct43), sl43⟩) (c43 : PySem.W.codeIn K cd43 "_law_row" = true) (k43 : PySem.W.keepIn K (.ref f43) = true)
    (a44 : PySem.W.nsIn K mainGlobals "_law_with_web" = some (some (.ref f44))) (l44 : K.lookup f44 = some ⟨oc44, od44, .func (PySem.W.fnOf "_law_with_web" "_law_with_web" (defArgs s_L_with_web) (defBody s_L_with_web) (defScope s_L_with_web) .none kV44 dc44 pm44 an44 cd44 ct44), sl44⟩) (c44 : PySem.W.codeIn K cd44 "_law_with_web" = true) (k44 : PySem.W.keepIn K (.ref f44) = true)
    (a45 : PySem.W.nsIn K mainGlobals "_law_with_row" = some (some (.ref f45))) (l45 : K.lookup f45 = some ⟨oc45, od45, .func (PySem.W.fnOf "_law_with_row" "_law_with_row" (defArgs s_L_with_row) (defBody s_L_with_row) (defScope s_L_with_row) .none kV45 dc45 pm45 an45 cd45 ct45), sl45⟩) (c45 : PySem.W.codeIn K cd45 "_law_with_row" = true) (k45 : PySem.W.keepIn K (.ref f45) = true)
    (a46 : PySem.W.nsIn K mainGlobals "_law_with_number" = some (some (.ref f46))) (l46 : K.lookup f46 = some ⟨oc46, od46, .func (PySem.W.fnOf "_law_with_number" "_law_with_number" (defArgs s_L_with_number) (defBody s_L_with_number) (defScope s_L_with_number) .none kV46 dc46 pm46 an46 cd46 ct46), sl46⟩) (c46 : PySem.W.codeIn K cd46 "_law_with_number" = true) (k46 : PySem.W.keepIn K (.ref f46) = true)
    (a47 : PySem.W.nsIn K mainGlobals "_law_asked" = some (some (.ref f47))) (l47 : K.lookup f47 = some ⟨oc47, od47, .func (PySem.W.fnOf "_law_asked" "_law_asked" (defArgs s_L_asked) (defBody s_L_asked) (defScope s_L_asked) .none kV47 dc47 pm47 an47 cd47 ct47), sl47⟩) (c47 : PySem.W.codeIn K cd47 "_law_asked" = true) (k47 : PySem.W.keepIn K (.ref f47) = true)
    (a48 : PySem.W.nsIn K mainGlobals "law" = some (some (.ref f48))) (l48 : K.lookup f48 = some ⟨oc48, od48, .func (PySem.W.fnOf "law" "law" (defArgs s_law) (defBody s_law) (defScope s_law) .none kV48 dc48 pm48 an48 cd48 ct48), sl48⟩) (c48 : PySem.W.codeIn K cd48 "law" = true) (k48 : PySem.W.keepIn K (.ref f48) = true)
    (gTurnError : PySem.W.nsIn K mainGlobals "TurnError" = some (some (.ref CTurnError))) (kTurnError : PySem.W.keepIn K (.ref CTurnError) = true) (qTurnError : PySem.W.excIn K CTurnError [.type "ValueError", .type "Exception", .type "BaseException", .type "object"] "ValueError.__new__" = true) (eTurnError : PySem.W.subIn K (.ref CTurnError) (.type "BaseException") = some true) (tTurnError : PySem.W.typeIn K (.ref CTurnError) = some (.type "type"))
    (gNoWeb : PySem.W.nsIn K mainGlobals "NoWeb" = some (some (.ref CNoWeb))) (kNoWeb : PySem.W.keepIn K (.ref CNoWeb) = true) (qNoWeb : PySem.W.excIn K CNoWeb [.type "ValueError", .type "Exception", .type "BaseException", .type "object"] "ValueError.__new__" = true) (eNoWeb : PySem.W.subIn K (.ref CNoWeb) (.type "BaseException") = some true) (tNoWeb : PySem.W.typeIn K (.ref CNoWeb) = some (.type "type"))
    (gNoRow : PySem.W.nsIn K mainGlobals "NoRow" = some (some (.ref CNoRow))) (kNoRow : PySem.W.keepIn K (.ref CNoRow) = true) (qNoRow : PySem.W.excIn K CNoRow [.type "ValueError", .type "Exception", .type "BaseException", .type "object"] "ValueError.__new__" = true) (eNoRow : PySem.W.subIn K (.ref CNoRow) (.type "BaseException") = some true) (tNoRow : PySem.W.typeIn K (.ref CNoRow) = some (.type "type"))
    (gNoNumber : PySem.W.nsIn K mainGlobals "NoNumber" = some (some (.ref CNoNumber))) (kNoNumber : PySem.W.keepIn K (.ref CNoNumber) = true) (qNoNumber : PySem.W.excIn K CNoNumber [.type "ValueError", .type "Exception", .type "BaseException", .type "object"] "ValueError.__new__" = true) (eNoNumber : PySem.W.subIn K (.ref CNoNumber) (.type "BaseException") = some true) (tNoNumber : PySem.W.typeIn K (.ref CNoNumber) = some (.type "type"))
    (gNoArrows : PySem.W.nsIn K mainGlobals "NoArrows" = some (some (.ref CNoArrows))) (kNoArrows : PySem.W.keepIn K (.ref CNoArrows) = true) (qNoArrows : PySem.W.excIn K CNoArrows [.type "ValueError", .type "Exception", .type "BaseException", .type "object"] "ValueError.__new__" = true) (eNoArrows : PySem.W.subIn K (.ref CNoArrows) (.type "BaseException") = some true) (tNoArrows : PySem.W.typeIn K (.ref CNoArrows) = some (.type "type"))
    (gTooBig : PySem.W.nsIn K mainGlobals "TooBig" = some (some (.ref CTooBig))) (kTooBig : PySem.W.keepIn K (.ref CTooBig) = true) (qTooBig : PySem.W.excIn K CTooBig [.type "ValueError", .type "Exception", .type "BaseException", .type "object"] "ValueError.__new__" = true) (eTooBig : PySem.W.subIn K (.ref CTooBig) (.type "BaseException") = some true) (tTooBig : PySem.W.typeIn K (.ref CTooBig) = some (.type "type"))
    (gNoText : PySem.W.nsIn K mainGlobals "NoText" = some (some (.ref CNoText))) (kNoText : PySem.W.keepIn K (.ref CNoText) = true) (qNoText : PySem.W.excIn K CNoText [.type "ValueError", .type "Exception", .type "BaseException", .type "object"] "ValueError.__new__" = true) (eNoText : PySem.W.subIn K (.ref CNoText) (.type "BaseException") = some true) (tNoText : PySem.W.typeIn K (.ref CNoText) = some (.type "type"))
    (hgNoArrows : PySem.W.findIn K (.ref CNoArrows) "__getattribute__" = some (some (.builtin "BaseException.__getattribute__"))) (hkNoArrows : PySem.W.findIn K (.ref CNoArrows) "__getattr__" = some none) (hdNoArrows : PySem.W.hasDictIn K CNoArrows = true) (haNoArrows : PySem.W.findIn K (.ref CNoArrows) "__class__" = some (some (.builtin "object.__class__"))) (hnNoArrows : PySem.W.specialIn K (.builtin "object.__class__") "__get__" = some (some (.builtin "getset_descriptor.__get__"))) (htNoArrows : PySem.W.takesIn K (.builtin "object.__class__") = some true) (hmNoArrows : PySem.W.mroIn K CNoArrows (.type "object") = some true)
    (hgNoNumber : PySem.W.findIn K (.ref CNoNumber) "__getattribute__" = some (some (.builtin "BaseException.__getattribute__"))) (hkNoNumber : PySem.W.findIn K (.ref CNoNumber) "__getattr__" = some none) (hdNoNumber : PySem.W.hasDictIn K CNoNumber = true) (haNoNumber : PySem.W.findIn K (.ref CNoNumber) "__class__" = some (some (.builtin "object.__class__"))) (hnNoNumber : PySem.W.specialIn K (.builtin "object.__class__") "__get__" = some (some (.builtin "getset_descriptor.__get__"))) (htNoNumber : PySem.W.takesIn K (.builtin "object.__class__") = some true) (hmNoNumber : PySem.W.mroIn K CNoNumber (.type "object") = some true)
    (hgNoRow : PySem.W.findIn K (.ref CNoRow) "__getattribute__" = some (some (.builtin "BaseException.__getattribute__"))) (hkNoRow : PySem.W.findIn K (.ref CNoRow) "__getattr__" = some none) (hdNoRow : PySem.W.hasDictIn K CNoRow = true) (haNoRow : PySem.W.findIn K (.ref CNoRow) "__class__" = some (some (.builtin "object.__class__"))) (hnNoRow : PySem.W.specialIn K (.builtin "object.__class__") "__get__" = some (some (.builtin "getset_descriptor.__get__"))) (htNoRow : PySem.W.takesIn K (.builtin "object.__class__") = some true) (hmNoRow : PySem.W.mroIn K CNoRow (.type "object") = some true)
    (hgNoText : PySem.W.findIn K (.ref CNoText) "__getattribute__" = some (some (.builtin "BaseException.__getattribute__"))) (hkNoText : PySem.W.findIn K (.ref CNoText) "__getattr__" = some none) (hdNoText : PySem.W.hasDictIn K CNoText = true) (haNoText : PySem.W.findIn K (.ref CNoText) "__class__" = some (some (.builtin "object.__class__"))) (hnNoText : PySem.W.specialIn K (.builtin "object.__class__") "__get__" = some (some (.builtin "getset_descriptor.__get__"))) (htNoText : PySem.W.takesIn K (.builtin "object.__class__") = some true) (hmNoText : PySem.W.mroIn K CNoText (.type "object") = some true)
    (hgNoWeb : PySem.W.findIn K (.ref CNoWeb) "__getattribute__" = some (some (.builtin "BaseException.__getattribute__"))) (hkNoWeb : PySem.W.findIn K (.ref CNoWeb) "__getattr__" = some none) (hdNoWeb : PySem.W.hasDictIn K CNoWeb = true) (haNoWeb : PySem.W.findIn K (.ref CNoWeb) "__class__" = some (some (.builtin "object.__class__"))) (hnNoWeb : PySem.W.specialIn K (.builtin "object.__class__") "__get__" = some (some (.builtin "getset_descriptor.__get__"))) (htNoWeb : PySem.W.takesIn K (.builtin "object.__class__") = some true) (hmNoWeb : PySem.W.mroIn K CNoWeb (.type "object") = some true)
    (hgTooBig : PySem.W.findIn K (.ref CTooBig) "__getattribute__" = some (some (.builtin "BaseException.__getattribute__"))) (hkTooBig : PySem.W.findIn K (.ref CTooBig) "__getattr__" = some none) (hdTooBig : PySem.W.hasDictIn K CTooBig = true) (haTooBig : PySem.W.findIn K (.ref CTooBig) "__class__" = some (some (.builtin "object.__class__"))) (hnTooBig : PySem.W.specialIn K (.builtin "object.__class__") "__get__" = some (some (.builtin "getset_descriptor.__get__"))) (htTooBig : PySem.W.takesIn K (.builtin "object.__class__") = some true) (hmTooBig : PySem.W.mroIn K CTooBig (.type "object") = some true)
    (kxNoArrowsNoArrows : PySem.W.kitOne K (.ref CNoArrows) (.ref CNoArrows) = some true)
    (kxNoArrowsNoNumber : PySem.W.kitOne K (.ref CNoArrows) (.ref CNoNumber) = some false)
    (kxNoArrowsNoRow : PySem.W.kitOne K (.ref CNoArrows) (.ref CNoRow) = some false)
    (kxNoArrowsNoText : PySem.W.kitOne K (.ref CNoArrows) (.ref CNoText) = some false)
    (kxNoArrowsNoWeb : PySem.W.kitOne K (.ref CNoArrows) (.ref CNoWeb) = some false)
    (kxNoArrowsTooBig : PySem.W.kitOne K (.ref CNoArrows) (.ref CTooBig) = some false)
    (kxNoArrowsValueError : PySem.W.kitOne K (.ref CNoArrows) (.type "ValueError") = some true)
    (kxNoNumberNoArrows : PySem.W.kitOne K (.ref CNoNumber) (.ref CNoArrows) = some false)
    (kxNoNumberNoNumber : PySem.W.kitOne K (.ref CNoNumber) (.ref CNoNumber) = some true)
    (kxNoNumberNoRow : PySem.W.kitOne K (.ref CNoNumber) (.ref CNoRow) = some false)
    (kxNoNumberNoText : PySem.W.kitOne K (.ref CNoNumber) (.ref CNoText) = some false)
    (kxNoNumberNoWeb : PySem.W.kitOne K (.ref CNoNumber) (.ref CNoWeb) = some false)
    (kxNoNumberTooBig : PySem.W.kitOne K (.ref CNoNumber) (.ref CTooBig) = some false)
    (kxNoNumberValueError : PySem.W.kitOne K (.ref CNoNumber) (.type "ValueError") = some true)
    (kxNoRowNoArrows : PySem.W.kitOne K (.ref CNoRow) (.ref CNoArrows) = some false)
    (kxNoRowNoNumber : PySem.W.kitOne K (.ref CNoRow) (.ref CNoNumber) = some false)
    (kxNoRowNoRow : PySem.W.kitOne K (.ref CNoRow) (.ref CNoRow) = some true)
    (kxNoRowNoText : PySem.W.kitOne K (.ref CNoRow) (.ref CNoText) = some false)
    (kxNoRowNoWeb : PySem.W.kitOne K (.ref CNoRow) (.ref CNoWeb) = some false)
    (kxNoRowTooBig : PySem.W.kitOne K (.ref CNoRow) (.ref CTooBig) = some false)
    (kxNoRowValueError : PySem.W.kitOne K (.ref CNoRow) (.type "ValueError") = some true)
    (kxNoTextNoArrows : PySem.W.kitOne K (.ref CNoText) (.ref CNoArrows) = some false)
    (kxNoTextNoNumber : PySem.W.kitOne K (.ref CNoText) (.ref CNoNumber) = some false)
    (kxNoTextNoRow : PySem.W.kitOne K (.ref CNoText) (.ref CNoRow) = some false)
    (kxNoTextNoText : PySem.W.kitOne K (.ref CNoText) (.ref CNoText) = some true)
    (kxNoTextNoWeb : PySem.W.kitOne K (.ref CNoText) (.ref CNoWeb) = some false)
    (kxNoTextTooBig : PySem.W.kitOne K (.ref CNoText) (.ref CTooBig) = some false)
    (kxNoTextValueError : PySem.W.kitOne K (.ref CNoText) (.type "ValueError") = some true)
    (kxNoWebNoArrows : PySem.W.kitOne K (.ref CNoWeb) (.ref CNoArrows) = some false)
    (kxNoWebNoNumber : PySem.W.kitOne K (.ref CNoWeb) (.ref CNoNumber) = some false)
    (kxNoWebNoRow : PySem.W.kitOne K (.ref CNoWeb) (.ref CNoRow) = some false)
    (kxNoWebNoText : PySem.W.kitOne K (.ref CNoWeb) (.ref CNoText) = some false)
    (kxNoWebNoWeb : PySem.W.kitOne K (.ref CNoWeb) (.ref CNoWeb) = some true)
    (kxNoWebTooBig : PySem.W.kitOne K (.ref CNoWeb) (.ref CTooBig) = some false)
    (kxNoWebValueError : PySem.W.kitOne K (.ref CNoWeb) (.type "ValueError") = some true)
    (kxTooBigNoArrows : PySem.W.kitOne K (.ref CTooBig) (.ref CNoArrows) = some false)
    (kxTooBigNoNumber : PySem.W.kitOne K (.ref CTooBig) (.ref CNoNumber) = some false)
    (kxTooBigNoRow : PySem.W.kitOne K (.ref CTooBig) (.ref CNoRow) = some false)
    (kxTooBigNoText : PySem.W.kitOne K (.ref CTooBig) (.ref CNoText) = some false)
    (kxTooBigNoWeb : PySem.W.kitOne K (.ref CTooBig) (.ref CNoWeb) = some false)
    (kxTooBigTooBig : PySem.W.kitOne K (.ref CTooBig) (.ref CTooBig) = some true)
    (kxTooBigValueError : PySem.W.kitOne K (.ref CTooBig) (.type "ValueError") = some true)
    (xmNoArrowsTurnError : PySem.W.exmOne K (.ref CNoArrows) (.ref CTurnError) = some true)
    (xmNoNumberTurnError : PySem.W.exmOne K (.ref CNoNumber) (.ref CTurnError) = some true)
    (xmNoRowTurnError : PySem.W.exmOne K (.ref CNoRow) (.ref CTurnError) = some true)
    (xmNoTextTurnError : PySem.W.exmOne K (.ref CNoText) (.ref CTurnError) = some true)
    (xmNoWebTurnError : PySem.W.exmOne K (.ref CNoWeb) (.ref CTurnError) = some true)
    (xmTooBigTurnError : PySem.W.exmOne K (.ref CTooBig) (.ref CTurnError) = some true)
    (zValueError : PySem.W.nsIn K mainGlobals "ValueError" = some none)
    (zall : PySem.W.nsIn K mainGlobals "all" = some none)
    (zbool : PySem.W.nsIn K mainGlobals "bool" = some none)
    (zdict : PySem.W.nsIn K mainGlobals "dict" = some none)
    (zint : PySem.W.nsIn K mainGlobals "int" = some none)
    (zisinstance : PySem.W.nsIn K mainGlobals "isinstance" = some none)
    (zlen : PySem.W.nsIn K mainGlobals "len" = some none)
    (zlist : PySem.W.nsIn K mainGlobals "list" = some none)
    (zmin : PySem.W.nsIn K mainGlobals "min" = some none)
    (zrange : PySem.W.nsIn K mainGlobals "range" = some none)
    (zsorted : PySem.W.nsIn K mainGlobals "sorted" = some none)
    (zsum : PySem.W.nsIn K mainGlobals "sum" = some none)
    (ztuple : PySem.W.nsIn K mainGlobals "tuple" = some none)
    (vTHINGS_webs : PySem.W.nsIn K mainGlobals "THINGS_webs" = some (some (.int 7 tTHINGS_webs)))
    (vWEIGHT : PySem.W.nsIn K mainGlobals "WEIGHT" = some (some (.int 99 tWEIGHT)))
    (vPOWERS : PySem.W.nsIn K mainGlobals "POWERS" = some (some (.ref aPOWERS))) (lPOWERS : K.lookup aPOWERS = some ⟨.type "tuple", none, .seq #[.int 1 tPOWERS0, .int 2 tPOWERS1, .int 4 tPOWERS2, .int 8 tPOWERS3, .int 16 tPOWERS4, .int 32 tPOWERS5, .int 64 tPOWERS6, .int 128 tPOWERS7] nPOWERS, sPOWERS⟩)
    (vNONE : PySem.W.nsIn K mainGlobals "NONE" = some (some (.ref aNONE))) (lNONE : K.lookup aNONE = some ⟨.type "tuple", none, .seq #[.int 0 tNONE0, .int 1 tNONE1] nNONE, sNONE⟩)
    (vWHOLE : PySem.W.nsIn K mainGlobals "WHOLE" = some (some (.ref aWHOLE))) (lWHOLE : K.lookup aWHOLE = some ⟨.type "tuple", none, .seq #[.int 1 tWHOLE0, .int 1 tWHOLE1] nWHOLE, sWHOLE⟩)
    (vTHINGS_kept : PySem.W.nsIn K mainGlobals "THINGS_kept" = some (some (.int 12 tTHINGS_kept)))
    (gTable : PySem.W.nsIn K mainGlobals "Table" = some (some (.ref CTable))) (pgTable : PySem.W.plainGet K CTable Str.empty = true) (hdTable : PySem.W.hasDictIn K CTable = true) (poTable : PySem.W.plainOver K CTable = true) (saTable : PySem.W.findIn K (.ref CTable) "__setattr__" = some (some (.builtin "object.__setattr__"))) (mkTable : PySem.W.makesIn K CTable = true) (kcTable : PySem.W.keepIn K (.ref CTable) = true)
    (naTablemany : PySem.W.findIn K (.ref CTable) "many" = some none)
    (naTableweights : PySem.W.findIn K (.ref CTable) "weights" = some none)
    (naTablekept : PySem.W.findIn K (.ref CTable) "kept" = some none)
    (naTableknown : PySem.W.findIn K (.ref CTable) "known" = some none)
    (aTableinit : PySem.W.findIn K (.ref CTable) "__init__" = some (some (.ref fTableinit))) (iTableinit : PySem.W.isFn K (.ref fTableinit) = true) (lTableinit : K.lookup fTableinit = some ⟨ocTableinit, odTableinit, .func (PySem.W.fnOf "__init__" "Table.__init__" (defArgs (inClass (topS 42) 0)) (defBody (inClass (topS 42) 0)) (defScope (inClass (topS 42) 0)) .none kVTableinit dcTableinit pmTableinit anTableinit cdTableinit ctTableinit), slTableinit⟩) (cTableinit : PySem.W.codeIn K cdTableinit "Table.__init__" = true) (kTableinit : PySem.W.keepIn K (.ref fTableinit) = true)
    (aTablestands : PySem.W.findIn K (.ref CTable) "stands" = some (some (.ref fTablestands))) (iTablestands : PySem.W.isFn K (.ref fTablestands) = true) (lTablestands : K.lookup fTablestands = some ⟨ocTablestands, odTablestands, .func (PySem.W.fnOf "stands" "Table.stands" (defArgs (inClass (topS 42) 1)) (defBody (inClass (topS 42) 1)) (defScope (inClass (topS 42) 1)) .none kVTablestands dcTablestands pmTablestands anTablestands cdTablestands ctTablestands), slTablestands⟩) (cTablestands : PySem.W.codeIn K cdTablestands "Table.stands" = true) (kTablestands : PySem.W.keepIn K (.ref fTablestands) = true)
    (aTablecost : PySem.W.findIn K (.ref CTable) "cost" = some (some (.ref fTablecost))) (iTablecost : PySem.W.isFn K (.ref fTablecost) = true) (lTablecost : K.lookup fTablecost = some ⟨ocTablecost, odTablecost, .func (PySem.W.fnOf "cost" "Table.cost" (defArgs (inClass (topS 42) 2)) (defBody (inClass (topS 42) 2)) (defScope (inClass (topS 42) 2)) .none kVTablecost dcTablecost pmTablecost anTablecost cdTablecost ctTablecost), slTablecost⟩) (cTablecost : PySem.W.codeIn K cdTablecost "Table.cost" = true) (kTablecost : PySem.W.keepIn K (.ref fTablecost) = true)
    (aTablemay_come : PySem.W.findIn K (.ref CTable) "may_come" = some (some (.ref fTablemay_come))) (iTablemay_come : PySem.W.isFn K (.ref fTablemay_come) = true) (lTablemay_come : K.lookup fTablemay_come = some ⟨ocTablemay_come, odTablemay_come, .func (PySem.W.fnOf "may_come" "Table.may_come" (defArgs (inClass (topS 42) 3)) (defBody (inClass (topS 42) 3)) (defScope (inClass (topS 42) 3)) .none kVTablemay_come dcTablemay_come pmTablemay_come anTablemay_come cdTablemay_come ctTablemay_come), slTablemay_come⟩) (cTablemay_come : PySem.W.codeIn K cdTablemay_come "Table.may_come" = true) (kTablemay_come : PySem.W.keepIn K (.ref fTablemay_come) = true)
    (aTablebest : PySem.W.findIn K (.ref CTable) "best" = some (some (.ref fTablebest))) (iTablebest : PySem.W.isFn K (.ref fTablebest) = true) (lTablebest : K.lookup fTablebest = some ⟨ocTablebest, odTablebest, .func (PySem.W.fnOf "best" "Table.best" (defArgs (inClass (topS 42) 4)) (defBody (inClass (topS 42) 4)) (defScope (inClass (topS 42) 4)) .none kVTablebest dcTablebest pmTablebest anTablebest cdTablebest ctTablebest), slTablebest⟩) (cTablebest : PySem.W.codeIn K cdTablebest "Table.best" = true) (kTablebest : PySem.W.keepIn K (.ref fTablebest) = true)
    (aTablefound : PySem.W.findIn K (.ref CTable) "found" = some (some (.ref fTablefound))) (iTablefound : PySem.W.isFn K (.ref fTablefound) = true) (lTablefound : K.lookup fTablefound = some ⟨ocTablefound, odTablefound, .func (PySem.W.fnOf "found" "Table.found" (defArgs (inClass (topS 42) 5)) (defBody (inClass (topS 42) 5)) (defScope (inClass (topS 42) 5)) .none kVTablefound dcTablefound pmTablefound anTablefound cdTablefound ctTablefound), slTablefound⟩) (cTablefound : PySem.W.codeIn K cdTablefound "Table.found" = true) (kTablefound : PySem.W.keepIn K (.ref fTablefound) = true)
    (aTablefirst_row : PySem.W.findIn K (.ref CTable) "first_row" = some (some (.ref fTablefirst_row))) (iTablefirst_row : PySem.W.isFn K (.ref fTablefirst_row) = true) (lTablefirst_row : K.lookup fTablefirst_row = some ⟨ocTablefirst_row, odTablefirst_row, .func (PySem.W.fnOf "first_row" "Table.first_row" (defArgs (inClass (topS 42) 6)) (defBody (inClass (topS 42) 6)) (defScope (inClass (topS 42) 6)) .none kVTablefirst_row dcTablefirst_row pmTablefirst_row anTablefirst_row cdTablefirst_row ctTablefirst_row), slTablefirst_row⟩) (cTablefirst_row : PySem.W.codeIn K cdTablefirst_row "Table.first_row" = true) (kTablefirst_row : PySem.W.keepIn K (.ref fTablefirst_row) = true)
    : ∃ fd : FuncData, (∀ (s : Shared) (u : Value), BindsTo s fd ⟨[u], []⟩ [("_law_script", u)]) ∧ ∀ base : Heap, K.In base → base.Ns mainGlobals mg → FnOk P w K mg base CX0 27 fa fd ["_law_script"] (spL K) := by
  have e := hfa.symm.trans (PySem.W.mg_of X G a48)
  cases e
  let T : Tops K mg := {
    is_whole := ⟨f0, _, PySem.W.mg_of X G a0, k0, fun_mk l0 c0 k0, (fun_mk (st := s_is_whole) l0 c0 k0).binds (fun _ _ _ _ _ _ us hl => match us, hl with | [_], _ => rfl)⟩,
    between := ⟨f1, _, PySem.W.mg_of X G a1, k1, fun_mk l1 c1 k1, (fun_mk (st := s_between) l1 c1 k1).binds (fun _ _ _ _ _ _ us hl => match us, hl with | [_, _, _], _ => rfl)⟩,
    is_arrow := ⟨f2, _, PySem.W.mg_of X G a2, k2, fun_mk l2 c2 k2, (fun_mk (st := s_is_arrow) l2 c2 k2).binds (fun _ _ _ _ _ _ us hl => match us, hl with | [_, _], _ => rfl)⟩,
    is_web := ⟨f3, _, PySem.W.mg_of X G a3, k3, fun_mk l3 c3 k3, (fun_mk (st := s_is_web) l3 c3 k3).binds (fun _ _ _ _ _ _ us hl => match us, hl with | [_], _ => rfl)⟩,
    checked := ⟨f4, _, PySem.W.mg_of X G a4, k4, fun_mk l4 c4 k4, (fun_mk (st := s_checked) l4 c4 k4).binds (fun _ _ _ _ _ _ us hl => match us, hl with | [_], _ => rfl)⟩,
    need_row := ⟨f5, _, PySem.W.mg_of X G a5, k5, fun_mk l5 c5 k5, (fun_mk (st := s_need_row) l5 c5 k5).binds (fun _ _ _ _ _ _ us hl => match us, hl with | [_, _], _ => rfl)⟩,
    turned := ⟨f6, _, PySem.W.mg_of X G a6, k6, fun_mk l6 c6 k6, (fun_mk (st := s_turned) l6 c6 k6).binds (fun _ _ _ _ _ _ us hl => match us, hl with | [_, _], _ => rfl)⟩,
    weight := ⟨f7, _, PySem.W.mg_of X G a7, k7, fun_mk l7 c7 k7, (fun_mk (st := s_weight) l7 c7 k7).binds (fun _ _ _ _ _ _ us hl => match us, hl with | [_, _], _ => rfl)⟩,
    weights_of := ⟨f8, _, PySem.W.mg_of X G a8, k8, fun_mk l8 c8 k8, (fun_mk (st := s_weights_of) l8 c8 k8).binds (fun _ _ _ _ _ _ us hl => match us, hl with | [_], _ => rfl)⟩,
    turned_about := ⟨f9, _, PySem.W.mg_of X G a9, k9, fun_mk l9 c9 k9, (fun_mk (st := s_turned_about) l9 c9 k9).binds (fun _ _ _ _ _ _ us hl => match us, hl with | [_], _ => rfl)⟩,
    joined := ⟨f10, _, PySem.W.mg_of X G a10, k10, fun_mk l10 c10 k10, (fun_mk (st := s_joined) l10 c10 k10).binds (fun _ _ _ _ _ _ us hl => match us, hl with | [_, _], _ => rfl)⟩,
    with_arrow := ⟨f11, _, PySem.W.mg_of X G a11, k11, fun_mk l11 c11 k11, (fun_mk (st := s_with_arrow) l11 c11 k11).binds (fun _ _ _ _ _ _ us hl => match us, hl with | [_, _, _, _], _ => rfl)⟩,
    moved := ⟨f12, _, PySem.W.mg_of X G a12, k12, fun_mk l12 c12 k12, (fun_mk (st := s_moved) l12 c12 k12).binds (fun _ _ _ _ _ _ us hl => match us, hl with | [_, _, _, _], _ => rfl)⟩,
    is_settled := ⟨f13, _, PySem.W.mg_of X G a13, k13, fun_mk l13 c13 k13, (fun_mk (st := s_is_settled) l13 c13 k13).binds (fun _ _ _ _ _ _ us hl => match us, hl with | [_, _], _ => rfl)⟩,
    better := ⟨f14, _, PySem.W.mg_of X G a14, k14, fun_mk l14 c14 k14, (fun_mk (st := s_better) l14 c14 k14).binds (fun _ _ _ _ _ _ us hl => match us, hl with | [_, _], _ => rfl)⟩,
    least_of := ⟨f15, _, PySem.W.mg_of X G a15, k15, fun_mk l15 c15 k15, (fun_mk (st := s_least_of) l15 c15 k15).binds (fun _ _ _ _ _ _ us hl => match us, hl with | [_], _ => rfl)⟩,
    least := ⟨f16, _, PySem.W.mg_of X G a16, k16, fun_mk l16 c16 k16, (fun_mk (st := s_least) l16 c16 k16).binds (fun _ _ _ _ _ _ us hl => match us, hl with | [_], _ => rfl)⟩,
    count_best := ⟨f17, _, PySem.W.mg_of X G a17, k17, fun_mk l17 c17 k17, (fun_mk (st := s_count_best) l17 c17 k17).binds (fun _ _ _ _ _ _ us hl => match us, hl with | [_], _ => rfl)⟩,
    sure := ⟨f18, _, PySem.W.mg_of X G a18, k18, fun_mk l18 c18 k18, (fun_mk (st := s_sure) l18 c18 k18).binds (fun _ _ _ _ _ _ us hl => match us, hl with | [_], _ => rfl)⟩,
    next_of := ⟨f19, _, PySem.W.mg_of X G a19, k19, fun_mk l19 c19 k19, (fun_mk (st := s_next_of) l19 c19 k19).binds (fun _ _ _ _ _ _ us hl => match us, hl with | [_], _ => rfl)⟩,
    rings_of := ⟨f20, _, PySem.W.mg_of X G a20, k20, fun_mk l20 c20 k20, (fun_mk (st := s_rings_of) l20 c20 k20).binds (fun _ _ _ _ _ _ us hl => match us, hl with | [_], _ => rfl)⟩,
    rings := ⟨f21, _, PySem.W.mg_of X G a21, k21, fun_mk l21 c21 k21, (fun_mk (st := s_rings) l21 c21 k21).binds (fun _ _ _ _ _ _ us hl => match us, hl with | [_], _ => rfl)⟩,
    ring := ⟨f22, _, PySem.W.mg_of X G a22, k22, fun_mk l22 c22 k22, (fun_mk (st := s_ring) l22 c22 k22).binds (fun _ _ _ _ _ _ us hl => match us, hl with | [_], _ => rfl)⟩,
    is_free := ⟨f23, _, PySem.W.mg_of X G a23, k23, fun_mk l23 c23 k23, (fun_mk (st := s_is_free) l23 c23 k23).binds (fun _ _ _ _ _ _ us hl => match us, hl with | [_], _ => rfl)⟩,
    fit := ⟨f24, _, PySem.W.mg_of X G a24, k24, fun_mk l24 c24 k24, (fun_mk (st := s_fit) l24 c24 k24).binds (fun _ _ _ _ _ _ us hl => match us, hl with | [_, _], _ => rfl)⟩,
    whole_shares := ⟨f25, _, PySem.W.mg_of X G a25, k25, fun_mk l25 c25 k25, (fun_mk (st := s_whole_shares) l25 c25 k25).binds (fun _ _ _ _ _ _ us hl => match us, hl with | [_], _ => rfl)⟩,
    paper := ⟨f26, _, PySem.W.mg_of X G a26, k26, fun_mk l26 c26 k26, (fun_mk (st := s_paper) l26 c26 k26).binds (fun _ _ _ _ _ _ us hl => match us, hl with | [_], _ => rfl)⟩,
    shows := ⟨f27, _, PySem.W.mg_of X G a27, k27, fun_mk l27 c27 k27, (fun_mk (st := s_shows) l27 c27 k27).binds (fun _ _ _ _ _ _ us hl => match us, hl with | [_, _, _], _ => rfl)⟩,
    greatest := ⟨f28, _, PySem.W.mg_of X G a28, k28, fun_mk l28 c28 k28, (fun_mk (st := s_greatest) l28 c28 k28).binds (fun _ _ _ _ _ _ us hl => match us, hl with | [_], _ => rfl)⟩,
    are_parts := ⟨f29, _, PySem.W.mg_of X G a29, k29, fun_mk l29 c29 k29, (fun_mk (st := s_are_parts) l29 c29 k29).binds (fun _ _ _ _ _ _ us hl => match us, hl with | [_, _, _], _ => rfl)⟩,
    is_pair := ⟨f30, _, PySem.W.mg_of X G a30, k30, fun_mk l30 c30 k30, (fun_mk (st := s_is_pair) l30 c30 k30).binds (fun _ _ _ _ _ _ us hl => match us, hl with | [_, _], _ => rfl)⟩,
    all_come := ⟨f31, _, PySem.W.mg_of X G a31, k31, fun_mk l31 c31 k31, (fun_mk (st := s_all_come) l31 c31 k31).binds (fun _ _ _ _ _ _ us hl => match us, hl with | [_, _], _ => rfl)⟩,
    kept := ⟨f32, _, PySem.W.mg_of X G a32, k32, fun_mk l32 c32 k32, (fun_mk (st := s_kept) l32 c32 k32).binds (fun _ _ _ _ _ _ us hl => match us, hl with | [_, _], _ => rfl)⟩,
    row_behind := ⟨f33, _, PySem.W.mg_of X G a33, k33, fun_mk l33 c33 k33, (fun_mk (st := s_row_behind) l33 c33 k33).binds (fun _ _ _ _ _ _ us hl => match us, hl with | [_, _], _ => rfl)⟩,
    led_to := ⟨f34, _, PySem.W.mg_of X G a34, k34, fun_mk l34 c34 k34, (fun_mk (st := s_led_to) l34 c34 k34).binds (fun _ _ _ _ _ _ us hl => match us, hl with | [_, _], _ => rfl)⟩,
    parts_of := ⟨f35, _, PySem.W.mg_of X G a35, k35, fun_mk l35 c35 k35, (fun_mk (st := s_parts_of) l35 c35 k35).binds (fun _ _ _ _ _ _ us hl => match us, hl with | [_], _ => rfl)⟩,
    parts := ⟨f36, _, PySem.W.mg_of X G a36, k36, fun_mk l36 c36 k36, (fun_mk (st := s_parts) l36 c36 k36).binds (fun _ _ _ _ _ _ us hl => match us, hl with | [_], _ => rfl)⟩,
    part_web := ⟨f37, _, PySem.W.mg_of X G a37, k37, fun_mk l37 c37 k37, (fun_mk (st := s_part_web) l37 c37 k37).binds (fun _ _ _ _ _ _ us hl => match us, hl with | [_, _], _ => rfl)⟩,
    text_of := ⟨f38, _, PySem.W.mg_of X G a38, k38, fun_mk l38 c38 k38, (fun_mk (st := s_text_of) l38 c38 k38).binds (fun _ _ _ _ _ _ us hl => match us, hl with | [_], _ => rfl)⟩,
    shown := ⟨f39, _, PySem.W.mg_of X G a39, k39, fun_mk l39 c39 k39, (fun_mk (st := s_shown) l39 c39 k39).binds (fun _ _ _ _ _ _ us hl => match us, hl with | [_], _ => rfl)⟩,
    L_cell_at := ⟨f40, _, PySem.W.mg_of X G a40, k40, fun_mk l40 c40 k40, (fun_mk (st := s_L_cell_at) l40 c40 k40).binds (fun _ _ _ _ _ _ us hl => match us, hl with | [_, _], _ => rfl)⟩,
    L_mixed := ⟨f41, _, PySem.W.mg_of X G a41, k41, fun_mk l41 c41 k41, (fun_mk (st := s_L_mixed) l41 c41 k41).binds (fun _ _ _ _ _ _ us hl => match us, hl with | [_, _, _], _ => rfl)⟩,
    L_web := ⟨f42, _, PySem.W.mg_of X G a42, k42, fun_mk l42 c42 k42, (fun_mk (st := s_L_web) l42 c42 k42).binds (fun _ _ _ _ _ _ us hl => match us, hl with | [_, _, _], _ => rfl)⟩,
    L_row := ⟨f43, _, PySem.W.mg_of X G a43, k43, fun_mk l43 c43 k43, (fun_mk (st := s_L_row) l43 c43 k43).binds (fun _ _ _ _ _ _ us hl => match us, hl with | [_, _, _], _ => rfl)⟩,
    L_with_web := ⟨f44, _, PySem.W.mg_of X G a44, k44, fun_mk l44 c44 k44, (fun_mk (st := s_L_with_web) l44 c44 k44).binds (fun _ _ _ _ _ _ us hl => match us, hl with | [_, _, _], _ => rfl)⟩,
    L_with_row := ⟨f45, _, PySem.W.mg_of X G a45, k45, fun_mk l45 c45 k45, (fun_mk (st := s_L_with_row) l45 c45 k45).binds (fun _ _ _ _ _ _ us hl => match us, hl with | [_, _, _], _ => rfl)⟩,
    L_with_number := ⟨f46, _, PySem.W.mg_of X G a46, k46, fun_mk l46 c46 k46, (fun_mk (st := s_L_with_number) l46 c46 k46).binds (fun _ _ _ _ _ _ us hl => match us, hl with | [_, _, _, _], _ => rfl)⟩,
    L_asked := ⟨f47, _, PySem.W.mg_of X G a47, k47, fun_mk l47 c47 k47, (fun_mk (st := s_L_asked) l47 c47 k47).binds (fun _ _ _ _ _ _ us hl => match us, hl with | [_, _, _, _], _ => rfl)⟩,
    law := ⟨fa, _, PySem.W.mg_of X G a48, k48, fun_mk l48 c48 k48, (fun_mk (st := s_law) l48 c48 k48).binds (fun _ _ _ _ _ _ us hl => match us, hl with | [_], _ => rfl)⟩,
    x_TurnError := ⟨CTurnError, PySem.W.mg_of X G gTurnError, kTurnError, qTurnError, eTurnError, tTurnError⟩,
    x_NoWeb := ⟨CNoWeb, PySem.W.mg_of X G gNoWeb, kNoWeb, qNoWeb, eNoWeb, tNoWeb⟩,
    x_NoRow := ⟨CNoRow, PySem.W.mg_of X G gNoRow, kNoRow, qNoRow, eNoRow, tNoRow⟩,
    x_NoNumber := ⟨CNoNumber, PySem.W.mg_of X G gNoNumber, kNoNumber, qNoNumber, eNoNumber, tNoNumber⟩,
    x_NoArrows := ⟨CNoArrows, PySem.W.mg_of X G gNoArrows, kNoArrows, qNoArrows, eNoArrows, tNoArrows⟩,
    x_TooBig := ⟨CTooBig, PySem.W.mg_of X G gTooBig, kTooBig, qTooBig, eTooBig, tTooBig⟩,
    x_NoText := ⟨CNoText, PySem.W.mg_of X G gNoText, kNoText, qNoText, eNoText, tNoText⟩,
    i_NoArrows := ⟨hgNoArrows, hkNoArrows, eNoArrows, hdNoArrows, haNoArrows, hnNoArrows, htNoArrows, hmNoArrows⟩,
    i_NoNumber := ⟨hgNoNumber, hkNoNumber, eNoNumber, hdNoNumber, haNoNumber, hnNoNumber, htNoNumber, hmNoNumber⟩,
    i_NoRow := ⟨hgNoRow, hkNoRow, eNoRow, hdNoRow, haNoRow, hnNoRow, htNoRow, hmNoRow⟩,
    i_NoText := ⟨hgNoText, hkNoText, eNoText, hdNoText, haNoText, hnNoText, htNoText, hmNoText⟩,
    i_NoWeb := ⟨hgNoWeb, hkNoWeb, eNoWeb, hdNoWeb, haNoWeb, hnNoWeb, htNoWeb, hmNoWeb⟩,
    i_TooBig := ⟨hgTooBig, hkTooBig, eTooBig, hdTooBig, haTooBig, hnTooBig, htTooBig, hmTooBig⟩,
    kx_NoArrows_NoArrows := kxNoArrowsNoArrows,
    kx_NoArrows_NoNumber := kxNoArrowsNoNumber,
    kx_NoArrows_NoRow := kxNoArrowsNoRow,
    kx_NoArrows_NoText := kxNoArrowsNoText,
    kx_NoArrows_NoWeb := kxNoArrowsNoWeb,
    kx_NoArrows_TooBig := kxNoArrowsTooBig,
    kx_NoArrows_ValueError := kxNoArrowsValueError,
    kx_NoNumber_NoArrows := kxNoNumberNoArrows,
    kx_NoNumber_NoNumber := kxNoNumberNoNumber,
    kx_NoNumber_NoRow := kxNoNumberNoRow,
    kx_NoNumber_NoText := kxNoNumberNoText,
    kx_NoNumber_NoWeb := kxNoNumberNoWeb,
    kx_NoNumber_TooBig := kxNoNumberTooBig,
    kx_NoNumber_ValueError := kxNoNumberValueError,
    kx_NoRow_NoArrows := kxNoRowNoArrows,
    kx_NoRow_NoNumber := kxNoRowNoNumber,
    kx_NoRow_NoRow := kxNoRowNoRow,
    kx_NoRow_NoText := kxNoRowNoText,
    kx_NoRow_NoWeb := kxNoRowNoWeb,
    kx_NoRow_TooBig := kxNoRowTooBig,
    kx_NoRow_ValueError := kxNoRowValueError,
    kx_NoText_NoArrows := kxNoTextNoArrows,
    kx_NoText_NoNumber := kxNoTextNoNumber,
    kx_NoText_NoRow := kxNoTextNoRow,
    kx_NoText_NoText := kxNoTextNoText,
    kx_NoText_NoWeb := kxNoTextNoWeb,
    kx_NoText_TooBig := kxNoTextTooBig,
    kx_NoText_ValueError := kxNoTextValueError,
    kx_NoWeb_NoArrows := kxNoWebNoArrows,
    kx_NoWeb_NoNumber := kxNoWebNoNumber,
    kx_NoWeb_NoRow := kxNoWebNoRow,
    kx_NoWeb_NoText := kxNoWebNoText,
    kx_NoWeb_NoWeb := kxNoWebNoWeb,
    kx_NoWeb_TooBig := kxNoWebTooBig,
    kx_NoWeb_ValueError := kxNoWebValueError,
    kx_TooBig_NoArrows := kxTooBigNoArrows,
    kx_TooBig_NoNumber := kxTooBigNoNumber,
    kx_TooBig_NoRow := kxTooBigNoRow,
    kx_TooBig_NoText := kxTooBigNoText,
    kx_TooBig_NoWeb := kxTooBigNoWeb,
    kx_TooBig_TooBig := kxTooBigTooBig,
    kx_TooBig_ValueError := kxTooBigValueError,
    xm_NoArrows_TurnError := xmNoArrowsTurnError,
    xm_NoNumber_TurnError := xmNoNumberTurnError,
    xm_NoRow_TurnError := xmNoRowTurnError,
    xm_NoText_TurnError := xmNoTextTurnError,
    xm_NoWeb_TurnError := xmNoWebTurnError,
    xm_TooBig_TurnError := xmTooBigTurnError,
    n_ValueError := PySem.W.mg_none_of X G zValueError,
    n_all := PySem.W.mg_none_of X G zall,
    n_bool := PySem.W.mg_none_of X G zbool,
    n_dict := PySem.W.mg_none_of X G zdict,
    n_int := PySem.W.mg_none_of X G zint,
    n_isinstance := PySem.W.mg_none_of X G zisinstance,
    n_len := PySem.W.mg_none_of X G zlen,
    n_list := PySem.W.mg_none_of X G zlist,
    n_min := PySem.W.mg_none_of X G zmin,
    n_range := PySem.W.mg_none_of X G zrange,
    n_sorted := PySem.W.mg_none_of X G zsorted,
    n_sum := PySem.W.mg_none_of X G zsum,
    n_tuple := PySem.W.mg_none_of X G ztuple,
    c_THINGS_webs := ⟨tTHINGS_webs, PySem.W.mg_of X G vTHINGS_webs⟩,
    c_WEIGHT := ⟨tWEIGHT, PySem.W.mg_of X G vWEIGHT⟩,
    c_POWERS := aPOWERS,
    g_POWERS := PySem.W.mg_of X G vPOWERS,
    k_POWERS := ktup_K (its := [.int 1 tPOWERS0, .int 2 tPOWERS1, .int 4 tPOWERS2, .int 8 tPOWERS3, .int 16 tPOWERS4, .int 32 tPOWERS5, .int 64 tPOWERS6, .int 128 tPOWERS7]) lPOWERS (by show 8 ≤ sizeLine; decide) (.cons ⟨_, rfl⟩ (.cons ⟨_, rfl⟩ (.cons ⟨_, rfl⟩ (.cons ⟨_, rfl⟩ (.cons ⟨_, rfl⟩ (.cons ⟨_, rfl⟩ (.cons ⟨_, rfl⟩ (.cons ⟨_, rfl⟩ (.nil))))))))),
    c_NONE := aNONE,
    g_NONE := PySem.W.mg_of X G vNONE,
    k_NONE := ktup_K (its := [.int 0 tNONE0, .int 1 tNONE1]) lNONE (by show 2 ≤ sizeLine; decide) (.cons ⟨_, rfl⟩ (.cons ⟨_, rfl⟩ (.nil))),
    c_WHOLE := aWHOLE,
    g_WHOLE := PySem.W.mg_of X G vWHOLE,
    k_WHOLE := ktup_K (its := [.int 1 tWHOLE0, .int 1 tWHOLE1]) lWHOLE (by show 2 ≤ sizeLine; decide) (.cons ⟨_, rfl⟩ (.cons ⟨_, rfl⟩ (.nil))),
    c_THINGS_kept := ⟨tTHINGS_kept, PySem.W.mg_of X G vTHINGS_kept⟩,
    Table_C := CTable,
    Table_g := PySem.W.mg_of X G gTable,
    Table_cls := ⟨pgTable, hdTable, poTable, saTable⟩,
    Table_na_many := naTablemany,
    Table_na_weights := naTableweights,
    Table_na_kept := naTablekept,
    Table_na_known := naTableknown,
    Table_init := ⟨fTableinit, _, fun_mk lTableinit cTableinit kTableinit, (fun_mk (st := (inClass (topS 42) 0)) lTableinit cTableinit kTableinit).binds (fun _ _ _ _ _ _ us hl => match us, hl with | [_, _, _], _ => rfl), ⟨mkTable, aTableinit, iTableinit, kcTable⟩⟩,
    Table_stands := ⟨fTablestands, _, fun_mk lTablestands cTablestands kTablestands, (fun_mk (st := (inClass (topS 42) 1)) lTablestands cTablestands kTablestands).binds (fun _ _ _ _ _ _ us hl => match us, hl with | [_, _, _], _ => rfl), ⟨aTablestands, iTablestands, kTablestands⟩⟩,
    Table_cost := ⟨fTablecost, _, fun_mk lTablecost cTablecost kTablecost, (fun_mk (st := (inClass (topS 42) 2)) lTablecost cTablecost kTablecost).binds (fun _ _ _ _ _ _ us hl => match us, hl with | [_, _, _], _ => rfl), ⟨aTablecost, iTablecost, kTablecost⟩⟩,
    Table_may_come := ⟨fTablemay_come, _, fun_mk lTablemay_come cTablemay_come kTablemay_come, (fun_mk (st := (inClass (topS 42) 3)) lTablemay_come cTablemay_come kTablemay_come).binds (fun _ _ _ _ _ _ us hl => match us, hl with | [_, _, _], _ => rfl), ⟨aTablemay_come, iTablemay_come, kTablemay_come⟩⟩,
    Table_best := ⟨fTablebest, _, fun_mk lTablebest cTablebest kTablebest, (fun_mk (st := (inClass (topS 42) 4)) lTablebest cTablebest kTablebest).binds (fun _ _ _ _ _ _ us hl => match us, hl with | [_, _], _ => rfl), ⟨aTablebest, iTablebest, kTablebest⟩⟩,
    Table_found := ⟨fTablefound, _, fun_mk lTablefound cTablefound kTablefound, (fun_mk (st := (inClass (topS 42) 5)) lTablefound cTablefound kTablefound).binds (fun _ _ _ _ _ _ us hl => match us, hl with | [_, _], _ => rfl), ⟨aTablefound, iTablefound, kTablefound⟩⟩,
    Table_first_row := ⟨fTablefirst_row, _, fun_mk lTablefirst_row cTablefirst_row kTablefirst_row, (fun_mk (st := (inClass (topS 42) 6)) lTablefirst_row cTablefirst_row kTablefirst_row).binds (fun _ _ _ _ _ _ us hl => match us, hl with | [_], _ => rfl), ⟨aTablefirst_row, iTablefirst_row, kTablefirst_row⟩⟩ }
  exact ⟨PySem.W.fnOf "law" "law" (defArgs s_law) (defBody s_law) (defScope s_law) .none kV48 dc48 pm48 an48 cd48 ct48, fun s u => .of_eq rfl, fun base _ _ => ok_law T⟩
end K24

set_option maxHeartbeats 2000000
namespace K24
open PySem PySem.Spec PyProof.Rows L2 Pv Fw
open PySem.W (Datum DatumOrd Tup T3 T4)
theorem chk_no {d : D} (h : fs_is_web [d] = .fz (.bl false)) : fs_checked [d] = .exc .noWeb := by simp [fs_checked, fsOf, sem_checked, initE, h]
section
variable {d : D} (hb : fs_checked [d] = .exc .noWeb)
include hb
theorem no_turned_about : fs_turned_about [d] = .exc .noWeb := by simp [fs_turned_about, fsOf, sem_turned_about, initE, hb]
theorem no_ring : fs_ring [d] = .exc .noWeb := by simp [fs_ring, fsOf, sem_ring, initE, hb]
theorem no_rings : fs_rings [d] = .exc .noWeb := by simp [fs_rings, fsOf, sem_rings, initE, hb]
theorem no_least : fs_least [d] = .exc .noWeb := by simp [fs_least, fsOf, sem_least, initE, hb]
theorem no_count_best : fs_count_best [d] = .exc .noWeb := by simp [fs_count_best, fsOf, sem_count_best, initE, hb]
theorem no_sure : fs_sure [d] = .exc .noWeb := by simp [fs_sure, fsOf, sem_sure, initE, hb]
theorem no_parts : fs_parts [d] = .exc .noWeb := by simp [fs_parts, fsOf, sem_parts, initE, hb]
theorem no_whole_shares : fs_whole_shares [d] = .exc .noWeb := by simp [fs_whole_shares, fsOf, sem_whole_shares, initE, hb]
theorem no_greatest : fs_greatest [d] = .exc .noWeb := by simp [fs_greatest, fsOf, sem_greatest, initE, hb]
theorem no_paper : fs_paper [d] = .exc .noWeb := by simp [fs_paper, fsOf, sem_paper, initE, hb]
theorem no_shown : fs_shown [d] = .exc .noWeb := by simp [fs_shown, fsOf, sem_shown, initE, hb]
theorem no_is_free : fs_is_free [d] = .exc .noWeb := by
  have h := no_ring hb
  simp [fs_is_free, fsOf, sem_is_free, initE, h]
theorem no_need_row (e : D) : fs_need_row [d, e] = .exc .noWeb := by simp [fs_need_row, fsOf, sem_need_row, initE, hb]
theorem no_turned (e : D) : fs_turned [d, e] = .exc .noWeb := by
  have h := no_need_row hb e
  simp [fs_turned, fsOf, sem_turned, initE, h]
theorem no_weight (e : D) : fs_weight [d, e] = .exc .noWeb := by
  have h := no_need_row hb e
  simp [fs_weight, fsOf, sem_weight, initE, h]
theorem no_is_settled (e : D) : fs_is_settled [d, e] = .exc .noWeb := by
  have h := no_need_row hb e
  simp [fs_is_settled, fsOf, sem_is_settled, initE, h]
theorem no_better (e : D) : fs_better [d, e] = .exc .noWeb := by
  have h := no_need_row hb e
  simp [fs_better, fsOf, sem_better, initE, h]
theorem no_part_web (e : D) : fs_part_web [d, e] = .exc .noWeb := by simp [fs_part_web, fsOf, sem_part_web, initE, hb]
theorem no_fit (e : D) : fs_fit [d, e] = .exc .noWeb := by simp [fs_fit, fsOf, sem_fit, initE, hb]
theorem no_are_parts (e f : D) : fs_are_parts [d, e, f] = .exc .noWeb := by simp [fs_are_parts, fsOf, sem_are_parts, initE, hb]
theorem no_shows (e f : D) : fs_shows [d, e, f] = .exc .noWeb := by simp [fs_shows, fsOf, sem_shows, initE, hb]
theorem no_moved (e f g : D) : fs_moved [d, e, f, g] = .exc .noWeb := by
  have h := no_need_row hb e
  simp [fs_moved, fsOf, sem_moved, initE, h]
theorem no_with_arrow (e f g : D) : fs_with_arrow [d, e, f, g] = .exc .noWeb := by simp [fs_with_arrow, fsOf, sem_with_arrow, initE, hb]
theorem no_joined1 (e : D) : fs_joined [d, e] = .exc .noWeb := by simp [fs_joined, fsOf, sem_joined, initE, hb]
theorem no_joined2 {g : D} (hg : fs_checked [g] = .fz g) : fs_joined [g, d] = .exc .noWeb := by simp [fs_joined, fsOf, sem_joined, initE, hb, hg]
theorem tb_with_web_1 (fa : FAs) {f : Addr} (hf : f = fa.checked ∨ f = fa.turned_about ∨ f = fa.ring ∨ f = fa.rings ∨ f = fa.is_free ∨ f = fa.least ∨ f = fa.count_best ∨ f = fa.sure ∨ f = fa.parts ∨ f = fa.whole_shares ∨ f = fa.greatest ∨ f = fa.paper ∨ f = fa.shown) : ∃ fs, tb_L_with_web_1 fa f = some fs ∧ fs [d] = .exc .noWeb := by
  unfold tb_L_with_web_1
  by_cases h : f = fa.checked
  · exact ⟨_, if_pos h, hb⟩
  rw [if_neg h]
  have hf := hf.resolve_left h
  clear h
  by_cases h : f = fa.turned_about
  · exact ⟨_, if_pos h, no_turned_about hb⟩
  rw [if_neg h]
  have hf := hf.resolve_left h
  clear h
  by_cases h : f = fa.ring
  · exact ⟨_, if_pos h, no_ring hb⟩
  rw [if_neg h]
  have hf := hf.resolve_left h
  clear h
  by_cases h : f = fa.rings
  · exact ⟨_, if_pos h, no_rings hb⟩
  rw [if_neg h]
  have hf := hf.resolve_left h
  clear h
  by_cases h : f = fa.is_free
  · exact ⟨_, if_pos h, no_is_free hb⟩
  rw [if_neg h]
  have hf := hf.resolve_left h
  clear h
  by_cases h : f = fa.least
  · exact ⟨_, if_pos h, no_least hb⟩
  rw [if_neg h]
  have hf := hf.resolve_left h
  clear h
  by_cases h : f = fa.count_best
  · exact ⟨_, if_pos h, no_count_best hb⟩
  rw [if_neg h]
  have hf := hf.resolve_left h
  clear h
  by_cases h : f = fa.sure
  · exact ⟨_, if_pos h, no_sure hb⟩
  rw [if_neg h]
  have hf := hf.resolve_left h
  clear h
  by_cases h : f = fa.parts
  · exact ⟨_, if_pos h, no_parts hb⟩
  rw [if_neg h]
  have hf := hf.resolve_left h
  clear h
  by_cases h : f = fa.whole_shares
  · exact ⟨_, if_pos h, no_whole_shares hb⟩
  rw [if_neg h]
  have hf := hf.resolve_left h
  clear h
  by_cases h : f = fa.greatest
  · exact ⟨_, if_pos h, no_greatest hb⟩
  rw [if_neg h]
  have hf := hf.resolve_left h
  clear h
  by_cases h : f = fa.paper
  · exact ⟨_, if_pos h, no_paper hb⟩
  rw [if_neg h]
  have hf := hf.resolve_left h
  clear h
  exact ⟨_, if_pos hf, no_shown hb⟩

theorem tb_with_web_2 (fa : FAs) {f : Addr} (hf : f = fa.turned ∨ f = fa.weight ∨ f = fa.part_web ∨ f = fa.fit ∨ f = fa.is_settled ∨ f = fa.better) : ∃ fs, tb_L_with_web_2 fa f = some fs ∧ fs [d, .non] = .exc .noWeb := by
  unfold tb_L_with_web_2
  by_cases h : f = fa.turned
  · exact ⟨_, if_pos h, no_turned hb _⟩
  rw [if_neg h]
  have hf := hf.resolve_left h
  clear h
  by_cases h : f = fa.weight
  · exact ⟨_, if_pos h, no_weight hb _⟩
  rw [if_neg h]
  have hf := hf.resolve_left h
  clear h
  by_cases h : f = fa.part_web
  · exact ⟨_, if_pos h, no_part_web hb _⟩
  rw [if_neg h]
  have hf := hf.resolve_left h
  clear h
  by_cases h : f = fa.fit
  · exact ⟨_, if_pos h, no_fit hb _⟩
  rw [if_neg h]
  have hf := hf.resolve_left h
  clear h
  by_cases h : f = fa.is_settled
  · exact ⟨_, if_pos h, no_is_settled hb _⟩
  rw [if_neg h]
  have hf := hf.resolve_left h
  clear h
  exact ⟨_, if_pos hf, no_better hb _⟩

theorem tb_with_web_3 (fa : FAs) {f : Addr} (hf : f = fa.are_parts ∨ f = fa.shows) : ∃ fs, tb_L_with_web_3 fa f = some fs ∧ fs [d, .non, .non] = .exc .noWeb := by
  unfold tb_L_with_web_3
  by_cases h : f = fa.are_parts
  · exact ⟨_, if_pos h, no_are_parts hb _ _⟩
  rw [if_neg h]
  have hf := hf.resolve_left h
  clear h
  exact ⟨_, if_pos hf, no_shows hb _ _⟩

theorem tb_with_web_4 (fa : FAs) {f : Addr} (hf : f = fa.moved ∨ f = fa.with_arrow) : ∃ fs, tb_L_with_web_4 fa f = some fs ∧ fs [d, .non, .non, .non] = .exc .noWeb := by
  unfold tb_L_with_web_4
  by_cases h : f = fa.moved
  · exact ⟨_, if_pos h, no_moved hb _ _ _⟩
  rw [if_neg h]
  have hf := hf.resolve_left h
  clear h
  exact ⟨_, if_pos hf, no_with_arrow hb _ _ _⟩

omit hb in
theorem pick1 (fa : FAs) {k : Nat} (h : k < 13) : ∃ f, (f = fa.checked ∨ f = fa.turned_about ∨ f = fa.ring ∨ f = fa.rings ∨ f = fa.is_free ∨ f = fa.least ∨ f = fa.count_best ∨ f = fa.sure ∨ f = fa.parts ∨ f = fa.whole_shares ∨ f = fa.greatest ∨ f = fa.paper ∨ f = fa.shown) ∧ atI [D.adr fa.checked, D.adr fa.turned_about, D.adr fa.ring, D.adr fa.rings, D.adr fa.is_free, D.adr fa.least, D.adr fa.count_best, D.adr fa.sure, D.adr fa.parts, D.adr fa.whole_shares, D.adr fa.greatest, D.adr fa.paper, D.adr fa.shown] (k : Int) = some (.adr f) := by
  rcases (by omega : k = 0 ∨ k = 1 ∨ k = 2 ∨ k = 3 ∨ k = 4 ∨ k = 5 ∨ k = 6 ∨ k = 7 ∨ k = 8 ∨ k = 9 ∨ k = 10 ∨ k = 11 ∨ k = 12) with rfl | rfl | rfl | rfl | rfl | rfl | rfl | rfl | rfl | rfl | rfl | rfl | rfl
  · exact ⟨_, .inl rfl, rfl⟩
  · exact ⟨_, .inr (.inl rfl), rfl⟩
  · exact ⟨_, .inr (.inr (.inl rfl)), rfl⟩
  · exact ⟨_, .inr (.inr (.inr (.inl rfl))), rfl⟩
  · exact ⟨_, .inr (.inr (.inr (.inr (.inl rfl)))), rfl⟩
  · exact ⟨_, .inr (.inr (.inr (.inr (.inr (.inl rfl))))), rfl⟩
  · exact ⟨_, .inr (.inr (.inr (.inr (.inr (.inr (.inl rfl)))))), rfl⟩
  · exact ⟨_, .inr (.inr (.inr (.inr (.inr (.inr (.inr (.inl rfl))))))), rfl⟩
  · exact ⟨_, .inr (.inr (.inr (.inr (.inr (.inr (.inr (.inr (.inl rfl)))))))), rfl⟩
  · exact ⟨_, .inr (.inr (.inr (.inr (.inr (.inr (.inr (.inr (.inr (.inl rfl))))))))), rfl⟩
  · exact ⟨_, .inr (.inr (.inr (.inr (.inr (.inr (.inr (.inr (.inr (.inr (.inl rfl)))))))))), rfl⟩
  · exact ⟨_, .inr (.inr (.inr (.inr (.inr (.inr (.inr (.inr (.inr (.inr (.inr (.inl rfl))))))))))), rfl⟩
  · exact ⟨_, .inr (.inr (.inr (.inr (.inr (.inr (.inr (.inr (.inr (.inr (.inr (.inr (rfl)))))))))))), rfl⟩

omit hb in
theorem pick2 (fa : FAs) {k : Nat} (h : k < 6) : ∃ f, (f = fa.turned ∨ f = fa.weight ∨ f = fa.part_web ∨ f = fa.fit ∨ f = fa.is_settled ∨ f = fa.better) ∧ atI [D.adr fa.turned, D.adr fa.weight, D.adr fa.part_web, D.adr fa.fit, D.adr fa.is_settled, D.adr fa.better] (k : Int) = some (.adr f) := by
  rcases (by omega : k = 0 ∨ k = 1 ∨ k = 2 ∨ k = 3 ∨ k = 4 ∨ k = 5) with rfl | rfl | rfl | rfl | rfl | rfl
  · exact ⟨_, .inl rfl, rfl⟩
  · exact ⟨_, .inr (.inl rfl), rfl⟩
  · exact ⟨_, .inr (.inr (.inl rfl)), rfl⟩
  · exact ⟨_, .inr (.inr (.inr (.inl rfl))), rfl⟩
  · exact ⟨_, .inr (.inr (.inr (.inr (.inl rfl)))), rfl⟩
  · exact ⟨_, .inr (.inr (.inr (.inr (.inr (rfl))))), rfl⟩

omit hb in
theorem pick3 (fa : FAs) {k : Nat} (h : k < 2) : ∃ f, (f = fa.are_parts ∨ f = fa.shows) ∧ atI [D.adr fa.are_parts, D.adr fa.shows] (k : Int) = some (.adr f) := by
  rcases (by omega : k = 0 ∨ k = 1) with rfl | rfl
  · exact ⟨_, .inl rfl, rfl⟩
  · exact ⟨_, .inr (rfl), rfl⟩

omit hb in
theorem pick4 (fa : FAs) {k : Nat} (h : k < 2) : ∃ f, (f = fa.moved ∨ f = fa.with_arrow) ∧ atI [D.adr fa.moved, D.adr fa.with_arrow] (k : Int) = some (.adr f) := by
  rcases (by omega : k = 0 ∨ k = 1) with rfl | rfl
  · exact ⟨_, .inl rfl, rfl⟩
  · exact ⟨_, .inr (rfl), rfl⟩

theorem with_web_ok (fa : FAs) {g : D} (hg : fs_checked [g] = .fz g) {k : Nat} (hk : k < 25) : fs_L_with_web fa [.int k, d, g] = .exc .noWeb := by
  have b12 : 12 ≤ big := by decide
  have b13 : 13 ≤ big := by decide
  by_cases h13 : k < 13
  · obtain ⟨f, hf, ef⟩ := pick1 fa h13
    obtain ⟨fs, ht, he⟩ := tb_with_web_1 hb fa hf
    have hd : (k : Int) < 13 := by omega
    simp only [fs_L_with_web, fsOf, sem_L_with_web, initE]
    simp [h13, hd, b12, b13, ef, ht, he, opAdd]
  · have hd : ¬ (k : Int) < 13 := by omega
    by_cases h19 : k < 19
    · obtain ⟨j, rfl⟩ : ∃ j, k = 13 + j := ⟨k - 13, by omega⟩
      obtain ⟨f, hf, ef⟩ := pick2 fa (k := j) (by omega)
      obtain ⟨fs, ht, he⟩ := tb_with_web_2 hb fa hf
      have hd2 : ((13 + j : Nat) : Int) < 19 := by omega
      have hj : ((13 + j : Nat) : Int) - 13 = (j : Int) := by omega
      generalize ((13 + j : Nat) : Int) = K at *
      simp only [fs_L_with_web, fsOf, sem_L_with_web, initE]
      simp [hd, hd2, hj, ef, ht, he]
    · have hd2 : ¬ (k : Int) < 19 := by omega
      by_cases h21 : k < 21
      · obtain ⟨j, rfl⟩ : ∃ j, k = 19 + j := ⟨k - 19, by omega⟩
        obtain ⟨f, hf, ef⟩ := pick3 fa (k := j) (by omega)
        obtain ⟨fs, ht, he⟩ := tb_with_web_3 hb fa hf
        have hd3 : ((19 + j : Nat) : Int) < 21 := by omega
        have hj : ((19 + j : Nat) : Int) - 19 = (j : Int) := by omega
        generalize ((19 + j : Nat) : Int) = K at *
        simp only [fs_L_with_web, fsOf, sem_L_with_web, initE]
        simp [hd, hd2, hd3, hj, ef, ht, he]
      · have hd3 : ¬ (k : Int) < 21 := by omega
        by_cases h23 : k < 23
        · obtain ⟨j, rfl⟩ : ∃ j, k = 21 + j := ⟨k - 21, by omega⟩
          obtain ⟨f, hf, ef⟩ := pick4 fa (k := j) (by omega)
          obtain ⟨fs, ht, he⟩ := tb_with_web_4 hb fa hf
          have hd4 : ((21 + j : Nat) : Int) < 23 := by omega
          have hj : ((21 + j : Nat) : Int) - 21 = (j : Int) := by omega
          generalize ((21 + j : Nat) : Int) = K at *
          simp only [fs_L_with_web, fsOf, sem_L_with_web, initE]
          simp [hd, hd2, hd3, hd4, hj, ef, ht, he]
        · have hd4 : ¬ (k : Int) < 23 := by omega
          have j1 := no_joined1 hb g
          have j2 := no_joined2 hb hg
          rcases (by omega : k = 23 ∨ k = 24) with rfl | rfl
          · simp only [fs_L_with_web, fsOf, sem_L_with_web, initE]
            simp [j2]
          · simp only [fs_L_with_web, fsOf, sem_L_with_web, initE]
            simp [j1]
end
theorem web_no5 : fs_is_web [.int 5] = .fz (.bl false) := rfl
theorem web_non : fs_is_web [.non] = .fz (.bl false) := rfl
theorem web_lst (l : List D) : fs_is_web [.lst l] = .fz (.bl false) := by
  have i1 : fIsi [.lst l, .ty "tuple"] = .fz (.bl false) := rfl
  simp [fs_is_web, fsOf, sem_is_web, initE, i1]
theorem web_0 (b : D) : fs_is_web [.tup [.int 0, b]] = .fz (.bl false) := by
  simp [fs_is_web, fsOf, sem_is_web, initE, isi_tup, fs_between_int]
theorem web_8 (b : D) : fs_is_web [.tup [.int 8, b]] = .fz (.bl false) := by
  simp [fs_is_web, fsOf, sem_is_web, initE, isi_tup, fs_between_int]
theorem web_1 (a : D) : fs_is_web [.tup [a]] = .fz (.bl false) := by
  have ln : fLen [.tup [a]] = .fz (.int 1) := rfl
  have q2 : opNe (.int 1) (.int 2) = some (.bl true) := by rw [opNe_is (is_int 1) (is_int 2) (by decide)]; rfl
  have i1 := isi_tup [a]
  generalize D.tup [a] = W at *
  simp [fs_is_web, fsOf, sem_is_web, initE, i1, ln, q2]
section
variable {n : Nat} {as : List Ar}
theorem nr_isi (hw : WebOk n as) {d : D} (h : fIsi [d, .ty "tuple"] = .fz (.bl false)) : fs_need_row [webD n as, d] = .exc .noRow := by
  have e0 := fs_checked_ok hw
  generalize webD n as = W at *
  simp [fs_need_row, fsOf, sem_need_row, initE, e0, h]
theorem nr_ints (hw : WebOk n as) (l : List Int) (h : l.mergeSort leI ≠ intsN n) : fs_need_row [webD n as, rowD l] = .exc .noRow := by
  have e0 := fs_checked_ok hw
  have c1 : runComp (bN 2) tTrue ce_need_row_1 [2] (l.map .int) [.fz (webD n as), .fz (.ktup (l.map .int)), .un] = some (l.map (fun _ => D.bl true), [.fz (webD n as), .fz (.ktup (l.map .int)), .un]) := by
    rw [runComp_map (enc := fun x : Int => D.int x) (F := fun _ => some (D.bl true))]
    · rw [List.filterMap_eq_map']
    · intro x hx
      refine ⟨_, rfl, .inr ⟨rfl, .bl true, [.fz (webD n as), .fz (.ktup (l.map .int)), .fz (.int x)], ?_, rfl, rfl⟩⟩
      simp [ce_need_row_1, fs_is_whole_int]
  have a1 : fAll [.lst (l.map fun _ => D.bl true)] = .fz (.bl true) := fAll_true (by simp)
  have i1 := isi_ktup (l.map .int)
  have f1 : fList [.ktup (l.map .int)] = .ow (.li (l.map .int)) := rfl
  have f2 := fSorted_ints l
  have q := opNe_is (is_lst (iss_ints (l.mergeSort leI))) (is_lst (iss_ints (intsN n))) (by decide)
  rw [decide_eq_false h] at q
  have ni := nats_intsN n
  have x0 : opIx (webD n as) (.int 0) = some (.int n) := rfl
  have sm : SmallI n := smallI_nat (small_of (by have := hw.n7; omega))
  have q : opNe (.lst ((l.mergeSort leI).map .int)) (.lst ((intsN n).map .int)) = some (.bl true) := q
  show fs_need_row [webD n as, .ktup (l.map .int)] = _
  generalize (l.map fun _ => D.bl true) = BL at *
  generalize (l.mergeSort leI).map D.int = SD at *
  generalize (intsN n).map D.int = ND at *
  generalize l.map D.int = LD at *
  generalize webD n as = W at *
  simp [fs_need_row, fsOf, sem_need_row, initE, e0, i1, c1, a1, f1, f2, x0, sm, ni, q]
end
theorem sort_ne {n : Nat} {l : List Int} (h : ¬ l.Perm (intsN n)) : l.mergeSort leI ≠ intsN n := fun e => h (by
  have := List.mergeSort_perm l leI
  rw [e] at this
  exact this.symm)
def rowsL (n : Nat) (r : List Int) : List D := [.non, .lst (r.map .int), rowD (r ++ r.take 1), rowD (r.drop 1), rowD (r.take (r.length - 1) ++ [(n : Int)]), .str "row"]
theorem rows_bad {n : Nat} {as : List Ar} (hw : WebOk n as) {r : List Int} (hr : RowOk n r) : ∀ d ∈ rowsL n r, fs_need_row [webD n as, d] = .exc .noRow := by
  have hl := hr.len
  have h1 := hw.n1
  intro d hd
  unfold rowsL at hd
  simp only [List.mem_cons, List.not_mem_nil, or_false] at hd
  rcases hd with rfl | rfl | rfl | rfl | rfl | rfl
  · exact nr_isi hw rfl
  · exact nr_isi hw rfl
  · refine nr_ints hw _ (sort_ne fun h => ?_)
    have := h.length_eq
    rw [List.length_append, List.length_take, ints_len] at this
    omega
  · refine nr_ints hw _ (sort_ne fun h => ?_)
    have := h.length_eq
    rw [List.length_drop, ints_len] at this
    omega
  · refine nr_ints hw _ (sort_ne fun h => ?_)
    have := (mem_intsN.mp (h.mem_iff.mp (List.mem_append_right _ List.mem_cons_self))).2
    omega
  · exact nr_isi hw rfl
section
variable {W d : D} (h : fs_need_row [W, d] = .exc .noRow)
include h
theorem nr_turned : fs_turned [W, d] = .exc .noRow := by simp [fs_turned, fsOf, sem_turned, initE, h]
theorem nr_weight : fs_weight [W, d] = .exc .noRow := by simp [fs_weight, fsOf, sem_weight, initE, h]
theorem nr_is_settled : fs_is_settled [W, d] = .exc .noRow := by simp [fs_is_settled, fsOf, sem_is_settled, initE, h]
theorem nr_better : fs_better [W, d] = .exc .noRow := by simp [fs_better, fsOf, sem_better, initE, h]
theorem nr_moved (e f : D) : fs_moved [W, d, e, f] = .exc .noRow := by simp [fs_moved, fsOf, sem_moved, initE, h]
theorem with_row_ok (fa : FAs) {k : Nat} (hk : k < 5) : fs_L_with_row fa [.int k, W, d] = .exc .noRow := by
  have e1 := nr_turned h
  have e2 := nr_weight h
  have e3 := nr_is_settled h
  have e4 := nr_better h
  have e5 := nr_moved h .non .non
  have ht : ∀ f, f = fa.turned ∨ f = fa.weight ∨ f = fa.is_settled ∨ f = fa.better → ∃ fs, tb_L_with_row_1 fa f = some fs ∧ fs [W, d] = .exc .noRow := fun f hf => by
    unfold tb_L_with_row_1
    by_cases h1 : f = fa.turned
    · exact ⟨_, if_pos h1, e1⟩
    rw [if_neg h1]
    by_cases h2 : f = fa.weight
    · exact ⟨_, if_pos h2, e2⟩
    rw [if_neg h2]
    by_cases h3 : f = fa.is_settled
    · exact ⟨_, if_pos h3, e3⟩
    rw [if_neg h3]
    exact ⟨_, if_pos (((hf.resolve_left h1).resolve_left h2).resolve_left h3), e4⟩
  by_cases h4 : k < 4
  · obtain ⟨f, hf, ef⟩ : ∃ f, (f = fa.turned ∨ f = fa.weight ∨ f = fa.is_settled ∨ f = fa.better) ∧ atI [D.adr fa.turned, D.adr fa.weight, D.adr fa.is_settled, D.adr fa.better] (k : Int) = some (.adr f) := by
      rcases (by omega : k = 0 ∨ k = 1 ∨ k = 2 ∨ k = 3) with rfl | rfl | rfl | rfl
      · exact ⟨_, .inl rfl, rfl⟩
      · exact ⟨_, .inr (.inl rfl), rfl⟩
      · exact ⟨_, .inr (.inr (.inl rfl)), rfl⟩
      · exact ⟨_, .inr (.inr (.inr rfl)), rfl⟩
    obtain ⟨fs, t, he⟩ := ht f hf
    have hd : (k : Int) < 4 := by omega
    simp only [fs_L_with_row, fsOf, sem_L_with_row, initE]
    simp [h4, hd, ef, t, he]
  · have hd : ¬ (k : Int) < 4 := by omega
    simp only [fs_L_with_row, fsOf, sem_L_with_row, initE]
    simp [h4, hd, e5]
end
def oddN : List D := [.int (-1), .bl true, .non, .str "0"]
theorem odd_btw {d : D} (hd : d ∈ oddN) (lo hi : Int) (h : 0 ≤ lo) : fs_between [d, .int lo, .int hi] = .fz (.bl false) := by
  unfold oddN at hd
  simp only [List.mem_cons, List.not_mem_nil, or_false] at hd
  rcases hd with rfl | rfl | rfl | rfl
  · rw [fs_between_int, decide_eq_false (by omega)]
  · rfl
  · rfl
  · rfl
section
variable {n : Nat} {as : List Ar} (hw : WebOk n as)
include hw
theorem nn_part_web {d : D} (hd : d ∈ oddN) : fs_part_web [webD n as, d] = .exc .noNumber := by
  have e0 := fs_checked_ok hw
  have e1 := fs_parts_of_ok hw
  have b := odd_btw hd 0 (((partsN n as).map lstI).length - 1) (by omega)
  generalize (partsN n as).map lstI = PL at *
  generalize webD n as = W at *
  simp [fs_part_web, fsOf, sem_part_web, initE, e0, e1, b]
theorem nn_shows {d : D} (hd : d ∈ oddN) : fs_shows [webD n as, d, .non] = .exc .noNumber := by
  have e0 := fs_checked_ok hw
  generalize webD n as = W at *
  unfold oddN at hd
  simp only [List.mem_cons, List.not_mem_nil, or_false] at hd
  have w1 : fs_is_whole [.int (-1)] = .fz (.bl true) := rfl
  have w2 : fs_is_whole [.bl true] = .fz (.bl false) := rfl
  have w3 : fs_is_whole [.non] = .fz (.bl false) := rfl
  have w4 : fs_is_whole [.str "0"] = .fz (.bl false) := rfl
  rcases hd with rfl | rfl | rfl | rfl <;> simp [fs_shows, fsOf, sem_shows, initE, e0, w1, w2, w3, w4]
theorem nn_moved1 {r : List Int} (hr : RowOk n r) {d : D} (hd : d ∈ oddN) (e : D) : fs_moved [webD n as, rowD r, d, e] = .exc .noNumber := by
  have e0 := fs_need_row_ok hw hr
  have x0 : opIx (webD n as) (.int 0) = some (.int n) := rfl
  have b := odd_btw hd 0 ((n : Int) - 1) (by omega)
  generalize webD n as = W at *
  generalize rowD r = RW at *
  simp [fs_moved, fsOf, sem_moved, initE, e0, x0, b]
theorem nn_moved2 {r : List Int} (hr : RowOk n r) {d : D} (hd : d ∈ oddN) : fs_moved [webD n as, rowD r, .int 0, d] = .exc .noNumber := by
  have e0 := fs_need_row_ok hw hr
  have x0 : opIx (webD n as) (.int 0) = some (.int n) := rfl
  have b := odd_btw hd 0 ((n : Int) - 1) (by omega)
  have b0 := fs_between_int 0 0 ((n : Int) - 1)
  rw [decide_eq_true (by have := hw.n1; omega)] at b0
  generalize webD n as = W at *
  generalize rowD r = RW at *
  simp [fs_moved, fsOf, sem_moved, initE, e0, x0, b, b0]
theorem nn_with_arrow {d : D} (hd : d ∈ oddN) : fs_with_arrow [webD n as, d, .non, .non] = .exc .noNumber := by
  have e0 := fs_checked_ok hw
  have x0 : opIx (webD n as) (.int 0) = some (.int n) := rfl
  have b := odd_btw hd 0 ((n : Int) - 1) (by omega)
  generalize webD n as = W at *
  simp [fs_with_arrow, fsOf, sem_with_arrow, initE, e0, x0, b]
end
theorem nn_kept {m : D} (h : fs_between [m, .int 1, .int 12] = .fz (.bl false)) (e : D) : fs_kept [m, e] = .exc .noNumber ∧ fs_row_behind [m, e] = .exc .noNumber := by
  have h1 : fs_all_come [m, e] = .exc .noNumber := by simp [fs_all_come, fsOf, sem_all_come, initE, h]
  exact ⟨by simp [fs_kept, fsOf, sem_kept, initE, h1], by simp [fs_row_behind, fsOf, sem_row_behind, initE, h1]⟩
theorem tb_kept (fa : FAs) {f : Addr} (hf : f = fa.kept ∨ f = fa.row_behind) : (tb_L_with_number_1 fa f = some fs_kept ∨ tb_L_with_number_1 fa f = some fs_row_behind) ∧ (tb_L_asked_1 fa f = some fs_kept ∨ tb_L_asked_1 fa f = some fs_row_behind) := by
  unfold tb_L_with_number_1 tb_L_asked_1
  by_cases h : f = fa.kept
  · exact ⟨.inl (if_pos h), .inl (if_pos h)⟩
  · rw [if_neg h, if_pos (hf.resolve_left h)]
    exact ⟨.inr rfl, .inr rfl⟩
theorem with_number_ok (fa : FAs) {n : Nat} {as : List Ar} (hw : WebOk n as) {r : List Int} (hr : RowOk n r) {d : D} (hd : d ∈ oddN) {k : Nat} (hk : k < 7) : fs_L_with_number fa [.int k, webD n as, rowD r, d] = .exc .noNumber := by
  have e1 := nn_part_web hw hd
  have e2 := nn_shows hw hd
  have e3 := nn_moved1 hw hr hd .non
  have e4 := nn_moved2 hw hr hd
  have e5 := nn_kept (odd_btw hd 1 12 (by omega)) .non
  have e6 := nn_kept (m := .int 13) (by rw [fs_between_int, decide_eq_false (by omega)]) .non
  have e7 := nn_with_arrow hw hd
  have t1 := (tb_kept fa (f := fa.kept) (.inl rfl)).1
  have t2 := (tb_kept fa (f := fa.row_behind) (.inr rfl)).1
  have q : ∀ i j : Int, opEq (.int i) (.int j) = some (.bl (decide (i = j))) := fun i j => opEq_is (is_int i) (is_int j) (by decide)
  generalize webD n as = W at *
  generalize rowD r = RW at *
  rcases (by omega : k = 0 ∨ k = 1 ∨ k = 2 ∨ k = 3 ∨ k = 4 ∨ k = 5 ∨ k = 6) with rfl | rfl | rfl | rfl | rfl | rfl | rfl
  · simp [fs_L_with_number, fsOf, sem_L_with_number, initE, q, e1]
  · simp [fs_L_with_number, fsOf, sem_L_with_number, initE, q, e2]
  · simp [fs_L_with_number, fsOf, sem_L_with_number, initE, q, e3]
  · simp [fs_L_with_number, fsOf, sem_L_with_number, initE, q, e4]
  · rcases t1 with t1 | t1 <;> simp [fs_L_with_number, fsOf, sem_L_with_number, initE, q, t1, e5.1, e5.2]
  · rcases t2 with t2 | t2 <;> simp [fs_L_with_number, fsOf, sem_L_with_number, initE, q, t2, e6.1, e6.2]
  · simp [fs_L_with_number, fsOf, sem_L_with_number, initE, q, e7]
def comeL : List D := [.non, .ktup [.tup [.int 0, .int 1]], .lst [.tup [.int 0, .int 0]], .lst [.tup [.int 0, .int 9]], .lst [.lst [.int 0, .int 1]], .lst (List.replicate 61 [D.tup [.int 0, .int 1]]).flatten, .lst [.tup [.int 0, .bl true]], .lst [.tup [.int 0, .int 1, .int 1]], .lst [.non]]
theorem na_all {x : D} (hx : x ∈ comeL) : fs_all_come [.int 9, x] = .exc .noArrows := by
  unfold comeL at hx
  simp only [List.mem_cons, List.not_mem_nil, or_false] at hx
  rcases hx with rfl | rfl | rfl | rfl | rfl | rfl | rfl | rfl | rfl <;> kernel_rfl
theorem na_kept {x : D} (hx : x ∈ comeL) : fs_kept [.int 9, x] = .exc .noArrows ∧ fs_row_behind [.int 9, x] = .exc .noArrows := by
  have h1 := na_all hx
  exact ⟨by simp [fs_kept, fsOf, sem_kept, initE, h1], by simp [fs_row_behind, fsOf, sem_row_behind, initE, h1]⟩
section
variable {n : Nat} {as : List Ar}
theorem web_more {m : Nat} (hw : WebOk n as) (h : n ≤ m) (h7 : m ≤ 7) : WebOk m as :=
  ⟨by have := hw.n1; omega, h7, fun x hx => by obtain ⟨h1, h2, h3, h4, h5⟩ := hw.ar x hx; exact ⟨h1, by omega, h3, by omega, h5⟩, hw.so, hw.len⟩
theorem tb_greatest (hw : WebOk n as) (h : n ≤ 5) : fs_greatest [.tup [.int 6, .ktup (as.map arD)]] = .exc .tooBig := by
  have e0 := fs_checked_ok (web_more hw (m := 6) (by omega) (by decide))
  have e0 : fs_checked [.tup [.int 6, .ktup (as.map arD)]] = .fz (webD 6 as) := e0
  have x0 : opIx (.tup [.int 6, .ktup (as.map arD)]) (.int 0) = some (.int 6) := rfl
  generalize D.tup [.int 6, .ktup (as.map arD)] = W at *
  simp [fs_greatest, fsOf, sem_greatest, initE, e0, x0]
theorem tb_paper (hw : WebOk n as) (h : n ≤ 5) : fs_paper [.tup [.int 7, .ktup (as.map arD)]] = .exc .tooBig := by
  have e0 := fs_checked_ok (web_more hw (m := 7) (by omega) (by decide))
  have e0 : fs_checked [.tup [.int 7, .ktup (as.map arD)]] = .fz (webD 7 as) := e0
  have x0 : opIx (.tup [.int 7, .ktup (as.map arD)]) (.int 0) = some (.int 7) := rfl
  generalize D.tup [.int 7, .ktup (as.map arD)] = W at *
  simp [fs_paper, fsOf, sem_paper, initE, e0, x0]
theorem tb_joined (hw : WebOk n as) : fs_joined [webD n as, .tup [.int 7, .ktup []]] = .exc .tooBig := by
  have h1 := hw.n1
  have e0 := fs_checked_ok hw
  have e1 := fs_checked_ok (n := 7) (as := []) ⟨by decide, by decide, fun x hx => (nomatch hx), .nil, by decide⟩
  have e1 : fs_checked [.tup [.int 7, .ktup []]] = .fz (webD 7 []) := e1
  have x0 : opIx (webD n as) (.int 0) = some (.int n) := rfl
  have x1 : opIx (.tup [.int 7, .ktup []]) (.int 0) = some (.int 7) := rfl
  have hgt : (7 : Int) < (n : Int) + 7 := by omega
  generalize D.tup [.int 7, .ktup []] = W2 at *
  generalize webD n as = W at *
  simp [fs_joined, fsOf, sem_joined, initE, e0, e1, x0, x1, hgt]
end
def excK : Nat → Exc
  | 0 => .noWeb
  | 1 => .noRow
  | 2 => .noNumber
  | 3 => .noArrows
  | _ => .tooBig
theorem opSl_neg1 {l : List D} : opSl true (.ktup l) none (some (-1)) = some (.ktup (l.take (l.length - 1))) := by
  have e : HT.sIx l.length l.length (some (-1)) = l.length - 1 := by
    show (if (-1 : Int) < 0 then ((-1 : Int) + (l.length : Int)).toNat else min (-1 : Int).toNat l.length) = _
    rw [if_pos (by decide)]
    omega
  unfold opSl
  simp only [lstOf, tupOf]
  rw [HT.sIx_none, e]
  by_cases h : l.length - 1 = l.length
  · rw [if_pos ⟨rfl, h⟩]
    have : l = [] := List.eq_nil_of_length_eq_zero (by omega)
    subst this; rfl
  · rw [if_neg (fun z => h z.2)]
    simp only [if_true, Pv.cutD, HT.sIx_none, e, List.drop_zero, Nat.sub_zero]
theorem asked_ok (fa : FAs) {n : Nat} {as : List Ar} (hw : WebOk n as) (hn : n ≤ 5) {r : List Int} (hr : RowOk n r) {k : Nat} (hk : k < 5) (c : Nat) : fs_L_asked fa [webD n as, rowD r, .int k, .int c] = .exc (excK k) := by
  have hl := hr.len
  have g := fs_checked_ok hw
  have q : ∀ i j : Int, opEq (.int i) (.int j) = some (.bl (decide (i = j))) := fun i j => opEq_is (is_int i) (is_int j) (by decide)
  have dv : (c : Int) / 100 = ((c / 100 : Nat) : Int) := by push_cast; rfl
  have cd : L2.CDivW (c : Int) 100 := ⟨by decide, by decide⟩
  have m25 : ((c / 100 : Nat) : Int) % 25 = ((c / 100 % 25 : Nat) : Int) := by push_cast; rfl
  have m5 : ((c / 100 : Nat) : Int) % 5 = ((c / 100 % 5 : Nat) : Int) := by push_cast; rfl
  have m7 : ((c / 100 : Nat) : Int) % 7 = ((c / 100 % 7 : Nat) : Int) := by push_cast; rfl
  have m2 : ((c / 100 : Nat) : Int) % 2 = ((c / 100 % 2 : Nat) : Int) := by push_cast; rfl
  have m3 : ((c / 100 : Nat) : Int) % 3 = ((c / 100 % 3 : Nat) : Int) := by push_cast; rfl
  have n6 : (c : Int) % 6 = ((c % 6 : Nat) : Int) := by push_cast; rfl
  have n4 : (c : Int) % 4 = ((c % 4 : Nat) : Int) := by push_cast; rfl
  have n9 : (c : Int) % 9 = ((c % 9 : Nat) : Int) := by push_cast; rfl
  have x0 : opIx (webD n as) (.int 0) = some (.int n) := rfl
  have x1 : opIx (webD n as) (.int 1) = some (.ktup (as.map arD)) := rfl
  rcases (by omega : k = 0 ∨ k = 1 ∨ k = 2 ∨ k = 3 ∨ k = 4) with rfl | rfl | rfl | rfl | rfl
  · -- webs
    have f1 : fList [webD n as] = .ow (.li [.int n, .ktup (as.map arD)]) := rfl
    have s1 : opSl false (webD n as) none (some 1) = some (.tup [.int n]) := rfl
    obtain ⟨d, hd, ed⟩ : ∃ d, fs_is_web [d] = .fz (.bl false) ∧ atI [D.non, .lst [.int (n : Nat), .ktup (as.map arD)], .tup [.int (n : Nat)], .tup [.int 0, .ktup []], .int 5, .tup [.int 8, .ktup []]] ((c % 6 : Nat) : Int) = some d := by
      have : c % 6 < 6 := Nat.mod_lt _ (by decide)
      generalize c % 6 = j at this
      rcases (by omega : j = 0 ∨ j = 1 ∨ j = 2 ∨ j = 3 ∨ j = 4 ∨ j = 5) with rfl | rfl | rfl | rfl | rfl | rfl
      · exact ⟨_, web_non, rfl⟩
      · exact ⟨_, web_lst _, rfl⟩
      · exact ⟨_, web_1 _, rfl⟩
      · exact ⟨_, web_0 _, rfl⟩
      · exact ⟨_, web_no5, rfl⟩
      · exact ⟨_, web_8 _, rfl⟩
    have w := with_web_ok (chk_no hd) fa g (k := c / 100 % 25) (Nat.mod_lt _ (by decide))
    generalize as.map arD = AD at *
    generalize webD n as = W at *
    generalize rowD r = RW at *
    generalize c / 100 % 25 = z25 at *
    generalize c / 100 % 7 = z7 at *
    generalize c / 100 % 5 = z5 at *
    generalize c / 100 % 3 = z3 at *
    generalize c / 100 % 2 = z2 at *
    generalize c / 100 = cw at *
    generalize c % 6 = y6 at *
    generalize c % 4 = y4 at *
    generalize c % 9 = y9 at *
    simp only [fs_L_asked, fsOf, sem_L_asked, initE]
    simp [q, cd, dv, m25, n6, f1, s1, ed, w, excK]
  · -- rows
    have f1 : fList [rowD r] = .ow (.li (r.map .int)) := rfl
    have s1 : opSl true (rowD r) none (some 1) = some (rowD (r.take 1)) := by
      have := opSl_take (l := r.map D.int) (p := 1)
      rw [← List.map_take] at this; exact this
    have s2 : opSl true (rowD r) (some 1) none = some (rowD (r.drop 1)) := by
      have := opSl_drop (l := r.map D.int) (p := 1)
      rw [← List.map_drop] at this; exact this
    have s3 : opSl true (rowD r) none (some (-1)) = some (.ktup ((r.take (r.length - 1)).map .int)) := by
      have := opSl_neg1 (l := r.map D.int)
      rw [List.length_map, ← List.map_take] at this; exact this
    have addk : ∀ xs ys : List D, xs.length + ys.length ≤ 100 → opAdd (.ktup xs) (.ktup ys) = some (.ktup (xs ++ ys)) := fun xs ys h => by
      show (if xs.length + ys.length ≤ big then _ else _) = _
      rw [if_pos (by show _ ≤ 16777216; omega)]
    have hlt : (r.take (r.length - 1)).length ≤ 5 := by rw [List.length_take]; omega
    have a1 : opAdd (rowD r) (rowD (r.take 1)) = some (rowD (r ++ r.take 1)) := by
      have := addk (r.map .int) ((r.take 1).map .int) (by rw [List.length_map, List.length_map, List.length_take]; omega)
      rw [← List.map_append] at this; exact this
    have a2 : opAdd (.ktup ((r.take (r.length - 1)).map .int)) (.ktup [.int (n : Nat)]) = some (rowD (r.take (r.length - 1) ++ [(n : Int)])) := by
      rw [addk _ _ (by rw [List.length_map]; simp only [List.length_cons, List.length_nil]; omega)]
      show _ = some (D.ktup ((r.take (r.length - 1) ++ [(n : Int)]).map .int))
      rw [List.map_append]; rfl
    obtain ⟨d, hd, ed⟩ : ∃ d ∈ rowsL n r, atI (rowsL n r) ((c % 6 : Nat) : Int) = some d := by
      have h6 : (rowsL n r).length = 6 := rfl
      have : c % 6 < 6 := Nat.mod_lt _ (by decide)
      exact ⟨(rowsL n r)[c % 6], List.getElem_mem (by omega), atI_nat (List.getElem?_eq_getElem (by omega))⟩
    have w := with_row_ok (rows_bad hw hr d hd) fa (k := c / 100 % 5) (Nat.mod_lt _ (by decide))
    unfold rowsL at ed
    generalize rowD (r.take (r.length - 1) ++ [(n : Int)]) = R3 at *
    generalize rowD (r ++ r.take 1) = R1 at *
    generalize rowD (r.take 1) = R0 at *
    generalize rowD (r.drop 1) = R2 at *
    generalize (r.take (r.length - 1)).map D.int = TK at *
    generalize as.map arD = AD at *
    generalize webD n as = W at *
    generalize rowD r = RW at *
    generalize r.map D.int = RD at *
    generalize c / 100 % 25 = z25 at *
    generalize c / 100 % 7 = z7 at *
    generalize c / 100 % 5 = z5 at *
    generalize c / 100 % 3 = z3 at *
    generalize c / 100 % 2 = z2 at *
    generalize c / 100 = cw at *
    generalize c % 6 = y6 at *
    generalize c % 4 = y4 at *
    generalize c % 9 = y9 at *
    simp only [fs_L_asked, fsOf, sem_L_asked, initE]
    simp [q, cd, dv, m5, n6, f1, s1, s2, s3, a1, a2, x0, ed, w, excK]
  · -- numbers
    obtain ⟨d, hd, ed⟩ : ∃ d ∈ oddN, atI oddN ((c % 4 : Nat) : Int) = some d := by
      have h6 : oddN.length = 4 := rfl
      have : c % 4 < 4 := Nat.mod_lt _ (by decide)
      exact ⟨oddN[c % 4], List.getElem_mem (by omega), atI_nat (List.getElem?_eq_getElem (by omega))⟩
    have w := with_number_ok fa hw hr hd (k := c / 100 % 7) (Nat.mod_lt _ (by decide))
    unfold oddN at ed
    generalize webD n as = W at *
    generalize rowD r = RW at *
    generalize c / 100 % 25 = z25 at *
    generalize c / 100 % 7 = z7 at *
    generalize c / 100 % 5 = z5 at *
    generalize c / 100 % 3 = z3 at *
    generalize c / 100 % 2 = z2 at *
    generalize c / 100 = cw at *
    generalize c % 6 = y6 at *
    generalize c % 4 = y4 at *
    generalize c % 9 = y9 at *
    simp only [fs_L_asked, fsOf, sem_L_asked, initE]
    simp [q, cd, dv, m7, n4, ed, w, excK]
  · -- arrows that come
    obtain ⟨d, hd, ed⟩ : ∃ d ∈ comeL, atI comeL ((c % 9 : Nat) : Int) = some d := by
      have h6 : comeL.length = 9 := rfl
      have : c % 9 < 9 := Nat.mod_lt _ (by decide)
      exact ⟨comeL[c % 9], List.getElem_mem (by omega), atI_nat (List.getElem?_eq_getElem (by omega))⟩
    have w := na_kept hd
    have rp : opRep (.lst [.tup [.int 0, .int 1]]) (.int 61) = some (.lst (List.replicate 61 [D.tup [.int 0, .int 1]]).flatten) := rfl
    have t1 := (tb_kept fa (f := fa.kept) (.inl rfl)).2
    have t2 := (tb_kept fa (f := fa.row_behind) (.inr rfl)).2
    unfold comeL at ed
    generalize (List.replicate 61 [D.tup [.int 0, .int 1]]).flatten = RP at *
    generalize webD n as = W at *
    generalize rowD r = RW at *
    have h2 : c / 100 % 2 < 2 := Nat.mod_lt _ (by decide)
    generalize c / 100 % 25 = z25 at *
    generalize c / 100 % 7 = z7 at *
    generalize c / 100 % 5 = z5 at *
    generalize c / 100 % 3 = z3 at *
    generalize c / 100 % 2 = z2 at *
    generalize c / 100 = cw at *
    generalize c % 6 = y6 at *
    generalize c % 4 = y4 at *
    generalize c % 9 = y9 at *
    generalize z2 = j at *
    rcases (by omega : j = 0 ∨ j = 1) with rfl | rfl
    · rcases t1 with t1 | t1 <;> simp [fs_L_asked, fsOf, sem_L_asked, initE, q, cd, dv, m2, n9, rp, ed, t1, w.1, w.2, excK]
    · rcases t2 with t2 | t2 <;> simp [fs_L_asked, fsOf, sem_L_asked, initE, q, cd, dv, m2, n9, rp, ed, t2, w.1, w.2, excK]
  · -- too great
    have g1 := tb_greatest hw hn
    have g2 := tb_paper hw hn
    have g3 := tb_joined hw
    generalize as.map arD = AD at *
    generalize webD n as = W at *
    generalize rowD r = RW at *
    have h3 : c / 100 % 3 < 3 := Nat.mod_lt _ (by decide)
    generalize c / 100 % 25 = z25 at *
    generalize c / 100 % 7 = z7 at *
    generalize c / 100 % 5 = z5 at *
    generalize c / 100 % 3 = z3 at *
    generalize c / 100 % 2 = z2 at *
    generalize c / 100 = cw at *
    generalize c % 6 = y6 at *
    generalize c % 4 = y4 at *
    generalize c % 9 = y9 at *
    generalize z3 = j at *
    rcases (by omega : j = 0 ∨ j = 1 ∨ j = 2) with rfl | rfl | rfl <;> simp [fs_L_asked, fsOf, sem_L_asked, initE, q, cd, dv, m3, x1, g1, g2, g3, excK]
theorem law_math (s : List Int) (_ : s.length ≤ 63) (fa : FAs) : fs_law fa [.klst (s.map .int)] = .fz (.bl true) := by
  obtain ⟨n, as, e1, hw, hn5⟩ := fs_L_web_eq s 12 5 (by decide) (by decide)
  have e1 : fs_L_web [.klst (s.map .int), .int 12, .int 5] = _ := e1
  obtain ⟨r, e2, hr⟩ := fs_L_row_eq s 4 n (by omega)
  have e2 : fs_L_row [.klst (s.map .int), .int 4, .int (n : Nat)] = _ := e2
  have hx0 : opIx (webD n as) (.int 0) = some (.int n) := rfl
  have e3 := fs_L_mixed_eq s 0 5 (by decide)
  have e3 : fs_L_mixed [.klst (s.map .int), .int 0, .int 5] = _ := e3
  have l3 := mixed_lt (s := s) (k := 0) (m := 5) (by decide)
  have e4 := fs_L_mixed_eq s 1 1000000 (by decide)
  have e4 : fs_L_mixed [.klst (s.map .int), .int 1, .int 1000000] = _ := e4
  have pw : opPow (.int 10) (.int 6) = some (.int 1000000) := rfl
  generalize mixed s 0 5 = k at *
  generalize mixed s 1 1000000 = c at *
  have as_ := asked_ok fa hw hn5 hr l3 c
  generalize webD n as = W at *
  generalize rowD r = RW at *
  generalize s.map D.int = S at *
  have h1 : sDrop (eCall (fs_L_asked fa) (aCons (eVar 1) (aCons (eVar 2) (aCons (eVar 3) (aCons (eCall fs_L_mixed (aCons (eVar 0) (aCons (eC (.int 1)) (aCons (eBin opPow (eC (.int 10)) (eC (.int 6))) aNil)))) aNil))))) [.fz (.klst S), .fz W, .fz RW, .fz (.int (k : Nat)), .un, .un] = .exc (excK k) [.fz (.klst S), .fz W, .fz RW, .fz (.int (k : Nat)), .un, .un] := by simp [pw, e4, as_]
  have hc : cl_law_0 (excK k) = some true := by
    rcases (by omega : k = 0 ∨ k = 1 ∨ k = 2 ∨ k = 3 ∨ k = 4) with rfl | rfl | rfl | rfl | rfl <;> rfl
  have h6 : 6 ≤ big := by decide
  have hs : ∃ ρ, su_law_0 0 (excK k) [.fz (.klst S), .fz W, .fz RW, .fz (.int (k : Nat)), .fz (.adr 0), .un] = .ret (.fz (.bl true)) ρ := by
    have q : ∀ i j : Int, opEq (.int i) (.int j) = some (.bl (decide (i = j))) := fun i j => opEq_is (is_int i) (is_int j) (by decide)
    rcases (by omega : k = 0 ∨ k = 1 ∨ k = 2 ∨ k = 3 ∨ k = 4) with rfl | rfl | rfl | rfl | rfl <;> simp [excK, su_law_0, eIsX, h6, cnt0, cnt1, cnt2, cnt3, cnt4, idx0, idx1, idx2, idx3, idx4, q]
  obtain ⟨ρ, hs⟩ := hs
  have h2 : ∃ ρ', sTry 4 cl_law_0 (sDrop (eCall (fs_L_asked fa) (aCons (eVar 1) (aCons (eVar 2) (aCons (eVar 3) (aCons (eCall fs_L_mixed (aCons (eVar 0) (aCons (eC (.int 1)) (aCons (eBin opPow (eC (.int 10)) (eC (.int 6))) aNil)))) aNil)))))) (su_law_0 0) [.fz (.klst S), .fz W, .fz RW, .fz (.int (k : Nat)), .un, .un] = .ret (.fz (.bl true)) ρ' := by
    unfold sTry
    rw [h1]
    dsimp only
    rw [hc]
    dsimp only [List.set]
    rw [hs]
    exact ⟨_, rfl⟩
  obtain ⟨ρ', h2⟩ := h2
  simp only [fs_law, fsOf, sem_law, initE]
  simp [e1, hx0, e2, e3, h2]

end K24
set_option maxHeartbeats 0
open PySem PySem.W PyProof.Rows
theorem PySem.Challenge.cw_fewturned_k24_refused_holds : PySem.Challenge.rw_fewturned_k24_refused.Holds := by
  w_on; o_law; k_head; (case hw => w_witness2)
  k_fill
  refine L2.walk_of (l := PySem.Challenge.rw_fewturned_k24_refused) (n := 63) (k := 27) (x := "_law_script") (CX := fun _ => L2.CX0) (sp := fun w => K24.spL _) rfl (by decide) rfl ⟨rfl, by decide, by decide⟩ (fun w h Y => PySem.W.kIn_of Y) ?F (fun _ H a ns hl _ hS => ⟨H, [.klst (ns.map .int)], fun _ _ e => e, .cons (.klst hS (by rw [List.length_map]; exact Nat.le_trans hl (by decide)) (Pv.Reps.ints ns)) .nil, rfl, K24.law_math ns hl, fun _ => rfl⟩) (fun _ _ _ _ _ h => h)
  case F =>
    intro w mg fa h KX G hmg
    refine' K24.all_mk KX G hmg ?a0 ?l0 ?c0 ?k0 ?a1 ?l1 ?c1 ?k1 ?a2 ?l2 ?c2 ?k2 ?a3 ?l3 ?c3 ?k3 ?a4 ?l4 ?c4 ?k4 ?a5 ?l5 ?c5 ?k5 ?a6 ?l6 ?c6 ?k6 ?a7 ?l7 ?c7 ?k7 ?a8 ?l8 ?c8 ?k8 ?a9 ?l9 ?c9 ?k9 ?a10 ?l10 ?c10 ?k10 ?a11 ?l11 ?c11 ?k11 ?a12 ?l12 ?c12 ?k12 ?a13 ?l13 ?c13 ?k13 ?a14 ?l14 ?c14 ?k14 ?a15 ?l15 ?c15 ?k15 ?a16 ?l16 ?c16 ?k16 ?a17 ?l17 ?c17 ?k17 ?a18 ?l18 ?c18 ?k18 ?a19 ?l19 ?c19 ?k19 ?a20 ?l20 ?c20 ?k20 ?a21 ?l21 ?c21 ?k21 ?a22 ?l22 ?c22 ?k22 ?a23 ?l23 ?c23 ?k23 ?a24 ?l24 ?c24 ?k24 ?a25 ?l25 ?c25 ?k25 ?a26 ?l26 ?c26 ?k26 ?a27 ?l27 ?c27 ?k27 ?a28 ?l28 ?c28 ?k28 ?a29 ?l29 ?c29 ?k29 ?a30 ?l30 ?c30 ?k30 ?a31 ?l31 ?c31 ?k31 ?a32 ?l32 ?c32 ?k32 ?a33 ?l33 ?c33 ?k33 ?a34 ?l34 ?c34 ?k34 ?a35 ?l35 ?c35 ?k35 ?a36 ?l36 ?c36 ?k36 ?a37 ?l37 ?c37 ?k37 ?a38 ?l38 ?c38 ?k38 ?a39 ?l39 ?c39 ?k39 ?a40 ?l40 ?c40 ?k40 ?a41 ?l41 ?c41 ?k41 ?a42 ?l42 ?c42 ?k42 ?a43 ?l43 ?c43 ?k43 ?a44 ?l44 ?c44 ?k44 ?a45 ?l45 ?c45 ?k45 ?a46 ?l46 ?c46 ?k46 ?a47 ?l47 ?c47 ?k47 ?a48 ?l48 ?c48 ?k48 ?gTurnError ?kTurnError ?qTurnError ?eTurnError ?tTurnError ?gNoWeb ?kNoWeb ?qNoWeb ?eNoWeb ?tNoWeb ?gNoRow ?kNoRow ?qNoRow ?eNoRow ?tNoRow ?gNoNumber ?kNoNumber ?qNoNumber ?eNoNumber ?tNoNumber ?gNoArrows ?kNoArrows ?qNoArrows ?eNoArrows ?tNoArrows ?gTooBig ?kTooBig ?qTooBig ?eTooBig ?tTooBig ?gNoText ?kNoText ?qNoText ?eNoText ?tNoText ?hgNoArrows ?hkNoArrows ?hdNoArrows ?haNoArrows ?hnNoArrows ?htNoArrows ?hmNoArrows ?hgNoNumber ?hkNoNumber ?hdNoNumber ?haNoNumber ?hnNoNumber ?htNoNumber ?hmNoNumber ?hgNoRow ?hkNoRow ?hdNoRow ?haNoRow ?hnNoRow ?htNoRow ?hmNoRow ?hgNoText ?hkNoText ?hdNoText ?haNoText ?hnNoText ?htNoText ?hmNoText ?hgNoWeb ?hkNoWeb ?hdNoWeb ?haNoWeb ?hnNoWeb ?htNoWeb ?hmNoWeb ?hgTooBig ?hkTooBig ?hdTooBig ?haTooBig ?hnTooBig ?htTooBig ?hmTooBig ?kxNoArrowsNoArrows ?kxNoArrowsNoNumber ?kxNoArrowsNoRow ?kxNoArrowsNoText ?kxNoArrowsNoWeb ?kxNoArrowsTooBig ?kxNoArrowsValueError ?kxNoNumberNoArrows ?kxNoNumberNoNumber ?kxNoNumberNoRow ?kxNoNumberNoText ?kxNoNumberNoWeb ?kxNoNumberTooBig ?kxNoNumberValueError ?kxNoRowNoArrows ?kxNoRowNoNumber ?kxNoRowNoRow ?kxNoRowNoText ?kxNoRowNoWeb ?kxNoRowTooBig ?kxNoRowValueError ?kxNoTextNoArrows ?kxNoTextNoNumber ?kxNoTextNoRow ?kxNoTextNoText ?kxNoTextNoWeb ?kxNoTextTooBig ?kxNoTextValueError ?kxNoWebNoArrows ?kxNoWebNoNumber ?kxNoWebNoRow ?kxNoWebNoText ?kxNoWebNoWeb ?kxNoWebTooBig ?kxNoWebValueError ?kxTooBigNoArrows ?kxTooBigNoNumber ?kxTooBigNoRow ?kxTooBigNoText ?kxTooBigNoWeb ?kxTooBigTooBig ?kxTooBigValueError ?xmNoArrowsTurnError ?xmNoNumberTurnError ?xmNoRowTurnError ?xmNoTextTurnError ?xmNoWebTurnError ?xmTooBigTurnError ?zValueError ?zall ?zbool ?zdict ?zint ?zisinstance ?zlen ?zlist ?zmin ?zrange ?zsorted ?zsum ?ztuple ?vTHINGS_webs ?vWEIGHT ?vPOWERS ?lPOWERS ?vNONE ?lNONE ?vWHOLE ?lWHOLE ?vTHINGS_kept ?gTable ?pgTable ?hdTable ?poTable ?saTable ?mkTable ?kcTable ?naTablemany ?naTableweights ?naTablekept ?naTableknown ?aTableinit ?iTableinit ?lTableinit ?cTableinit ?kTableinit ?aTablestands ?iTablestands ?lTablestands ?cTablestands ?kTablestands ?aTablecost ?iTablecost ?lTablecost ?cTablecost ?kTablecost ?aTablemay_come ?iTablemay_come ?lTablemay_come ?cTablemay_come ?kTablemay_come ?aTablebest ?iTablebest ?lTablebest ?cTablebest ?kTablebest ?aTablefound ?iTablefound ?lTablefound ?cTablefound ?kTablefound ?aTablefirst_row ?iTablefirst_row ?lTablefirst_row ?cTablefirst_row ?kTablefirst_row
    (case a0 => k_is); (case l0 => k_is); (case c0 => k_is); (case k0 => k_is); (case a1 => k_is); (case l1 => k_is)
    (case c1 => k_is); (case k1 => k_is); (case a2 => k_is); (case l2 => k_is); (case c2 => k_is); (case k2 => k_is)
    (case a3 => k_is); (case l3 => k_is); (case c3 => k_is); (case k3 => k_is); (case a4 => k_is); (case l4 => k_is)
    (case c4 => k_is); (case k4 => k_is); (case a5 => k_is); (case l5 => k_is); (case c5 => k_is); (case k5 => k_is)
    (case a6 => k_is); (case l6 => k_is); (case c6 => k_is); (case k6 => k_is); (case a7 => k_is); (case l7 => k_is)
    (case c7 => k_is); (case k7 => k_is); (case a8 => k_is); (case l8 => k_is); (case c8 => k_is); (case k8 => k_is)
    (case a9 => k_is); (case l9 => k_is); (case c9 => k_is); (case k9 => k_is); (case a10 => k_is); (case l10 => k_is)
    (case c10 => k_is); (case k10 => k_is); (case a11 => k_is); (case l11 => k_is); (case c11 => k_is); (case k11 => k_is)
    (case a12 => k_is); (case l12 => k_is); (case c12 => k_is); (case k12 => k_is); (case a13 => k_is); (case l13 => k_is)
    (case c13 => k_is); (case k13 => k_is); (case a14 => k_is); (case l14 => k_is); (case c14 => k_is); (case k14 => k_is)
    (case a15 => k_is); (case l15 => k_is); (case c15 => k_is); (case k15 => k_is); (case a16 => k_is); (case l16 => k_is)
    (case c16 => k_is); (case k16 => k_is); (case a17 => k_is); (case l17 => k_is); (case c17 => k_is); (case k17 => k_is)
    (case a18 => k_is); (case l18 => k_is); (case c18 => k_is); (case k18 => k_is); (case a19 => k_is); (case l19 => k_is)
    (case c19 => k_is); (case k19 => k_is); (case a20 => k_is); (case l20 => k_is); (case c20 => k_is); (case k20 => k_is)
    (case a21 => k_is); (case l21 => k_is); (case c21 => k_is); (case k21 => k_is); (case a22 => k_is); (case l22 => k_is)
    (case c22 => k_is); (case k22 => k_is); (case a23 => k_is); (case l23 => k_is); (case c23 => k_is); (case k23 => k_is)
    (case a24 => k_is); (case l24 => k_is); (case c24 => k_is); (case k24 => k_is); (case a25 => k_is); (case l25 => k_is)
    (case c25 => k_is); (case k25 => k_is); (case a26 => k_is); (case l26 => k_is); (case c26 => k_is); (case k26 => k_is)
    (case a27 => k_is); (case l27 => k_is); (case c27 => k_is); (case k27 => k_is); (case a28 => k_is); (case l28 => k_is)
    (case c28 => k_is); (case k28 => k_is); (case a29 => k_is); (case l29 => k_is); (case c29 => k_is); (case k29 => k_is)
    (case a30 => k_is); (case l30 => k_is); (case c30 => k_is); (case k30 => k_is); (case a31 => k_is); (case l31 => k_is)
    (case c31 => k_is); (case k31 => k_is); (case a32 => k_is); (case l32 => k_is); (case c32 => k_is); (case k32 => k_is)
    (case a33 => k_is); (case l33 => k_is); (case c33 => k_is); (case k33 => k_is); (case a34 => k_is); (case l34 => k_is)
    (case c34 => k_is); (case k34 => k_is); (case a35 => k_is); (case l35 => k_is); (case c35 => k_is); (case k35 => k_is)
    (case a36 => k_is); (case l36 => k_is); (case c36 => k_is); (case k36 => k_is); (case a37 => k_is); (case l37 => k_is)
    (case c37 => k_is); (case k37 => k_is); (case a38 => k_is); (case l38 => k_is); (case c38 => k_is); (case k38 => k_is)
    (case a39 => k_is); (case l39 => k_is); (case c39 => k_is); (case k39 => k_is); (case a40 => k_is); (case l40 => k_is)
    (case c40 => k_is); (case k40 => k_is); (case a41 => k_is); (case l41 => k_is); (case c41 => k_is); (case k41 => k_is)
    (case a42 => k_is); (case l42 => k_is); (case c42 => k_is); (case k42 => k_is); (case a43 => k_is); (case l43 => k_is)
    (case c43 => k_is); (case k43 => k_is); (case a44 => k_is); (case l44 => k_is); (case c44 => k_is); (case k44 => k_is)
    (case a45 => k_is); (case l45 => k_is); (case c45 => k_is); (case k45 => k_is); (case a46 => k_is); (case l46 => k_is)
    (case c46 => k_is); (case k46 => k_is); (case a47 => k_is); (case l47 => k_is); (case c47 => k_is); (case k47 => k_is)
    (case a48 => k_is); (case l48 => k_is); (case c48 => k_is); (case k48 => k_is); (case gTurnError => k_is); (case kTurnError => k_is)
    (case qTurnError => k_exc); (case eTurnError => k_is); (case tTurnError => k_is); (case gNoWeb => k_is); (case kNoWeb => k_is); (case qNoWeb => k_exc)
    (case eNoWeb => k_is); (case tNoWeb => k_is); (case gNoRow => k_is); (case kNoRow => k_is); (case qNoRow => k_exc); (case eNoRow => k_is)
    (case tNoRow => k_is); (case gNoNumber => k_is); (case kNoNumber => k_is); (case qNoNumber => k_exc); (case eNoNumber => k_is); (case tNoNumber => k_is)
    (case gNoArrows => k_is); (case kNoArrows => k_is); (case qNoArrows => k_exc); (case eNoArrows => k_is); (case tNoArrows => k_is); (case gTooBig => k_is)
    (case kTooBig => k_is); (case qTooBig => k_exc); (case eTooBig => k_is); (case tTooBig => k_is); (case gNoText => k_is); (case kNoText => k_is)
    (case qNoText => k_exc); (case eNoText => k_is); (case tNoText => k_is); (case hgNoArrows => k_is); (case hkNoArrows => k_is); (case hdNoArrows => k_is)
    (case haNoArrows => k_is); (case hnNoArrows => k_is); (case htNoArrows => k_is); (case hmNoArrows => k_is); (case hgNoNumber => k_is); (case hkNoNumber => k_is)
    (case hdNoNumber => k_is); (case haNoNumber => k_is); (case hnNoNumber => k_is); (case htNoNumber => k_is); (case hmNoNumber => k_is); (case hgNoRow => k_is)
    (case hkNoRow => k_is); (case hdNoRow => k_is); (case haNoRow => k_is); (case hnNoRow => k_is); (case htNoRow => k_is); (case hmNoRow => k_is)
    (case hgNoText => k_is); (case hkNoText => k_is); (case hdNoText => k_is); (case haNoText => k_is); (case hnNoText => k_is); (case htNoText => k_is)
    (case hmNoText => k_is); (case hgNoWeb => k_is); (case hkNoWeb => k_is); (case hdNoWeb => k_is); (case haNoWeb => k_is); (case hnNoWeb => k_is)
    (case htNoWeb => k_is); (case hmNoWeb => k_is); (case hgTooBig => k_is); (case hkTooBig => k_is); (case hdTooBig => k_is); (case haTooBig => k_is)
    (case hnTooBig => k_is); (case htTooBig => k_is); (case hmTooBig => k_is); (case kxNoArrowsNoArrows => first | rfl | k_is); (case kxNoArrowsNoNumber => first | rfl | k_is); (case kxNoArrowsNoRow => first | rfl | k_is)
    (case kxNoArrowsNoText => first | rfl | k_is); (case kxNoArrowsNoWeb => first | rfl | k_is); (case kxNoArrowsTooBig => first | rfl | k_is); (case kxNoArrowsValueError => first | rfl | k_is); (case kxNoNumberNoArrows => first | rfl | k_is); (case kxNoNumberNoNumber => first | rfl | k_is)
    (case kxNoNumberNoRow => first | rfl | k_is); (case kxNoNumberNoText => first | rfl | k_is); (case kxNoNumberNoWeb => first | rfl | k_is); (case kxNoNumberTooBig => first | rfl | k_is); (case kxNoNumberValueError => first | rfl | k_is); (case kxNoRowNoArrows => first | rfl | k_is)
    (case kxNoRowNoNumber => first | rfl | k_is); (case kxNoRowNoRow => first | rfl | k_is); (case kxNoRowNoText => first | rfl | k_is); (case kxNoRowNoWeb => first | rfl | k_is); (case kxNoRowTooBig => first | rfl | k_is); (case kxNoRowValueError => first | rfl | k_is)
    (case kxNoTextNoArrows => first | rfl | k_is); (case kxNoTextNoNumber => first | rfl | k_is); (case kxNoTextNoRow => first | rfl | k_is); (case kxNoTextNoText => first | rfl | k_is); (case kxNoTextNoWeb => first | rfl | k_is); (case kxNoTextTooBig => first | rfl | k_is)
    (case kxNoTextValueError => first | rfl | k_is); (case kxNoWebNoArrows => first | rfl | k_is); (case kxNoWebNoNumber => first | rfl | k_is); (case kxNoWebNoRow => first | rfl | k_is); (case kxNoWebNoText => first | rfl | k_is); (case kxNoWebNoWeb => first | rfl | k_is)
    (case kxNoWebTooBig => first | rfl | k_is); (case kxNoWebValueError => first | rfl | k_is); (case kxTooBigNoArrows => first | rfl | k_is); (case kxTooBigNoNumber => first | rfl | k_is); (case kxTooBigNoRow => first | rfl | k_is); (case kxTooBigNoText => first | rfl | k_is)
    (case kxTooBigNoWeb => first | rfl | k_is); (case kxTooBigTooBig => first | rfl | k_is); (case kxTooBigValueError => first | rfl | k_is); (case xmNoArrowsTurnError => first | rfl | k_is); (case xmNoNumberTurnError => first | rfl | k_is); (case xmNoRowTurnError => first | rfl | k_is)
    (case xmNoTextTurnError => first | rfl | k_is); (case xmNoWebTurnError => first | rfl | k_is); (case xmTooBigTurnError => first | rfl | k_is); (case zValueError => k_is); (case zall => k_is); (case zbool => k_is)
    (case zdict => k_is); (case zint => k_is); (case zisinstance => k_is); (case zlen => k_is); (case zlist => k_is); (case zmin => k_is)
    (case zrange => k_is); (case zsorted => k_is); (case zsum => k_is); (case ztuple => k_is); (case vTHINGS_webs => k_is); (case vWEIGHT => k_is)
    (case vPOWERS => k_is); (case lPOWERS => k_is); (case vNONE => k_is); (case lNONE => k_is); (case vWHOLE => k_is); (case lWHOLE => k_is)
    (case vTHINGS_kept => k_is); (case gTable => k_is); (case pgTable => k_is); (case hdTable => k_is); (case poTable => k_is); (case saTable => k_is)
    (case mkTable => k_is); (case kcTable => k_is); (case naTablemany => k_is); (case naTableweights => k_is); (case naTablekept => k_is); (case naTableknown => k_is)
    (case aTableinit => k_is); (case iTableinit => k_is); (case lTableinit => k_is); (case cTableinit => k_is); (case kTableinit => k_is); (case aTablestands => k_is)
    (case iTablestands => k_is); (case lTablestands => k_is); (case cTablestands => k_is); (case kTablestands => k_is); (case aTablecost => k_is); (case iTablecost => k_is)
    (case lTablecost => k_is); (case cTablecost => k_is); (case kTablecost => k_is); (case aTablemay_come => k_is); (case iTablemay_come => k_is); (case lTablemay_come => k_is)
    (case cTablemay_come => k_is); (case kTablemay_come => k_is); (case aTablebest => k_is); (case iTablebest => k_is); (case lTablebest => k_is); (case cTablebest => k_is)
    (case kTablebest => k_is); (case aTablefound => k_is); (case iTablefound => k_is); (case lTablefound => k_is); (case cTablefound => k_is); (case kTablefound => k_is)
    (case aTablefirst_row => k_is); (case iTablefirst_row => k_is); (case lTablefirst_row => k_is); (case cTablefirst_row => k_is); (case kTablefirst_row => k_is)


