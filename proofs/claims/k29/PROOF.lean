import PyProof.Rows.All
import HandS.ForMost
import Wide.All
import OpenK.AllK
import Wide.FinOn
import PyProof.EqAt
import PyProof.EqKinds
import PyProof.TupleCall
import HandS.ForExc
import HandS.Flow
import HandS.IsInst
import HandS.Wide
import HandS.Lambda
import HandS.Dict
import HandS.DictTup
import HandS.TupMul
import HandS.TupAny
import HandS.Zip
import KE.GoesEnum
import KE.KDictZip
import PyProof.EnumMake
import PyProof.ListNew
import KE.KTupSum
import HandS.Text
import PyProof.CollectWalk
import PyProof.Rows.FactsT1
import HandS.Star
import HandS.Replace
import PyProof.ListStr
import HandS.RaiseMore
import HandS.Ends
import HandS.EndBits
import HandS.Style
import HandS.TupSets
import HandS.More
import KE.KDictCopyH
import HandS.ExcInit
import HandS.WordsExc
import KE.KExcSuper
import KE.KSuper
import HandS.ExcField
import HandS.EndTab
import PyProof.ReprLen
import PyProof.ReprRoads
import KE.KDictWalk
import KE.KDictSum
import HandS.ForDict
import HandS.Deep
import HandS.DictComp
import HandS.Conv
import HandS.Comp
import HandS.Codes
import PySem.Challenge.RW_basketfair_k29_greatest_excess_and_cheap
set_option Elab.async false
set_option linter.all false
namespace DL
open PySem
def isIntD : PyData → Bool
  | .int _ => true
  | _ => false
/-- which tuples may be written in the module (the others are tracked, and may be keys) -/
def kst (ds : List PyData) : Bool := !ds.all isIntD
end DL

set_option Elab.async false
set_option linter.all false
set_option maxRecDepth 100000
set_option maxHeartbeats 4000000
/-! D1: data, stores, results; what represents what; frames of heaps. -/
namespace DL
open PySem PySem.Spec PyProof.Rows L2

/-- what stays as it is whatever is done: tuples, things that are locked -/
def Imm : HO → Prop
  | .tup _ => True
  | .frz _ _ => True
  | .ext _ => True
  | .xd _ => True
  | _ => False
def Stb (H H' : Hp) : Prop := ∀ a o, Imm o → H a = some o → H' a = some o
theorem Stb.refl (H : Hp) : Stb H H := fun _ _ _ h => h
theorem Stb.trans {H H1 H2 : Hp} (a : Stb H H1) (b : Stb H1 H2) : Stb H H2 := fun x o i h => b x o i (a x o i h)
def WrL (K : PySem.W.Frag) (a : Addr) (xs : List V) : Prop :=
  ∃ (o : Obj) (its : Array Value) (n : Nat), K.lookup a = some o ∧ o.cls = .type "list" ∧ o.dict = none ∧ o.data = .seq its n ∧ its.size ≤ sizeLine ∧ Vals xs its.toList
def FzL (K : PySem.W.Frag) (H : Hp) (a : Addr) (xs : List V) : Prop := (∃ o, H a = some (.frz o (.lst xs))) ∨ WrL K a xs
theorem FzL.sq {K : PySem.W.Frag} {H : Hp} {a : Addr} {xs : List V} (h : FzL K H a xs) : SqL K H a xs := by
  rcases h with ⟨o, h⟩ | h
  · exact .inl (.inr ⟨o, h⟩)
  · exact .inr h
theorem FzL.stb {K : PySem.W.Frag} {H H' : Hp} {a : Addr} {xs : List V} (s : Stb H H') (h : FzL K H a xs) : FzL K H' a xs := by
  rcases h with ⟨o, h⟩ | h
  · exact .inl ⟨o, s _ _ trivial h⟩
  · exact .inr h
theorem sqT_stb {K : PySem.W.Frag} {H H' : Hp} {a : Addr} {xs : List V} (s : Stb H H') (h : SqT K H a xs) : SqT K H' a xs := by
  rcases h with (h | ⟨o, h⟩) | h
  · exact .inl (.inl (s _ _ trivial h))
  · exact .inl (.inr ⟨o, s _ _ trivial h⟩)
  · exact .inr h

/-- a tuple: tracked, or written (then of a kind that is no key) -/
def TqT (K : PySem.W.Frag) (H : Hp) (a : Addr) (xs : List V) (ds : List PyData) : Prop := H a = some (.tup xs) ∨ (kst ds = true ∧ SqT K H a xs)
theorem TqT.sq {K : PySem.W.Frag} {H : Hp} {a : Addr} {xs : List V} {ds : List PyData} (h : TqT K H a xs ds) : SqT K H a xs := by
  rcases h with h | ⟨_, h⟩
  · exact SqT.of h
  · exact h
theorem TqT.stb {K : PySem.W.Frag} {H H' : Hp} {a : Addr} {xs : List V} {ds : List PyData} (s : Stb H H') (h : TqT K H a xs ds) : TqT K H' a xs ds := by
  rcases h with h | ⟨k, h⟩
  · exact .inl (s _ _ trivial h)
  · exact .inr ⟨k, sqT_stb s h⟩
theorem TqT.tr {K : PySem.W.Frag} {H : Hp} {a : Addr} {xs : List V} {ds : List PyData} (h : TqT K H a xs ds) (k : kst ds = false) : H a = some (.tup xs) := by
  rcases h with h | ⟨k', _⟩
  · exact h
  · rw [k] at k'; cases k'

def kD : Key → PyData
  | .inl i => .int i
  | .inr x => .str x
/-- a text of the model: not too long, of signs that are -/
def strG (x : Str) : Bool := decide (x.length ≤ sizeLine) && PyData.strOk x
theorem strG_len {x : Str} (h : strG x = true) : x.length ≤ sizeLine := of_decide_eq_true (Bool.and_eq_true_iff.mp h).1
theorem strG_ok {x : Str} (h : strG x = true) : PyData.strOk x = true := (Bool.and_eq_true_iff.mp h).2
theorem strG_mk {x : Str} (h : x.length ≤ sizeLine) (h' : PyData.strOk x = true) : strG x = true := Bool.and_eq_true_iff.mpr ⟨decide_eq_true h, h'⟩
mutual
/-- a value stands for data that nobody changes -/
inductive Rep (K : PySem.W.Frag) (H : Hp) : V → PyData → Prop
  | non : Rep K H .non .none
  | bl (b : Bool) : Rep K H (.bl b) (.bool b)
  | int (i : Int) : Rep K H (.int i) (.int i)
  | str (x : Str) : strG x = true → Rep K H (.str x) (.str x)
  | lst {a : Addr} {xs : List V} {ds : List PyData} : FzL K H a xs → Reps K H xs ds → Rep K H (.ref a) (.list ds)
  | tup {a : Addr} {xs : List V} {ds : List PyData} : TqT K H a xs ds → Reps K H xs ds → Rep K H (.ref a) (.tuple ds)
  | dic {a : Addr} {o : Obj} {kvs : List (Key × V)} {ps : List (PyData × PyData)} : H a = some (.frz o (.dK kvs)) → RepKV K H kvs ps → Rep K H (.ref a) (.dict ps)
  | dicT {a : Addr} {o : Obj} {kvs : List (List Key × V)} {ps : List (PyData × PyData)} : H a = some (.frz o (.dT kvs)) → RepTV K H kvs ps → ps ≠ [] → Rep K H (.ref a) (.dict ps)
inductive Reps (K : PySem.W.Frag) (H : Hp) : List V → List PyData → Prop
  | nil : Reps K H [] []
  | cons {v : V} {vs : List V} {d : PyData} {ds : List PyData} : Rep K H v d → Reps K H vs ds → Reps K H (v :: vs) (d :: ds)
inductive RepKV (K : PySem.W.Frag) (H : Hp) : List (Key × V) → List (PyData × PyData) → Prop
  | nil : RepKV K H [] []
  | cons {k : Key} {v : V} {vs : List (Key × V)} {d : PyData} {ds : List (PyData × PyData)} : Rep K H v d → RepKV K H vs ds → RepKV K H ((k, v) :: vs) ((kD k, d) :: ds)
/-- keys that are tuples of ints -/
inductive RepTV (K : PySem.W.Frag) (H : Hp) : List (List Key × V) → List (PyData × PyData) → Prop
  | nil : RepTV K H [] []
  | cons {b : List Int} {v : V} {vs : List (List Key × V)} {d : PyData} {ds : List (PyData × PyData)} : Rep K H v d → RepTV K H vs ds → RepTV K H ((b.map Sum.inl, v) :: vs) ((.tuple (b.map PyData.int), d) :: ds)
end
section
variable {K : PySem.W.Frag} {H H' : Hp}
mutual
theorem Rep.stb (s : Stb H H') : ∀ (d : PyData) {v : V}, Rep K H v d → Rep K H' v d
  | .none, _, h => by cases h; exact .non
  | .bool _, _, h => by cases h; exact .bl _
  | .int _, _, h => by cases h; exact .int _
  | .str _, _, h => by
    cases h with
    | str _ z => exact .str _ z
  | .list ds, _, h => by
    cases h with
    | lst h1 h2 => exact .lst (h1.stb s) (Reps.stb s ds h2)
  | .tuple ds, _, h => by
    cases h with
    | tup h1 h2 => exact .tup (h1.stb s) (Reps.stb s ds h2)
  | .dict ds, _, h => by
    cases h with
    | dic h1 h2 => exact .dic (s _ _ trivial h1) (RepKV.stb s ds h2)
    | dicT h1 h2 h3 => exact .dicT (s _ _ trivial h1) (RepTV.stb s ds h2) h3
theorem Reps.stb (s : Stb H H') : ∀ (ds : List PyData) {vs : List V}, Reps K H vs ds → Reps K H' vs ds
  | [], _, h => by cases h; exact .nil
  | d :: ds, _, h => by
    cases h with
    | cons h1 h2 => exact .cons (Rep.stb s d h1) (Reps.stb s ds h2)
theorem RepKV.stb (s : Stb H H') : ∀ (ds : List (PyData × PyData)) {vs : List (Key × V)}, RepKV K H vs ds → RepKV K H' vs ds
  | [], _, h => by cases h; exact .nil
  | (_, d) :: ds, _, h => by
    cases h with
    | cons h1 h2 => exact .cons (Rep.stb s d h1) (RepKV.stb s ds h2)
theorem RepTV.stb (s : Stb H H') : ∀ (ds : List (PyData × PyData)) {vs : List (List Key × V)}, RepTV K H vs ds → RepTV K H' vs ds
  | [], _, h => by cases h; exact .nil
  | (_, d) :: ds, _, h => by
    cases h with
    | cons h1 h2 => exact .cons (Rep.stb s d h1) (RepTV.stb s ds h2)
end
theorem Reps.length : ∀ {vs : List V} {ds : List PyData}, Reps K H vs ds → vs.length = ds.length
  | [], _, h => by cases h; rfl
  | _ :: vs, _, h => by
    cases h with
    | cons h1 h2 => simp [Reps.length h2]
theorem Reps.get : ∀ {vs : List V} {ds : List PyData} {i : Nat} {d : PyData}, Reps K H vs ds → ds[i]? = some d → ∃ v, vs[i]? = some v ∧ Rep K H v d
  | [], _, i, d, h, e => by cases h; simp at e
  | _ :: vs, _, 0, d, h, e => by
    cases h with
    | cons h1 h2 =>
      simp at e
      subst e
      exact ⟨_, rfl, h1⟩
  | _ :: vs, _, i + 1, d, h, e => by
    cases h with
    | cons h1 h2 =>
      obtain ⟨v, e1, e2⟩ := Reps.get (i := i) (d := d) h2 (by simpa using e)
      exact ⟨v, by simpa using e1, e2⟩
theorem Reps.getV : ∀ {vs : List V} {ds : List PyData} {i : Nat} {v : V}, Reps K H vs ds → vs[i]? = some v → ∃ d, ds[i]? = some d ∧ Rep K H v d
  | [], _, i, d, h, e => by simp at e
  | _ :: vs, _, 0, d, h, e => by
    cases h with
    | cons h1 h2 =>
      simp at e
      subst e
      exact ⟨_, rfl, h1⟩
  | _ :: vs, _, i + 1, d, h, e => by
    cases h with
    | cons h1 h2 =>
      obtain ⟨v, e1, e2⟩ := Reps.getV (i := i) (v := d) h2 (by simpa using e)
      exact ⟨v, by simpa using e1, e2⟩
theorem Reps.append : ∀ {vs us : List V} {ds es : List PyData}, Reps K H vs ds → Reps K H us es → Reps K H (vs ++ us) (ds ++ es)
  | [], _, _, _, h, h' => by cases h; exact h'
  | _ :: vs, _, _, _, h, h' => by
    cases h with
    | cons h1 h2 => exact .cons h1 (Reps.append h2 h')
theorem Reps.take : ∀ {vs : List V} {ds : List PyData} (n : Nat), Reps K H vs ds → Reps K H (vs.take n) (ds.take n)
  | _, _, 0, _ => .nil
  | [], _, _ + 1, h => by cases h; exact .nil
  | _ :: vs, _, n + 1, h => by
    cases h with
    | cons h1 h2 => exact .cons h1 (Reps.take n h2)
theorem Reps.drop : ∀ {vs : List V} {ds : List PyData} (n : Nat), Reps K H vs ds → Reps K H (vs.drop n) (ds.drop n)
  | _, _, 0, h => h
  | [], _, _ + 1, h => by cases h; exact .nil
  | _ :: vs, _, n + 1, h => by
    cases h with
    | cons h1 h2 => exact Reps.drop n h2
theorem Reps.set : ∀ {vs : List V} {ds : List PyData} (n : Nat) {v : V} {d : PyData}, Reps K H vs ds → Rep K H v d → Reps K H (vs.set n v) (ds.set n d)
  | [], _, _, _, _, h, _ => by cases h; exact .nil
  | _ :: vs, _, 0, _, _, h, h' => by
    cases h with
    | cons h1 h2 => exact .cons h' h2
  | _ :: vs, _, n + 1, _, _, h, h' => by
    cases h with
    | cons h1 h2 => exact .cons h1 (Reps.set n h2 h')
theorem Reps.reverse : ∀ {vs : List V} {ds : List PyData}, Reps K H vs ds → Reps K H vs.reverse ds.reverse
  | [], _, h => by cases h; exact .nil
  | _ :: vs, _, h => by
    cases h with
    | cons h1 h2 =>
      rw [List.reverse_cons, List.reverse_cons]
      exact Reps.append (Reps.reverse h2) (.cons h1 .nil)
end

/-- a def's own changing things; a list that was locked -/
inductive MO where
  | lst (l : List PyData) | frz (l : List PyData) | tab (P : Addr) (q : Str) | dct (l : List (PyData × PyData)) | fdc (l : List (PyData × PyData))
abbrev Sto := List MO
/-- an error: its class, its fields -/
structure Xc where
  c : Str
  fs : List (Str × PyData)
/-- what a name may hold: data, the k-th of the changing things, an error that is handled (where it stands, where its fields stand, what it is) -/
inductive Wv where
  | d (x : PyData) | own (k : Nat) | fn (f c : Addr) (q : Xc)
abbrev Rho := List (Option Wv)
inductive Rs (α : Type) where
  | bad | ok (a : α) (S : Sto) | exc (x : Xc) (S : Sto)
@[simp] def Rs.bind {α β : Type} (r : Rs α) (k : α → Sto → Rs β) : Rs β := match r with
  | .bad => .bad
  | .ok a S => k a S
  | .exc x S => .exc x S
abbrev EF := Rho → Sto → Rs Wv

/-- a dict that is changed yet -/
def ObD (K : PySem.W.Frag) (H : Hp) (a : Addr) (l : List (PyData × PyData)) : Prop :=
  (∃ ps, H a = some (.dK ps) ∧ RepKV K H ps l) ∨ ∃ ps, H a = some (.dT ps) ∧ RepTV K H ps l ∧ l ≠ []
def FzD (K : PySem.W.Frag) (H : Hp) (a : Addr) (l : List (PyData × PyData)) : Prop :=
  (∃ ps o, H a = some (.frz o (.dK ps)) ∧ RepKV K H ps l) ∨ ∃ ps o, H a = some (.frz o (.dT ps)) ∧ RepTV K H ps l ∧ l ≠ []
def ObR (K : PySem.W.Frag) (H : Hp) (a : Addr) : MO → Prop
  | .lst l => ∃ vs, H a = some (.lst vs) ∧ Reps K H vs l
  | .frz l => ∃ vs o, H a = some (.frz o (.lst vs)) ∧ Reps K H vs l
  | .tab P q => a = P ∧ LamX.TabS H P q
  | .dct l => ObD K H a l
  | .fdc l => FzD K H a l
def RepW (K : PySem.W.Frag) (ad : List Addr) (H : Hp) (v : V) : Wv → Prop
  | .d x => Rep K H v x
  | .own k => ∃ a, ad[k]? = some a ∧ v = .ref a
  | .fn f c q => v = .ref f ∧ ∃ fs, H c = some (.xd fs) ∧ Paired (fun (p : Str × V) (r : Str × PyData) => p.1 = r.1 ∧ Rep K H p.2 r.2) fs q.fs
abbrev RepWs (K : PySem.W.Frag) (ad : List Addr) (H : Hp) : List V → List Wv → Prop := Paired (RepW K ad H)
structure RS (K : PySem.W.Frag) (ad : List Addr) (H : Hp) (S : Sto) : Prop where
  len : ad.length = S.length
  nd : ad.Nodup
  ob : ∀ (k : Nat) (o : MO), S[k]? = some o → ∃ a, ad[k]? = some a ∧ ObR K H a o
structure Sig (K : PySem.W.Frag) (ad : List Addr) (H : Hp) (σ : L2.St) (ρ : Rho) : Prop where
  len : σ.length = ρ.length
  sl : ∀ (i : Nat) (w : Wv), ρ[i]? = some (some w) → ∃ v, σ[i]? = some (some v) ∧ RepW K ad H v w
/-- what stood there stands; a table of code objects may have grown -/
def Kept (o : HO) (r : Option HO) : Prop := match o with
  | .tbl _ => ∃ ps, r = some (.tbl ps)
  | o => r = some o
theorem Kept.of {o : HO} {r : Option HO} (h : r = some o) : Kept o r := by
  cases o <;> first | exact h | exact ⟨_, h⟩
theorem Kept.some {o : HO} {r : Option HO} (h : Kept o r) : ∃ u, r = some u := by
  cases o <;> first | exact ⟨_, h⟩ | exact h.elim fun ps z => ⟨_, z⟩
theorem Kept.no {o : HO} (h : Kept o none) : False := by
  obtain ⟨u, z⟩ := h.some
  cases z
theorem Kept.trans {o : HO} {r r' : Option HO} (h : Kept o r) (h' : ∀ u, r = Option.some u → Kept u r') : Kept o r' := by
  cases o with
  | tbl qs =>
    obtain ⟨ps, z⟩ := h
    have := h' (.tbl ps) z
    exact this
  | _ => exact h' _ h
structure Fr (ad : List Addr) (H : Hp) (ad' : List Addr) (H' : Hp) : Prop where
  ext : ∃ t, ad' = ad ++ t
  keep : ∀ a o, H a = some o → a ∉ ad → Kept o (H' a)
  new : ∀ a, a ∈ ad' → a ∉ ad → H a = none
  stb : Stb H H'
section
variable {K : PySem.W.Frag} {ad ad1 ad2 : List Addr} {H H1 H2 : Hp} {v : V} {w : Wv}
theorem Fr.refl (ad : List Addr) (H : Hp) : Fr ad H ad H := ⟨⟨[], by simp⟩, fun _ _ h _ => .of h, fun _ h h' => absurd h h', Stb.refl H⟩
theorem Fr.trans (a : Fr ad H ad1 H1) (b : Fr ad1 H1 ad2 H2) : Fr ad H ad2 H2 := by
  have notIn1 : ∀ x o, H x = some o → x ∉ ad → x ∉ ad1 := fun x o h hx hm => by
    have := a.new x hm hx
    rw [h] at this; cases this
  refine ⟨?_, fun x o h hx => (a.keep x o h hx).trans fun u hu => b.keep x u hu (notIn1 x o h hx), fun x hm hx => ?_, a.stb.trans b.stb⟩
  · obtain ⟨t, e⟩ := a.ext
    obtain ⟨u, e'⟩ := b.ext
    exact ⟨t ++ u, by rw [e', e, List.append_assoc]⟩
  · by_cases h1 : x ∈ ad1
    · exact a.new x h1 hx
    · have h2 := b.new x hm h1
      cases q : H x with
      | none => rfl
      | some o =>
        have := a.keep x o q hx
        rw [h2] at this; exact this.no.elim
theorem Fr.at (a : Fr ad H ad1 H1) {k : Nat} {x : Addr} (h : ad[k]? = some x) : ad1[k]? = some x := by
  obtain ⟨t, e⟩ := a.ext
  rw [e, List.getElem?_append_left (List.getElem?_eq_some_iff.mp h).1]
  exact h
theorem fields_stb {H H' : Hp} (st : Stb H H') : ∀ {fs : List (Str × V)} {xs : List (Str × PyData)}, Paired (fun (p : Str × V) (r : Str × PyData) => p.1 = r.1 ∧ Rep K H p.2 r.2) fs xs → Paired (fun (p : Str × V) (r : Str × PyData) => p.1 = r.1 ∧ Rep K H' p.2 r.2) fs xs
  | _, _, .nil => .nil
  | _, _, .cons h t => .cons ⟨h.1, Rep.stb st _ h.2⟩ (fields_stb st t)
theorem RepW.fr (a : Fr ad H ad1 H1) (h : RepW K ad H v w) : RepW K ad1 H1 v w := by
  cases w with
  | d x => exact Rep.stb a.stb x h
  | own k =>
    obtain ⟨x, e, e'⟩ := h
    exact ⟨x, a.at e, e'⟩
  | fn f c q =>
    obtain ⟨h1, fs, h2, h3⟩ := h
    exact ⟨h1, fs, a.stb c _ trivial h2, fields_stb a.stb h3⟩
theorem RepWs.fr (a : Fr ad H ad1 H1) : ∀ {vs : List V} {ws : List Wv}, RepWs K ad H vs ws → RepWs K ad1 H1 vs ws
  | _, _, .nil => .nil
  | _, _, .cons h t => .cons (RepW.fr a h) (RepWs.fr a t)
theorem Sig.fr {σ : L2.St} {ρ : Rho} (a : Fr ad H ad1 H1) (h : Sig K ad H σ ρ) : Sig K ad1 H1 σ ρ :=
  ⟨h.len, fun i w e => let ⟨v, e1, e2⟩ := h.sl i w e; ⟨v, e1, e2.fr a⟩⟩
/-- all that was tracked stands, new things may have come -/
def Ex (H H' : Hp) : Prop := ∀ a o, H a = some o → H' a = some o
theorem Ex.refl (H : Hp) : Ex H H := fun _ _ h => h
theorem Ex.trans {H H1 H2 : Hp} (a : Ex H H1) (b : Ex H1 H2) : Ex H H2 := fun x o h => b x o (a x o h)
theorem Ex.new {p : Addr} {o : HO} (h : H p = none) : Ex H (upd H p o) := fun a u e => by
  rw [upd_ne (ne_of_none e h)]; exact e
theorem tab_upd {P p : Addr} {q : Str} {vs : List V} {o : HO} (e : H p = some (.lst vs)) (h : LamX.TabS H P q) : LamX.TabS (upd H p o) P q := by
  have ne : ∀ b u, H b = some u → (∀ xs, u ≠ .lst xs) → b ≠ p := fun b u hb hn z => by
    rw [z, e] at hb
    exact hn vs (Option.some.inj hb).symm
  obtain ⟨ps, h1, h2, h3⟩ := h
  refine ⟨ps, by rw [upd_ne (ne _ _ h1 (fun xs z => by cases z))]; exact h1, h2, fun pos cv hc => ?_⟩
  obtain ⟨c, e1, e2⟩ := h3 pos cv hc
  exact ⟨c, e1, by rw [upd_ne (ne _ _ e2 (fun xs z => by unfold LamX.CodeO at z; cases z))]; exact e2⟩
theorem Ex.stb (a : Ex H H1) : Stb H H1 := fun x o _ h => a x o h
theorem Ex.fr (a : Ex H H1) : Fr ad H ad H1 := ⟨⟨[], by simp⟩, fun x o h _ => .of (a x o h), fun _ h h' => absurd h h', a.stb⟩
theorem ObD.ex {a : Addr} {l : List (PyData × PyData)} (e : Ex H H1) (h : ObD K H a l) : ObD K H1 a l := by
  rcases h with ⟨ps, h1, h2⟩ | ⟨ps, h1, h2, h3⟩
  · exact .inl ⟨ps, e _ _ h1, RepKV.stb e.stb l h2⟩
  · exact .inr ⟨ps, e _ _ h1, RepTV.stb e.stb l h2, h3⟩
theorem FzD.stb {a : Addr} {l : List (PyData × PyData)} (e : Stb H H1) (h : FzD K H a l) : FzD K H1 a l := by
  rcases h with ⟨ps, o, h1, h2⟩ | ⟨ps, o, h1, h2, h3⟩
  · exact .inl ⟨ps, o, e _ _ trivial h1, RepKV.stb e l h2⟩
  · exact .inr ⟨ps, o, e _ _ trivial h1, RepTV.stb e l h2, h3⟩
theorem FzD.rep {a : Addr} {l : List (PyData × PyData)} (h : FzD K H a l) : Rep K H (.ref a) (.dict l) := by
  rcases h with ⟨ps, o, h1, h2⟩ | ⟨ps, o, h1, h2, h3⟩
  · exact .dic h1 h2
  · exact .dicT h1 h2 h3
theorem Rep.fzD {v : V} {l : List (PyData × PyData)} (h : Rep K H v (.dict l)) : ∃ a, v = .ref a ∧ FzD K H a l := by
  cases h with
  | dic h1 h2 => exact ⟨_, rfl, .inl ⟨_, _, h1, h2⟩⟩
  | dicT h1 h2 h3 => exact ⟨_, rfl, .inr ⟨_, _, h1, h2, h3⟩⟩
theorem ObR.ex {a : Addr} {o : MO} (e : Ex H H1) (h : ObR K H a o) : ObR K H1 a o := by
  cases o with
  | lst l =>
    obtain ⟨vs, h1, h2⟩ := h
    exact ⟨vs, e _ _ h1, Reps.stb e.stb l h2⟩
  | frz l =>
    obtain ⟨vs, q, h1, h2⟩ := h
    exact ⟨vs, q, e _ _ h1, Reps.stb e.stb l h2⟩
  | tab P q => exact ⟨h.1, h.2.ext e⟩
  | dct l => exact ObD.ex e h
  | fdc l => exact FzD.stb e.stb h
theorem ObR.here {a : Addr} {o : MO} (h : ObR K H a o) : ∃ u, H a = some u := by
  cases o with
  | lst l => exact ⟨_, h.choose_spec.1⟩
  | frz l => exact ⟨_, h.choose_spec.choose_spec.1⟩
  | tab P q => exact ⟨_, by rw [h.1]; exact h.2.choose_spec.1⟩
  | dct l =>
    rcases h with ⟨ps, h1, _⟩ | ⟨ps, h1, _⟩
    · exact ⟨_, h1⟩
    · exact ⟨_, h1⟩
  | fdc l =>
    rcases h with ⟨ps, o, h1, _⟩ | ⟨ps, o, h1, _⟩
    · exact ⟨_, h1⟩
    · exact ⟨_, h1⟩
theorem RS.here {S : Sto} (h : RS K ad H S) {p : Addr} (hp : p ∈ ad) : ∃ u, H p = some u := by
  obtain ⟨k, hk, e⟩ := List.mem_iff_getElem.mp hp
  have hk' : k < S.length := by rw [← h.len]; exact hk
  obtain ⟨a, e1, e2⟩ := h.ob k S[k] (by simp [hk'])
  have : a = p := by
    rw [List.getElem?_eq_getElem hk] at e1
    rw [← Option.some.inj e1]; exact e
  subst this
  exact e2.here
theorem RS.ex {S : Sto} (e : Ex H H1) (h : RS K ad H S) : RS K ad H1 S := ⟨h.len, h.nd, fun k o q => let ⟨a, e1, e2⟩ := h.ob k o q; ⟨a, e1, e2.ex e⟩⟩
end

/-! ### the results' readings -/
def XRep (K : PySem.W.Frag) (mg : Str → Option Value) (H : Hp) (cls : Value) (d : Option Addr) (x : Xc) : Prop :=
  ∃ C, mg x.c = some (.ref C) ∧ cls = .ref C ∧ (x.fs = [] ∨ ∃ dd fs, d = some dd ∧ H dd = some (.xd fs) ∧ Paired (fun (p : Str × V) (q : Str × PyData) => p.1 = q.1 ∧ Rep K H p.2 q.2) fs x.fs)
def post {α β : Type} (K : PySem.W.Frag) (mg : Str → Option Value) (Wx : WX) (σ : L2.St) (ad : List Addr) (H : Hp) (Rel : List Addr → Hp → β → α → Prop) (r : Rs α) (Q : β → Hp → Prop) : Prop :=
  match r with
  | .bad => False
  | .ok w S' => ∀ v H' ad', Fr ad H ad' H' → Rel ad' H' v w → RS K ad' H' S' → Q v H'
  | .exc x S' => ∀ cls d H' ad', Fr ad H ad' H' → XRep K mg H' cls d x → RS K ad' H' S' → Wx cls d σ H'
section
variable {K : PySem.W.Frag} {mg : Str → Option Value} {Wx : WX} {σ : L2.St} {ad ad1 : List Addr} {H H1 : Hp}
theorem post_bind {α β γ δ : Type} {Rel1 : List Addr → Hp → β → α → Prop} {Rel2 : List Addr → Hp → δ → γ → Prop} {r : Rs α} {k : α → Sto → Rs γ} {Q : δ → Hp → Prop}
    (h : post K mg Wx σ ad H Rel2 (r.bind k) Q) : post K mg Wx σ ad H Rel1 r (fun v H1 => ∃ ad1 w S1, Fr ad H ad1 H1 ∧ Rel1 ad1 H1 v w ∧ RS K ad1 H1 S1 ∧ post K mg Wx σ ad1 H1 Rel2 (k w S1) Q) := by
  cases r with
  | bad => exact h
  | exc x S' => exact h
  | ok w S' =>
    intro v H1 ad1 fr rel rs
    refine ⟨ad1, w, S', fr, rel, rs, ?_⟩
    have h' : post K mg Wx σ ad H Rel2 (k w S') Q := h
    revert h'
    cases k w S' with
    | bad => exact fun z => z
    | ok w2 S2 => exact fun z v2 H2 ad2 fr2 rel2 rs2 => z v2 H2 ad2 (fr.trans fr2) rel2 rs2
    | exc x S2 => exact fun z cls d H2 ad2 fr2 xr rs2 => z cls d H2 ad2 (fr.trans fr2) xr rs2
theorem post_mono {α β : Type} {Rel : List Addr → Hp → β → α → Prop} {r : Rs α} {Q Q' : β → Hp → Prop} (h : post K mg Wx σ ad H Rel r Q) (hq : ∀ v H', Q v H' → Q' v H') : post K mg Wx σ ad H Rel r Q' := by
  cases r with
  | bad => exact h
  | exc x S' => exact h
  | ok w S' => exact fun v H' ad' a b c => hq _ _ (h v H' ad' a b c)
end
def tD (K : PySem.W.Frag) (mg : Str → Option Value) (Wx : WX) (f : EF) : TE := fun σ H Q => ∃ ad ρ S, Sig K ad H σ ρ ∧ RS K ad H S ∧ post K mg Wx σ ad H (RepW K) (f ρ S) Q
abbrev DE (X : Cx) (Wx : WX) (e : Expr) (f : EF) : Prop := PE X e (tD X.K X.mg Wx f)
theorem PE.conv {X : Cx} {e : Expr} {t t' : TE} (h : PE X e t) (c : ∀ σ H Q, t' σ H Q → t σ H Q) : PE X e t' := ⟨fun pins s σ H Q I q => h.run pins s σ H Q I (c _ _ _ q)⟩
theorem PT.conv {X : Cx} {e : Expr} {t t' : TT} (h : PT X e t) (c : ∀ σ H Q, t' σ H Q → t σ H Q) : PT X e t' := ⟨fun pins s σ H Q I q => h.run pins s σ H Q I (c _ _ _ q)⟩
theorem PW.conv {X : Cx} {e : Expr} {t t' : TT} (h : PW X e t) (c : ∀ σ H Q, t' σ H Q → t σ H Q) : PW X e t' := ⟨fun wh pins s σ H Q I q => h.run wh pins s σ H Q I (c _ _ _ q)⟩
theorem PA.conv {X : Cx} {e : List Expr} {t t' : TA} (h : PA X e t) (c : ∀ σ H Q, t' σ H Q → t σ H Q) : PA X e t' := ⟨fun pos pins s σ H Q I q => h.run pos pins s σ H Q I (c _ _ _ q)⟩
theorem PS.conv {X : Cx} {e : Stmt} {t t' : TS} (h : PS X e t) (c : ∀ D σ H, t' D σ H → t D σ H) : PS X e t' := ⟨fun pins s σ H D I q => h.run pins s σ H D I (c _ _ _ q)⟩
theorem PSs.conv {X : Cx} {e : List Stmt} {t t' : TS} (h : PSs X e t) (c : ∀ D σ H, t' D σ H → t D σ H) : PSs X e t' := ⟨fun pins s σ H D I q => h.run pins s σ H D I (c _ _ _ q)⟩

/-! ### a list, a dict is locked for good -/
def Chg : HO → Prop
  | .lst _ => True
  | .dK _ => True
  | .dT _ => True
  | _ => False
theorem Chg.no {u : HO} (h : Chg u) (i : Imm u) : False := by
  cases u <;> first | exact h | exact i
theorem Chg.at {X : Cx} {H : Hp} {h : Heap} {a : Addr} {u : HO} (c : Chg u) (ok : ObjOk X.prog X.w H h a u) : ∃ o, h.get? a = some o := by
  cases u with
  | lst xs =>
    obtain ⟨_, its, n, _, e⟩ := ok
    exact ⟨_, e⟩
  | dK kvs =>
    obtain ⟨_, _, vs, _, o, es, ep, e, _⟩ := ok
    exact ⟨_, e⟩
  | dT kvs =>
    obtain ⟨_, _, xs, _, o, es, ep, e, _⟩ := ok
    exact ⟨_, e⟩
  | _ => exact c.elim
theorem freezeU {X : Cx} {pins : List (Addr × Obj)} {σ : L2.St} {H : Hp} {s : Shared} {a : Addr} {u : HO} (I : Inv X pins σ H s) (h : H a = some u) (c : Chg u) :
    ∃ o, Inv X pins σ (upd H a (.frz o u)) s := by
  have ok := I.hok a _ h
  obtain ⟨ob, e⟩ := c.at (X := X) ok
  refine ⟨ob, ?_⟩
  have ne : ∀ {b : Addr} {o : HO}, H b = some o → ¬ Chg o → b ≠ a := fun {b o} hb hn z => by
    subst z
    rw [h] at hb
    cases hb
    exact hn c
  have un : Un X.fs [] H (upd H a (.frz ob u)) s.heap s.heap := by
    refine ⟨fun b o q _ _ _ => q, fun b o q _ _ _ => ⟨o.slots, q⟩, fun b o q hn _ => ?_, fun b o q _ => ⟨o, q⟩, fun b xs q => ?_, fun b o u q => ?_, fun b ps q => ⟨#[], ?_⟩⟩
    · have : b ≠ a := fun z => by subst z; rw [h] at hn; cases hn
      rw [upd_ne this]; exact hn
    · rw [upd_ne (ne q id)]; exact q
    · rw [upd_ne (ne q id)]; exact q
    · rw [upd_ne (ne q id), q]; simp
  have hok : HOk X.prog X.w (upd H a (.frz ob u)) s.heap := fun b v q => by
    by_cases hb : b = a
    · subst hb
      rw [upd_same] at q; cases q
      exact ⟨e, ok.stay (fun c v _ r => r) (fun c r => by rw [upd_ne (ne r id)]; exact r) fun c xs r => by rw [upd_ne (ne r id)]; exact r⟩
    · rw [upd_ne hb] at q
      refine (I.hok b v q).stay (fun c v _ r => r) (fun c r => ?_) fun c xs r => ?_
      · rw [upd_ne (ne r id)]; exact r
      · rw [upd_ne (ne r id)]; exact r
  have := I.un (h' := s.heap) (t' := s.toks) un hok
  exact this
/-- another reading of a changing thing -/
theorem changeU {X : Cx} {pins : List (Addr × Obj)} {σ : L2.St} {H : Hp} {s : Shared} {a : Addr} {u u' : HO} (I : Inv X pins σ H s) (h : H a = some u) (c : Chg u) (c' : Chg u') (ok' : ObjOk X.prog X.w H s.heap a u') : Inv X pins σ (upd H a u') s := by
  have ne : ∀ {b : Addr} {o : HO}, H b = some o → ¬ Chg o → b ≠ a := fun {b o} hb hn z => by
    subst z
    rw [h] at hb
    cases hb
    exact hn c
  have un : Un X.fs [] H (upd H a u') s.heap s.heap := by
    refine ⟨fun b o q _ _ _ => q, fun b o q _ _ _ => ⟨o.slots, q⟩, fun b o q hn _ => ?_, fun b o q _ => ⟨o, q⟩, fun b xs q => ?_, fun b o u q => ?_, fun b ps q => ⟨#[], ?_⟩⟩
    · have : b ≠ a := fun z => by subst z; rw [h] at hn; cases hn
      rw [upd_ne this]; exact hn
    · rw [upd_ne (ne q id)]; exact q
    · rw [upd_ne (ne q id)]; exact q
    · rw [upd_ne (ne q id), q]; simp
  have hok : HOk X.prog X.w (upd H a u') s.heap := fun b v q => by
    by_cases hb : b = a
    · subst hb
      rw [upd_same] at q; cases q
      exact ok'.stay (fun c v _ r => r) (fun c r => by rw [upd_ne (ne r id)]; exact r) fun c xs r => by rw [upd_ne (ne r id)]; exact r
    · rw [upd_ne hb] at q
      refine (I.hok b v q).stay (fun c v _ r => r) (fun c r => ?_) fun c xs r => ?_
      · rw [upd_ne (ne r id)]; exact r
      · rw [upd_ne (ne r id)]; exact r
  have := I.un (h' := s.heap) (t' := s.toks) un hok
  exact this
theorem freeze {X : Cx} {pins : List (Addr × Obj)} {σ : L2.St} {H : Hp} {s : Shared} {a : Addr} {vs : List V} (I : Inv X pins σ H s) (h : H a = some (.lst vs)) :
    ∃ o, Inv X pins σ (upd H a (.frz o (.lst vs))) s := freezeU I h trivial
theorem EP.freezeU {X : Cx} {pins : List (Addr × Obj)} {σ : L2.St} {Q : VK} {u : Value} {s : Shared}
    (h : EP X pins σ (fun v H' => ∃ a ob, v = .ref a ∧ Chg ob ∧ H' a = some ob ∧ ∀ o, Q v (upd H' a (.frz o ob))) u s) : EP X pins σ Q u s := by
  obtain ⟨v, H', I, r, a, ob, e, c, hl, q⟩ := h
  obtain ⟨o, I'⟩ := DL.freezeU I hl c
  exact ⟨v, _, I', r, q o⟩
theorem EP.freeze {X : Cx} {pins : List (Addr × Obj)} {σ : L2.St} {Q : VK} {u : Value} {s : Shared}
    (h : EP X pins σ (fun v H' => ∃ a vs, v = .ref a ∧ H' a = some (.lst vs) ∧ ∀ o, Q v (upd H' a (.frz o (.lst vs)))) u s) : EP X pins σ Q u s := by
  obtain ⟨v, H', I, r, a, vs, e, hl, q⟩ := h
  obtain ⟨o, I'⟩ := DL.freeze I hl
  exact ⟨v, _, I', r, q o⟩
def tFrz (te : TE) : TE := fun σ H Q => te σ H fun v H' => ∃ a vs, v = .ref a ∧ H' a = some (.lst vs) ∧ ∀ o, Q v (upd H' a (.frz o (.lst vs)))
theorem pe_freeze {X : Cx} {e : Expr} {te : TE} (h : PE X e te) : PE X e (tFrz te) := ⟨fun pins s σ H Q I q => thn (h.run pins s σ H _ I q) fun _ _ z => EP.freeze z⟩
theorem OpR.freeze {X : Cx} {f : Value → Value → Sem Value} {r : R2} (h : OpR X f r) : OpR X f (fun x y H Q => r x y H fun v H' => ∃ a vs, v = .ref a ∧ H' a = some (.lst vs) ∧ ∀ o, Q v (upd H' a (.frz o (.lst vs)))) :=
  fun pins s σ H x y v u Q I rx ry q => thn (h pins s σ H x y v u _ I rx ry q) fun _ _ z => EP.freeze z
theorem CallR.freeze {X : Cx} {f : Value} {r : List V → Hp → VK → Prop} (h : CallR X f r) : CallR X f (fun xs H Q => r xs H fun v H' => ∃ a vs, v = .ref a ∧ H' a = some (.lst vs) ∧ ∀ o, Q v (upd H' a (.frz o (.lst vs)))) :=
  fun pins s σ H xs us Q I r q => thn (h pins s σ H xs us _ I r q) fun _ _ z => EP.freeze z
/-- a new thing, then locked: all that was stands -/
theorem Ex.upd2 {H H' : Hp} {p : Addr} {o : HO} (e : Ex H H') (h : H p = none) : Ex H (upd H' p o) := fun a u q => by
  rw [upd_ne (ne_of_none q h)]; exact e a u q
end DL

set_option Elab.async false
set_option linter.all false
set_option maxRecDepth 100000
set_option maxHeartbeats 4000000
/-! Dm: tuple * int, any int that is not great. -/
namespace DL
open PySem PySem.Spec PyProof.Rows L2
theorem tuple_mulS (l : Addr) (items : Array Value) (n : Nat) (dd : Option Addr) (sl : Array (Option Value)) (x : Int) (u : Tok) (c0 : (decide (x < -(2 ^ 63)) || decide (x ≥ 2 ^ 63)) = false) (c1 : (items.isEmpty || x == 1) = true) :
    Meets (Builtin.«tuple.__mul__» ⟨[.ref l, .int x u], []⟩) (fun _ R s => s.heap.get? l = some { cls := .type "tuple", dict := dd, data := .seq items n, slots := sl } ∧
      R (.ok (.ret (Value.ref l))) s) :=
  .of_wp fun prog w A R s h => by
    obtain ⟨hp, g, d, tk, os⟩ := s
    obtain ⟨hl, h⟩ := h
    have f1 := AutoSeq1.idx_int
    wp_walk using wpAny_loadPart' hl
    repeat (first
      | (refine wpAny_ite_false (decide_eq_false (by rw [c0]; exact Bool.false_ne_true)) ?_; wp_walk using wpAny_loadPart' hl)
      | (refine wpAny_ite_true (decide_eq_true c1) ?_; wp_walk using wpAny_loadPart' hl))
    exact ⟨_, rfl, h⟩
theorem tuple_mulN (l : Addr) (items : Array Value) (n : Nat) (dd : Option Addr) (sl : Array (Option Value)) (x : Int) (u : Tok) (c0 : (decide (x < -(2 ^ 63)) || decide (x ≥ 2 ^ 63)) = false) (c1 : (items.isEmpty || x == 1) = false) (c2 : (decide (x ≤ 0) || items.isEmpty) = true) :
    Meets (Builtin.«tuple.__mul__» ⟨[.ref l, .int x u], []⟩) (fun _ R s => s.heap.get? l = some { cls := .type "tuple", dict := dd, data := .seq items n, slots := sl } ∧
      R (.ok (.ret (Value.ref s.heap.objs.size))) { s with heap := s.heap.push { cls := Value.type "tuple", data := Data.seq #[] }, toks := s.toks }) :=
  .of_wp fun prog w A R s h => by
    obtain ⟨hp, g, d, tk, os⟩ := s
    obtain ⟨hl, h⟩ := h
    have f1 := AutoSeq1.idx_int
    wp_walk using wpAny_loadPart' hl
    repeat (first
      | (refine wpAny_ite_false (decide_eq_false (by rw [c0]; exact Bool.false_ne_true)) ?_; wp_walk using wpAny_loadPart' hl)
      | (refine wpAny_ite_false (decide_eq_false (by rw [c1]; exact Bool.false_ne_true)) ?_; wp_walk using wpAny_loadPart' hl)
      | (refine wpAny_ite_true (decide_eq_true c2) ?_; wp_walk using wpAny_loadPart' hl))
    exact ⟨_, rfl, h⟩
section
variable {X : Cx}
theorem op_repTA : OpR X (binaryOp .Mult) (fun x y H Q => ∃ l k xs, x = .ref l ∧ y = .int k ∧ SqT X.K H l xs ∧ -1000 ≤ k ∧ k ≤ 1000 ∧ xs.length ≤ 1000 ∧
    ((k = 1 ∨ xs = []) → Q (.ref l) H) ∧ (¬ (k = 1 ∨ xs = []) → ∀ p, H p = none → Q (.ref p) (upd H p (.tup (List.replicate k.toNat xs).flatten)))) := by
  intro pins s σ H x y v u Q I rx ry h
  obtain ⟨l, k, xs, rfl, rfl, hT, hk0, hk1, hz, q1, q2⟩ := h
  by_cases hs : k = 1 ∨ xs = []
  · cases rx
    obtain ⟨t, rfl⟩ := ry
    obtain ⟨its, r, ⟨⟨cls, dd, data, sl⟩, ho, hc, n, hd⟩, _⟩ := I.tuple hT
    simp only at hc hd
    subst hc hd
    have hle : its.length = xs.length := r.length.symm
    have c0 : (decide (k < -(2 ^ 63)) || decide (k ≥ 2 ^ 63)) = false := by
      rw [decide_eq_false (by omega), decide_eq_false (by omega)] <;> rfl
    have c1 : (its.toArray.isEmpty || k == 1) = true := by
      rcases hs with rfl | rfl
      · simp
      · have : its = [] := List.eq_nil_of_length_eq_zero (by simpa using hle)
        subst this
        rfl
    refine wpAny_binaryOp_repeat_ref (T := "tuple") (U := "int") (by decide) ⟨_, ho, rfl⟩ (fun s' => typeIs_int s' k t) noFill_tuple_mul F.fills_int_mul F.slot_int_rmul repeat_tuple F.slot_int_index.lookup
      (call_meets F.slot_int_rmul (typeIs_int s k t) F.entry_int_rmul (F.args_int_rmul_2 _ _) (int_rmul_tuple k t l its.toArray n dd sl)
        ⟨ho, rfl, ⟨_, ho, rfl⟩, call_meets F.slot_tuple_mul ⟨_, ho, rfl⟩ F.entry_tuple_mul (F.args_tuple_mul_2 _ _) (tuple_mulS l its.toArray n dd sl k t c0 c1) ⟨ho, ?_⟩⟩)
    exact ⟨.ref l, H, I, rfl, q1 hs⟩
  · by_cases h2 : 2 ≤ k
    · exact op_repT pins s σ H _ _ v u Q I rx ry ⟨l, k, xs, rfl, rfl, hT, fun e => hs (.inr e), h2, hk1, hz, q2 hs⟩
    · cases rx
      obtain ⟨t, rfl⟩ := ry
      obtain ⟨its, r, ⟨⟨cls, dd, data, sl⟩, ho, hc, n, hd⟩, _⟩ := I.tuple hT
      simp only at hc hd
      subst hc hd
      have hle : its.length = xs.length := r.length.symm
      have hkn : k ≤ 0 := by
        have : k ≠ 1 := fun e => hs (.inl e)
        omega
      have c0 : (decide (k < -(2 ^ 63)) || decide (k ≥ 2 ^ 63)) = false := by
        rw [decide_eq_false (by omega), decide_eq_false (by omega)] <;> rfl
      have hn : its ≠ [] := fun e => hs (.inr (by
        rw [e] at hle
        exact List.eq_nil_of_length_eq_zero hle.symm))
      have hi : its.toArray.isEmpty = false := by
        cases its with
        | nil => exact absurd rfl hn
        | cons a b => rfl
      have c1 : (its.toArray.isEmpty || k == 1) = false := by
        rw [hi, Bool.false_or]
        exact beq_eq_false_iff_ne.mpr (by omega)
      have c2 : (decide (k ≤ 0) || its.toArray.isEmpty) = true := by
        rw [decide_eq_true hkn]; rfl
      have hrep : (List.replicate k.toNat xs).flatten = [] := by
        have : k.toNat = 0 := by omega
        rw [this]; rfl
      refine wpAny_binaryOp_repeat_ref (T := "tuple") (U := "int") (by decide) ⟨_, ho, rfl⟩ (fun s' => typeIs_int s' k t) noFill_tuple_mul F.fills_int_mul F.slot_int_rmul repeat_tuple F.slot_int_index.lookup
        (call_meets F.slot_int_rmul (typeIs_int s k t) F.entry_int_rmul (F.args_int_rmul_2 _ _) (int_rmul_tuple k t l its.toArray n dd sl)
          ⟨ho, rfl, ⟨_, ho, rfl⟩, call_meets F.slot_tuple_mul ⟨_, ho, rfl⟩ F.entry_tuple_mul (F.args_tuple_mul_2 _ _) (tuple_mulN l its.toArray n dd sl k t c0 c1 c2) ⟨ho, ?_⟩⟩)
      have q := q2 hs
      rw [hrep] at q
      refine ⟨.ref s.heap.objs.size, _, I.laid (t' := s.toks) (o := .tup []) (fun b ob q => Heap.get?_push_of_some _ q) (Nat.le_refl _) ?_, rfl, q _ (I.hok.fresh (Nat.le_refl _))⟩
      exact ⟨Nat.zero_le _, [], .nil, IsTup.new _ _⟩
end
end DL

set_option Elab.async false
set_option linter.all false
set_option maxRecDepth 100000
set_option maxHeartbeats 4000000
/-! D2: operations on data: what they give, and that the model does so. -/
namespace DL
open PySem PySem.Spec PyProof.Rows L2

/-- what a value shows when it is read -/
def OwnV (K : PySem.W.Frag) (H : Hp) (a : Addr) : PyData → Prop
  | .list l => ∃ vs, H a = some (.lst vs) ∧ Reps K H vs l
  | .dict l => ObD K H a l
  | _ => False
def RepV (K : PySem.W.Frag) (H : Hp) (v : V) (d : PyData) : Prop := Rep K H v d ∨ ∃ a, v = .ref a ∧ OwnV K H a d
def view (S : Sto) : Wv → Option PyData
  | .d x => some x
  | .own k => match S[k]? with
    | some (.lst l) => some (.list l)
    | some (.frz l) => some (.list l)
    | some (.dct l) => some (.dict l)
    | some (.fdc l) => some (.dict l)
    | _ => none
  | .fn _ _ _ => none
@[simp] theorem view_d (S : Sto) (x : PyData) : view S (.d x) = some x := rfl
section
variable {K : PySem.W.Frag} {ad : List Addr} {H H' : Hp} {v : V} {w : Wv} {S : Sto} {d : PyData}
theorem view_rep (r : RepW K ad H v w) (rs : RS K ad H S) (e : view S w = some d) : RepV K H v d := by
  cases w with
  | d x =>
    cases e
    exact .inl r
  | own k =>
    obtain ⟨a, ha, rfl⟩ := r
    dsimp only [view] at e
    cases hk : S[k]? with
    | none =>
      rw [hk] at e
      cases e
    | some o =>
      rw [hk] at e
      obtain ⟨a', ha', ob⟩ := rs.ob k o hk
      rw [ha] at ha'
      cases ha'
      cases o with
      | lst l =>
        cases e
        obtain ⟨vs, h1, h2⟩ := ob
        exact .inr ⟨a, rfl, vs, h1, h2⟩
      | dct l =>
        cases e
        exact .inr ⟨a, rfl, ob⟩
      | fdc l =>
        cases e
        exact .inl (FzD.rep ob)
      | frz l =>
        cases e
        obtain ⟨vs, o1, h1, h2⟩ := ob
        exact .inl (.lst (.inl ⟨o1, h1⟩) h2)
      | tab P q => cases e
  | fn f c q => cases e
theorem RepV.ex (e : Ex H H') (h : RepV K H v d) : RepV K H' v d := by
  rcases h with h | ⟨a, e1, e2⟩
  · exact .inl (Rep.stb e.stb d h)
  · refine .inr ⟨a, e1, ?_⟩
    cases d with
    | list l =>
      obtain ⟨vs, e3, e4⟩ := e2
      exact ⟨vs, e _ _ e3, Reps.stb e.stb l e4⟩
    | dict l => exact ObD.ex e e2
    | _ => exact e2.elim
theorem RepV.none (h : RepV K H v .none) : v = .non := by
  rcases h with h | ⟨_, _, z⟩
  · cases h; rfl
  · cases z
theorem RepV.bool {b : Bool} (h : RepV K H v (.bool b)) : v = .bl b := by
  rcases h with h | ⟨_, _, z⟩
  · cases h; rfl
  · cases z
theorem RepV.int {b : Int} (h : RepV K H v (.int b)) : v = .int b := by
  rcases h with h | ⟨_, _, z⟩
  · cases h; rfl
  · cases z
theorem RepV.str {b : Str} (h : RepV K H v (.str b)) : v = .str b ∧ strG b = true := by
  rcases h with h | ⟨_, _, z⟩
  · cases h with
    | str _ z => exact ⟨rfl, z⟩
  · cases z
theorem RepV.tupT {l : List PyData} (h : RepV K H v (.tuple l)) : ∃ a vs, v = .ref a ∧ TqT K H a vs l ∧ Reps K H vs l := by
  rcases h with h | ⟨_, _, z⟩
  · cases h with
    | tup h1 h2 => exact ⟨_, _, rfl, h1, h2⟩
  · cases z
theorem RepV.tup {l : List PyData} (h : RepV K H v (.tuple l)) : ∃ a vs, v = .ref a ∧ SqT K H a vs ∧ Reps K H vs l := by
  rcases h with h | ⟨_, _, z⟩
  · cases h with
    | tup h1 h2 => exact ⟨_, _, rfl, h1.sq, h2⟩
  · cases z
theorem RepV.lst {l : List PyData} (h : RepV K H v (.list l)) : ∃ a vs, v = .ref a ∧ SqL K H a vs ∧ Reps K H vs l := by
  rcases h with h | ⟨a, e, vs, h1, h2⟩
  · cases h with
    | lst h1 h2 => exact ⟨_, _, rfl, h1.sq, h2⟩
  · exact ⟨a, vs, e, SqL.of h1, h2⟩
end

/-! ### dicts: keys that are ints, texts, tuples of ints -/
def intsD : List PyData → Option (List Int)
  | [] => some []
  | .int b :: r => (intsD r).map (b :: ·)
  | _ => none
theorem intsD_map : ∀ b : List Int, intsD (b.map PyData.int) = some b
  | [] => rfl
  | i :: b => by rw [List.map_cons, intsD, intsD_map b]; rfl
theorem intsD_eq : ∀ {l : List PyData} {b : List Int}, intsD l = some b → l = b.map PyData.int
  | [], _, h => by cases h; rfl
  | .int i :: r, b, h => by
    rw [intsD] at h
    cases q : intsD r with
    | none => rw [q] at h; cases h
    | some c =>
      rw [q] at h
      cases h
      rw [List.map_cons, intsD_eq q]
  | .none :: _, _, h => by simp [intsD] at h
  | .bool _ :: _, _, h => by simp [intsD] at h
  | .str _ :: _, _, h => by simp [intsD] at h
  | .list _ :: _, _, h => by simp [intsD] at h
  | .tuple _ :: _, _, h => by simp [intsD] at h
  | .dict _ :: _, _, h => by simp [intsD] at h
def keyD : PyData → Option (Key ⊕ List Int)
  | .int i => some (.inl (.inl i))
  | .str x => some (.inl (.inr x))
  | .tuple l => (intsD l).map .inr
  | _ => none
theorem keyD_flat {k : PyData} {kk : Key} (h : keyD k = some (.inl kk)) : k = kD kk := by
  cases k <;> simp [keyD] at h
  · subst h; rfl
  · subst h; rfl
theorem keyD_tup {k : PyData} {b : List Int} (h : keyD k = some (.inr b)) : k = .tuple (b.map PyData.int) := by
  cases k <;> simp [keyD] at h
  rw [intsD_eq h]
theorem keyD_kD (k : Key) : keyD (kD k) = some (.inl k) := by cases k <;> rfl
theorem keyD_tb (b : List Int) : keyD (.tuple (b.map PyData.int)) = some (.inr b) := by rw [keyD, intsD_map]; rfl
def kEq (x y : PyData) : Bool := match keyD x with
  | some a => match keyD y with
    | some b => decide (a = b)
    | none => false
  | none => false
def isTupD : PyData → Bool
  | .tuple _ => true
  | _ => false
def kindOk (l : List (PyData × PyData)) (k : PyData) : Bool := (keyD k).isSome && l.all fun p => isTupD p.1 == isTupD k
def valD (l : List (PyData × PyData)) (k : PyData) : Option PyData := (l.find? fun p => kEq p.1 k).map (·.2)
def putD (l : List (PyData × PyData)) (k v : PyData) : List (PyData × PyData) := if (l.any fun p => kEq p.1 k) = true then l.map fun p => if kEq p.1 k = true then (p.1, v) else p else l ++ [(k, v)]
def dropD (l : List (PyData × PyData)) (k : PyData) : List (PyData × PyData) := l.filter fun p => !kEq p.1 k
section
variable {K : PySem.W.Frag} {H : Hp}
def RelOD (K : PySem.W.Frag) (H : Hp) : Option V → Option PyData → Prop
  | some v, some d => Rep K H v d
  | none, none => True
  | _, _ => False
theorem kEq_flat (a k : Key) : kEq (kD a) (kD k) = decide (a = k) := by
  unfold kEq
  rw [keyD_kD, keyD_kD]
  by_cases h : a = k
  · subst h; simp
  · have : ¬ (Sum.inl a : Key ⊕ List Int) = .inl k := fun z => h (by injection z)
    rw [decide_eq_false h]
    exact decide_eq_false this
theorem kEq_tup (a k : List Int) : kEq (.tuple (a.map PyData.int)) (.tuple (k.map PyData.int)) = decide (a.map (Sum.inl : Int → Key) = k.map Sum.inl) := by
  unfold kEq
  rw [keyD_tb, keyD_tb]
  by_cases h : a = k
  · subst h; simp
  · have : ¬ (Sum.inr a : Key ⊕ List Int) = .inr k := fun z => h (by injection z)
    have h2 : ¬ a.map (Sum.inl : Int → Key) = k.map Sum.inl := fun z => h ((List.map_inj_right (fun x y e => by injection e)).mp z)
    rw [decide_eq_false h2]
    exact decide_eq_false this
theorem RepKV.val (kk : Key) : ∀ {ps : List (Key × V)} {l : List (PyData × PyData)}, RepKV K H ps l → RelOD K H (valV ps kk) (valD l (kD kk))
  | _, _, .nil => trivial
  | _, _, .cons (k := k) h t => by
    have ih := RepKV.val kk t
    by_cases e : k = kk
    · unfold valD
      rw [valV_pos e, List.find?_cons, kEq_flat, decide_eq_true e]
      exact h
    · unfold valD at ih ⊢
      rw [valV_neg e, List.find?_cons, kEq_flat, decide_eq_false e]
      exact ih
theorem RepTV.val (kk : List Int) : ∀ {ps : List (List Key × V)} {l : List (PyData × PyData)}, RepTV K H ps l → RelOD K H (valV ps (kk.map Sum.inl)) (valD l (.tuple (kk.map PyData.int)))
  | _, _, .nil => trivial
  | _, _, .cons (b := k) h t => by
    have ih := RepTV.val kk t
    by_cases e : k.map (Sum.inl : Int → Key) = kk.map Sum.inl
    · unfold valD
      rw [valV_pos e, List.find?_cons, kEq_tup, decide_eq_true e]
      exact h
    · unfold valD at ih ⊢
      rw [valV_neg e, List.find?_cons, kEq_tup, decide_eq_false e]
      exact ih
theorem RepKV.any (kk : Key) : ∀ {ps : List (Key × V)} {l : List (PyData × PyData)}, RepKV K H ps l → (ps.any fun kv => decide (kv.1 = kk)) = l.any fun p => kEq p.1 (kD kk)
  | _, _, .nil => rfl
  | _, _, .cons (k := k) h t => by
    rw [List.any_cons, List.any_cons, RepKV.any kk t, kEq_flat]
theorem RepTV.any (kk : List Int) : ∀ {ps : List (List Key × V)} {l : List (PyData × PyData)}, RepTV K H ps l → (ps.any fun kv => decide (kv.1 = kk.map Sum.inl)) = l.any fun p => kEq p.1 (.tuple (kk.map PyData.int))
  | _, _, .nil => rfl
  | _, _, .cons (b := k) h t => by
    rw [List.any_cons, List.any_cons, RepTV.any kk t, kEq_tup]
theorem RepKV.repl (kk : Key) {v : V} {d : PyData} (r : Rep K H v d) : ∀ {ps : List (Key × V)} {l : List (PyData × PyData)}, RepKV K H ps l → RepKV K H (ps.map fun kv => if kv.1 = kk then (kv.1, v) else kv) (l.map fun p => if kEq p.1 (kD kk) = true then (p.1, d) else p)
  | _, _, .nil => .nil
  | _, _, .cons (k := k) h t => by
    rw [List.map_cons, List.map_cons]
    by_cases e : k = kk
    · rw [if_pos e, if_pos (by rw [kEq_flat]; exact decide_eq_true e)]
      exact .cons r (RepKV.repl kk r t)
    · rw [if_neg e, if_neg (by rw [kEq_flat, decide_eq_false e]; exact Bool.false_ne_true)]
      exact .cons h (RepKV.repl kk r t)
theorem RepTV.repl (kk : List Int) {v : V} {d : PyData} (r : Rep K H v d) : ∀ {ps : List (List Key × V)} {l : List (PyData × PyData)}, RepTV K H ps l → RepTV K H (ps.map fun kv => if kv.1 = kk.map Sum.inl then (kv.1, v) else kv) (l.map fun p => if kEq p.1 (.tuple (kk.map PyData.int)) = true then (p.1, d) else p)
  | _, _, .nil => .nil
  | _, _, .cons (b := k) h t => by
    rw [List.map_cons, List.map_cons]
    by_cases e : k.map (Sum.inl : Int → Key) = kk.map Sum.inl
    · rw [if_pos e, if_pos (by rw [kEq_tup]; exact decide_eq_true e)]
      exact .cons r (RepTV.repl kk r t)
    · rw [if_neg e, if_neg (by rw [kEq_tup, decide_eq_false e]; exact Bool.false_ne_true)]
      exact .cons h (RepTV.repl kk r t)
theorem RepKV.snoc {kk : Key} {v : V} {d : PyData} (r : Rep K H v d) : ∀ {ps : List (Key × V)} {l : List (PyData × PyData)}, RepKV K H ps l → RepKV K H (ps ++ [(kk, v)]) (l ++ [(kD kk, d)])
  | _, _, .nil => .cons r .nil
  | _, _, .cons h t => .cons h (RepKV.snoc r t)
theorem RepTV.snoc {kk : List Int} {v : V} {d : PyData} (r : Rep K H v d) : ∀ {ps : List (List Key × V)} {l : List (PyData × PyData)}, RepTV K H ps l → RepTV K H (ps ++ [(kk.map Sum.inl, v)]) (l ++ [(.tuple (kk.map PyData.int), d)])
  | _, _, .nil => .cons r .nil
  | _, _, .cons h t => .cons h (RepTV.snoc r t)
theorem RepKV.put (kk : Key) {v : V} {d : PyData} (r : Rep K H v d) {ps : List (Key × V)} {l : List (PyData × PyData)} (h : RepKV K H ps l) : RepKV K H (putK ps kk v) (putD l (kD kk) d) := by
  unfold putK putD
  rw [RepKV.any kk h]
  split
  · exact RepKV.repl kk r h
  · exact RepKV.snoc r h
theorem RepTV.put (kk : List Int) {v : V} {d : PyData} (r : Rep K H v d) {ps : List (List Key × V)} {l : List (PyData × PyData)} (h : RepTV K H ps l) : RepTV K H (putK ps (kk.map Sum.inl) v) (putD l (.tuple (kk.map PyData.int)) d) := by
  unfold putK putD
  rw [RepTV.any kk h]
  split
  · exact RepTV.repl kk r h
  · exact RepTV.snoc r h
theorem RepKV.length : ∀ {ps : List (Key × V)} {l : List (PyData × PyData)}, RepKV K H ps l → ps.length = l.length
  | _, _, .nil => rfl
  | _, _, .cons h t => by rw [List.length_cons, List.length_cons, RepKV.length t]
theorem RepTV.length : ∀ {ps : List (List Key × V)} {l : List (PyData × PyData)}, RepTV K H ps l → ps.length = l.length
  | _, _, .nil => rfl
  | _, _, .cons h t => by rw [List.length_cons, List.length_cons, RepTV.length t]
/-- a dict that is read -/
def DicR (K : PySem.W.Frag) (H : Hp) (a : Addr) (l : List (PyData × PyData)) : Prop :=
  (∃ ps, Rd H a (.dK ps) ∧ RepKV K H ps l) ∨ ∃ ps, Rd H a (.dT ps) ∧ RepTV K H ps l ∧ l ≠ []
theorem RepV.dic {v : V} {l : List (PyData × PyData)} (h : RepV K H v (.dict l)) : ∃ a, v = .ref a ∧ DicR K H a l := by
  rcases h with h | ⟨a, rfl, h⟩
  · obtain ⟨a, e, h⟩ := h.fzD
    refine ⟨a, e, ?_⟩
    rcases h with ⟨ps, o, h1, h2⟩ | ⟨ps, o, h1, h2, h3⟩
    · exact .inl ⟨ps, .inr ⟨o, h1⟩, h2⟩
    · exact .inr ⟨ps, .inr ⟨o, h1⟩, h2, h3⟩
  · refine ⟨a, rfl, ?_⟩
    rcases h with ⟨ps, h1, h2⟩ | ⟨ps, h1, h2, h3⟩
    · exact .inl ⟨ps, .inl h1, h2⟩
    · exact .inr ⟨ps, .inl h1, h2, h3⟩
theorem kst_ints : ∀ b : List Int, kst (b.map PyData.int) = false ∨ kst (b.map PyData.int) = true := fun b => by cases kst (b.map PyData.int) <;> simp
theorem reps_intsV : ∀ {b : List Int} {xs : List V}, Reps K H xs (b.map PyData.int) → xs = (b.map (Sum.inl : Int → Key)).map kV
  | [], _, h => by cases h; rfl
  | i :: b, _, h => by
    cases h with
    | cons h1 h2 =>
      cases h1
      rw [reps_intsV h2]
      rfl
/-- is the key one that may stand in a dict: ints, texts, tracked tuples of ints -/
def keyOk (k : PyData) : Bool := match k with
  | .tuple l => !kst l
  | _ => true
/-- the key's value -/
theorem key_val {v : V} {k : PyData} {kk : Key ⊕ List Int} (h : RepV K H v k) (e : keyD k = some kk) (ok : keyOk k = true) : (∃ c, kk = .inl c ∧ k = kD c ∧ v = kV c) ∨ ∃ (b : List Int) (c : Addr), kk = .inr b ∧ k = .tuple (b.map PyData.int) ∧ v = .ref c ∧ H c = some (.tup ((b.map (Sum.inl : Int → Key)).map kV)) := by
  cases kk with
  | inl c =>
    have ek := keyD_flat e
    refine .inl ⟨c, rfl, ek, ?_⟩
    cases c with
    | inl i => subst ek; exact h.int
    | inr x => subst ek; exact h.str.1
  | inr b =>
    have ek := keyD_tup e
    subst ek
    obtain ⟨c, vs, rfl, t, r⟩ := h.tupT
    refine .inr ⟨b, c, rfl, rfl, rfl, ?_⟩
    rw [← reps_intsV r]
    refine t.tr ?_
    unfold keyOk at ok
    simpa using ok
end
/-- an empty dict is one of tuples, too -/
theorem dT_empty {X : Cx} {H : Hp} {h : Heap} {a : Addr} (ok : HOk X.prog X.w H h) (e : Rd H a (.dK [])) : (a == sysModules) = false ∧ h.DictOfH (tupleKind (mixKind X.prog X.w)) a [] := by
  obtain ⟨_, hd, vs, rel, o, es, ep, h1, h2, h3, _, h5, _⟩ := dk_rd ok e
  cases rel
  refine ⟨hd, o, es, ep, h1, h2, h3, ?_, fun _ hx => by simp at hx, List.nodup_nil⟩
  have := PySem.Pairs.length h5
  exact List.eq_nil_of_length_eq_zero (by simpa using this)
/-- a look into a dict: as it stands, or an empty one that is asked for a tuple -/
theorem dic_look {K : PySem.W.Frag} {H : Hp} {a : Addr} {l : List (PyData × PyData)} {y : V} {k : PyData} (hd : DicR K H a l) (hk : kindOk l k = true) (ok : keyOk k = true) (ry : RepV K H y k) :
    (∃ o, DGet H a y o ∧ RelOD K H o (valD l k)) ∨ (valD l k = none ∧ Rd H a (.dK []) ∧ ∃ (b : List Int) (c : Addr), y = .ref c ∧ H c = some (.tup ((b.map (Sum.inl : Int → Key)).map kV))) := by
  unfold kindOk at hk
  rw [Bool.and_eq_true] at hk
  obtain ⟨kk, ek⟩ := Option.isSome_iff_exists.mp hk.1
  have hall := List.all_eq_true.mp hk.2
  rcases key_val ry ek ok with ⟨c, rfl, rfl, rfl⟩ | ⟨b, c, rfl, rfl, rfl, hc⟩
  · rcases hd with ⟨ps, h1, h2⟩ | ⟨ps, h1, h2, h3⟩
    · exact .inl ⟨_, .inl ⟨ps, c, h1, rfl, rfl⟩, RepKV.val c h2⟩
    · exfalso
      cases h2 with
      | nil => exact h3 rfl
      | cons h t =>
        have := hall _ (List.mem_cons_self ..)
        cases c <;> simp [isTupD, kD] at this
  · rcases hd with ⟨ps, h1, h2⟩ | ⟨ps, h1, h2, h3⟩
    · cases h2 with
      | nil => exact .inr ⟨rfl, h1, b, c, rfl, hc⟩
      | @cons k' v vs d ds h t =>
        exfalso
        have := hall _ (List.mem_cons_self ..)
        cases k' <;> simp [isTupD, kD] at this
    · exact .inl ⟨_, .inr ⟨ps, _, c, h1, rfl, hc, rfl⟩, RepTV.val b h2⟩
theorem RelOD.isSome {K : PySem.W.Frag} {H : Hp} {o : Option V} {d : Option PyData} (h : RelOD K H o d) : o.isSome = d.isSome := by
  cases o <;> cases d <;> first | rfl | exact h.elim

def rP2 (K : PySem.W.Frag) (g : PyData → PyData → Option PyData) : R2 := fun x y H Q => ∃ dx dy d, RepV K H x dx ∧ RepV K H y dy ∧ g dx dy = some d ∧ ∀ v H', Ex H H' → Rep K H' v d → Q v H'
def OpP (X : Cx) (f : Value → Value → Sem Value) (g : PyData → PyData → Option PyData) : Prop := OpR X f (rP2 X.K g)
/-- the ways of a rule, by what the data are -/
theorem opP_of {X : Cx} {f : Value → Value → Sem Value} {g : PyData → PyData → Option PyData}
    (h : ∀ (dx dy d : PyData), g dx dy = some d → ∀ (pins : List (Addr × Obj)) (s : Shared) (σ : L2.St) (H : Hp) (x y : V) (v u : Value) (Q : VK), Inv X pins σ H s → RelV x v → RelV y u →
      RepV X.K H x dx → RepV X.K H y dy → (∀ v H', Ex H H' → Rep X.K H' v d → Q v H') → wpAny (model X.prog X.w) X.A (f v u) (EP X pins σ Q) X.xe s) : OpP X f g := by
  intro pins s σ H x y v u Q I rx ry ⟨dx, dy, d, h1, h2, e, q⟩
  exact h dx dy d e pins s σ H x y v u Q I rx ry h1 h2 q

theorem strOk_append {x y : Str} (h1 : PyData.strOk x = true) (h2 : PyData.strOk y = true) : PyData.strOk (x ++ y) = true := by
  unfold PyData.strOk at *
  rw [PySem.Str.cps_append, ← Array.all_toList] at *
  rw [Array.toList_append, List.all_append, Bool.and_eq_true]
  exact ⟨by simpa using h1, by simpa using h2⟩
theorem strG_append {x y : Str} (h1 : strG x = true) (h2 : strG y = true) (hz : x.length + y.length ≤ sizeLine) : strG (x ++ y) = true :=
  strG_mk (by rw [PySem.Str.length_append]; exact hz) (strOk_append (strG_ok h1) (strG_ok h2))
/-! ### arithmetic -/
def subD : PyData → PyData → Option PyData
  | .int i, .int j => some (.int (i - j))
  | _, _ => none
def mulOk (i j : Int) : Bool := decide (i.natAbs.log2 + j.natAbs.log2 < 1000000)
def repOk (l : List PyData) (k : Int) : Bool := decide (-1000 ≤ k ∧ k ≤ 1000 ∧ l.length ≤ 1000)
def mulD : PyData → PyData → Option PyData
  | .int i, .int j => if mulOk i j then some (.int (i * j)) else none
  | .tuple l, .int k => if repOk l k then some (.tuple (List.replicate k.toNat l).flatten) else none
  | _, _ => none
theorem Reps.repM {K : PySem.W.Frag} {H : Hp} {vs : List V} {ds : List PyData} (h : Reps K H vs ds) : ∀ n : Nat, Reps K H (List.replicate n vs).flatten (List.replicate n ds).flatten
  | 0 => .nil
  | n + 1 => by
    rw [List.replicate_succ, List.replicate_succ, List.flatten_cons, List.flatten_cons]
    exact Reps.append h (Reps.repM h n)
def divOk (j : Int) : Bool := decide (j ≠ 0 ∧ j.natAbs.log2 < 9000)
def fdivD : PyData → PyData → Option PyData
  | .int i, .int j => if divOk j then some (.int (i.fdiv j)) else none
  | _, _ => none
def modD : PyData → PyData → Option PyData
  | .int i, .int j => if j = 0 then none else some (.int (i.fmod j))
  | _, _ => none
def powD : PyData → PyData → Option PyData
  | .int i, .int j => if 0 ≤ j ∧ j ≤ 1000000 ∧ i.natAbs < 2 ^ 64 then some (.int (i ^ j.toNat)) else none
  | _, _ => none
def addD : PyData → PyData → Option PyData
  | .int i, .int j => some (.int (i + j))
  | .str x, .str y => if x.length + y.length ≤ sizeLine then some (.str (x ++ y)) else none
  | .tuple l, .tuple m => if l.length + m.length ≤ sizeLine then some (.tuple (l ++ m)) else none
  | .list l, .list m => if l.length + m.length ≤ sizeLine then some (.list (l ++ m)) else none
  | _, _ => none
section
variable {X : Cx}
theorem rep_int {K : PySem.W.Frag} {H : Hp} {i : Int} : Rep K H (.int i) (.int i) := .int i
theorem op_subD : OpP X (binaryOp .Sub) subD := opP_of fun dx dy d e pins s σ H x y v u Q I rx ry h1 h2 q => by
  unfold subD at e
  split at e
  · cases e
    cases h1.int; cases h2.int
    exact op_sub pins s σ H _ _ v u Q I rx ry ⟨_, _, rfl, rfl, q _ H (Ex.refl H) (.int _)⟩
  · cases e
theorem op_mulD : OpP X (binaryOp .Mult) mulD := opP_of fun dx dy d e pins s σ H x y v u Q I rx ry h1 h2 q => by
  unfold mulD at e
  split at e
  · split at e
    · rename_i hm
      cases e
      cases h1.int; cases h2.int
      exact op_mulW pins s σ H _ _ v u Q I rx ry ⟨_, _, rfl, rfl, (show CMulW _ _ from of_decide_eq_true (p := _ < _) hm), q _ H (Ex.refl H) (.int _)⟩
    · cases e
  · rename_i l k
    split at e
    · rename_i hm
      cases e
      cases h2.int
      obtain ⟨a, vs, rfl, t, r⟩ := h1.tupT
      have hm' := of_decide_eq_true (p := _ ∧ _) hm
      have hlen := r.length
      refine op_repTA pins s σ H _ _ v u Q I rx ry ⟨a, k, vs, rfl, rfl, t.sq, hm'.1, hm'.2.1, by omega, fun hs => ?_, fun hs p hp => ?_⟩
      · have hf : (List.replicate k.toNat l).flatten = l := by
          rcases hs with rfl | rfl
          · show (List.replicate 1 l).flatten = l
            simp
          · cases r
            simp
        rw [hf] at q
        exact q _ H (Ex.refl H) (.tup t r)
      · have ex : Ex H (upd H p (.tup (List.replicate k.toNat vs).flatten)) := Ex.new hp
        exact q _ _ ex (.tup (.inl upd_same) (Reps.stb ex.stb _ (Reps.repM r _)))
    · cases e
  · cases e
theorem op_fdivG : OpR X (binaryOp .FloorDiv) (rI (fun _ j => j ≠ 0 ∧ j.natAbs.log2 < 9000) fun i j => .int (i.fdiv j)) := opI fun _ _ _ _ _ _ _ hc q => floordiv_int hc.1 q (.inl (PyProof.noPylong_of_log2 hc.2))
theorem op_fdivD : OpP X (binaryOp .FloorDiv) fdivD := opP_of fun dx dy d e pins s σ H x y v u Q I rx ry h1 h2 q => by
  unfold fdivD at e
  split at e
  · split at e
    · rename_i hm
      cases e
      cases h1.int; cases h2.int
      exact op_fdivG pins s σ H _ _ v u Q I rx ry ⟨_, _, rfl, rfl, of_decide_eq_true hm, q _ H (Ex.refl H) (.int _)⟩
    · cases e
  · cases e
theorem op_modD : OpP X (binaryOp .Mod) modD := opP_of fun dx dy d e pins s σ H x y v u Q I rx ry h1 h2 q => by
  unfold modD at e
  split at e
  · split at e
    · cases e
    · rename_i hm
      cases e
      cases h1.int; cases h2.int
      exact op_modN pins s σ H _ _ v u Q I rx ry ⟨_, _, rfl, rfl, hm, q _ H (Ex.refl H) (.int _)⟩
  · cases e
theorem op_powD : OpP X (binaryOp .Pow) powD := opP_of fun dx dy d e pins s σ H x y v u Q I rx ry h1 h2 q => by
  unfold powD at e
  split at e
  · split at e
    · rename_i hm
      cases e
      cases h1.int; cases h2.int
      exact op_pow pins s σ H _ _ v u Q I rx ry ⟨_, _, rfl, rfl, hm, q _ H (Ex.refl H) (.int _)⟩
    · cases e
  · cases e
/-- a list + a list, whatever they are -/
theorem cat_lists {A : Around} {E : Value → Shared → Prop} {s : Shared} {prog : Program} {w : World} {t b : Addr} {vs ws : List Value} {Q : Value → Shared → Prop} (ht : PlainL s.heap t vs.toArray) (hb : PlainL s.heap b ws.toArray)
    (hz : vs.length + ws.length ≤ sizeLine) (h : Q (.ref s.heap.objs.size) { s with heap := s.heap.push { cls := .type "list", data := .seq (vs ++ ws).toArray } }) : wpAny (model prog w) A (binaryOp .Add (.ref t) (.ref b)) Q E s := by
  obtain ⟨⟨cls, dd, data, sl⟩, n, ho, hc, hdd, hd⟩ := id ht
  obtain ⟨⟨cls2, dd2, data2, sl2⟩, n2, ho2, hc2, hdd2, hd2⟩ := id hb
  simp only at hc hd hc2 hd2 hdd hdd2
  subst hc hd hc2 hd2 hdd hdd2
  have e : vs.toArray ++ ws.toArray = (vs ++ ws).toArray := by simp
  exact concat_meets ⟨_, ho, rfl⟩ ⟨_, ho2, rfl⟩ noFill_list_add seq_list_add PySem.F.slot_list_add PySem.F.entry_list_add (PySem.F.args_list_add_2 _ _)
    (PyProof.Rows.list_addW t b vs.toArray ws.toArray n n2 Option.none Option.none sl sl2 (by rw [List.size_toArray, List.size_toArray]; exact hz)) ⟨ho, ho2, by rw [e]; exact h⟩
theorem op_addD : OpP X (binaryOp .Add) addD := opP_of fun dx dy d e pins s σ H x y v u Q I rx ry h1 h2 q => by
  unfold addD at e
  split at e
  · cases e
    cases h1.int; cases h2.int
    exact op_add pins s σ H _ _ v u Q I rx ry ⟨_, _, rfl, rfl, q _ H (Ex.refl H) (.int _)⟩
  · split at e
    · rename_i hz
      cases e
      obtain ⟨rfl, z1⟩ := h1.str
      obtain ⟨rfl, z2⟩ := h2.str
      exact op_add_str pins s σ H _ _ v u Q I rx ry ⟨_, _, rfl, rfl, hz, q _ H (Ex.refl H) (.str _ (strG_append z1 z2 hz))⟩
    · cases e
  · split at e
    · rename_i hz
      cases e
      obtain ⟨a, vs, rfl, t1, r1⟩ := h1.tupT
      obtain ⟨b, us, rfl, t2, r2⟩ := h2.tupT
      refine op_catA pins s σ H _ _ v u Q I rx ry ⟨a, b, vs, us, rfl, rfl, t1.sq, t2.sq, by rw [r1.length, r2.length]; exact hz, fun z => ?_, fun _ z => ?_, fun _ _ p hp => ?_⟩
      · subst z
        cases r1
        exact q _ H (Ex.refl H) (.tup t2 r2)
      · subst z
        cases r2
        rw [List.append_nil] at q
        exact q _ H (Ex.refl H) (.tup t1 r1)
      · have ex : Ex H (upd H p (.tup (vs ++ us))) := Ex.new hp
        exact q _ _ ex (.tup (.inl upd_same) (Reps.append (Reps.stb ex.stb _ r1) (Reps.stb ex.stb _ r2)))
    · cases e
  · split at e
    · rename_i hz
      cases e
      obtain ⟨a, vs, rfl, t1, r1⟩ := h1.lst
      obtain ⟨b, us, rfl, t2, r2⟩ := h2.lst
      cases rx
      cases ry
      obtain ⟨its, rv1, p1, z1⟩ := I.list t1
      obtain ⟨its2, rv2, p2, z2⟩ := I.list t2
      have hl : its.length + its2.length ≤ sizeLine := by rw [← rv1.length, ← rv2.length, r1.length, r2.length]; exact hz
      refine cat_lists p1 p2 hl (EP.freeze ?_)
      refine ⟨.ref _, _, I.lnew (t' := s.toks) (rv1.append rv2) (by rw [List.length_append, r1.length, r2.length]; exact hz), rfl, _, _, rfl, upd_same, fun o => ?_⟩
      have ex : Ex H (upd (upd H s.heap.objs.size (.lst (vs ++ us))) s.heap.objs.size (.frz o (.lst (vs ++ us)))) := (Ex.new I.fresh).upd2 I.fresh
      exact q _ _ ex (.lst (.inl ⟨o, upd_same⟩) (Reps.append (Reps.stb ex.stb _ r1) (Reps.stb ex.stb _ r2)))
    · cases e
  · cases e

/-! ### comparisons -/
def ltD : PyData → PyData → Option PyData
  | .int i, .int j => some (.bool (decide (i < j)))
  | _, _ => none
def leD : PyData → PyData → Option PyData
  | .int i, .int j => some (.bool (decide (i ≤ j)))
  | _, _ => none
def gtD : PyData → PyData → Option PyData
  | .int i, .int j => some (.bool (decide (j < i)))
  | _, _ => none
def geD : PyData → PyData → Option PyData
  | .int i, .int j => some (.bool (decide (j ≤ i)))
  | _, _ => none
theorem op_ltD : OpP X (compareOp .Lt) ltD := opP_of fun dx dy d e pins s σ H x y v u Q I rx ry h1 h2 q => by
  unfold ltD at e
  split at e
  · cases e
    cases h1.int; cases h2.int
    exact op_lt pins s σ H _ _ v u Q I rx ry ⟨_, _, rfl, rfl, q _ H (Ex.refl H) (.bl _)⟩
  · cases e
theorem op_leD : OpP X (compareOp .LtE) leD := opP_of fun dx dy d e pins s σ H x y v u Q I rx ry h1 h2 q => by
  unfold leD at e
  split at e
  · cases e
    cases h1.int; cases h2.int
    exact op_le pins s σ H _ _ v u Q I rx ry ⟨_, _, rfl, rfl, q _ H (Ex.refl H) (.bl _)⟩
  · cases e
theorem op_gtD : OpP X (compareOp .Gt) gtD := opP_of fun dx dy d e pins s σ H x y v u Q I rx ry h1 h2 q => by
  unfold gtD at e
  split at e
  · cases e
    cases h1.int; cases h2.int
    exact op_gt pins s σ H _ _ v u Q I rx ry ⟨_, _, rfl, rfl, q _ H (Ex.refl H) (.bl _)⟩
  · cases e
theorem op_geD : OpP X (compareOp .GtE) geD := opP_of fun dx dy d e pins s σ H x y v u Q I rx ry h1 h2 q => by
  unfold geD at e
  split at e
  · cases e
    cases h1.int; cases h2.int
    exact op_ge pins s σ H _ _ v u Q I rx ry ⟨_, _, rfl, rfl, q _ H (Ex.refl H) (.bl _)⟩
  · cases e
/-! data without dicts may be compared -/
mutual
def noDict : PyData → Bool
  | .none | .bool _ | .int _ | .str _ => true
  | .list xs | .tuple xs => noDicts xs
  | .dict _ => false
def noDicts : List PyData → Bool
  | [] => true
  | x :: xs => noDict x && noDicts xs
end
def cmpOk (d : PyData) : Bool := noDict d && decide (d.depth ≤ 64)
mutual
theorem Rep.dp {K : PySem.W.Frag} {H : Hp} : ∀ (d : PyData) {v : V}, Rep K H v d → noDict d = true → Dp K H v d ∧ d.canLay0 = true
  | .none, _, h, _ => by cases h; exact ⟨.non, by simp [PyData.canLay0]⟩
  | .bool _, _, h, _ => by cases h; exact ⟨.bl _, by simp [PyData.canLay0]⟩
  | .int _, _, h, _ => by cases h; exact ⟨.int _, by simp [PyData.canLay0]⟩
  | .str _, _, h, _ => by
    cases h with
    | str _ z => exact ⟨.str _, by simp [PyData.canLay0, strG_ok z]⟩
  | .list ds, _, h, c => by
    cases h with
    | lst h1 h2 =>
      obtain ⟨q1, q2⟩ := Reps.dp ds h2 (by simpa [noDict] using c)
      exact ⟨.lst h1.sq q1, by simpa [PyData.canLay0] using q2⟩
  | .tuple ds, _, h, c => by
    cases h with
    | tup h1 h2 =>
      obtain ⟨q1, q2⟩ := Reps.dp ds h2 (by simpa [noDict] using c)
      exact ⟨.tup h1.sq q1, by simpa [PyData.canLay0] using q2⟩
  | .dict ds, _, h, c => by simp [noDict] at c
theorem Reps.dp {K : PySem.W.Frag} {H : Hp} : ∀ (ds : List PyData) {vs : List V}, Reps K H vs ds → noDicts ds = true → DpAll K H vs ds ∧ PyData.canLayAll0 ds = true
  | [], _, h, _ => by cases h; exact ⟨.nil, by simp [PyData.canLayAll0]⟩
  | d :: ds, _, h, c => by
    cases h with
    | cons h1 h2 =>
      rw [noDicts, Bool.and_eq_true] at c
      obtain ⟨q1, q2⟩ := Rep.dp d h1 c.1
      obtain ⟨q3, q4⟩ := Reps.dp ds h2 c.2
      exact ⟨.cons q1 q3, by rw [PyData.canLayAll0, q2, q4]; rfl⟩
end
theorem RepV.dp {K : PySem.W.Frag} {H : Hp} {v : V} {d : PyData} (h : RepV K H v d) (c : cmpOk d = true) : Dp K H v d ∧ SeqAt.shaped d = true := by
  unfold cmpOk at c
  rw [Bool.and_eq_true] at c
  have sh : d.canLay0 = true → SeqAt.shaped d = true := fun q => by
    unfold SeqAt.shaped
    rw [q, Bool.true_and]
    exact c.2
  rcases h with h | ⟨a, e1, e2⟩
  · obtain ⟨q1, q2⟩ := Rep.dp d h c.1
    exact ⟨q1, sh q2⟩
  · subst e1
    cases d with
    | list l =>
      obtain ⟨vs, e3, e4⟩ := e2
      obtain ⟨q1, q2⟩ := Reps.dp l e4 (by simpa [noDict] using c.1)
      exact ⟨.lst (SqL.of e3) q1, sh (by simpa [PyData.canLay0] using q2)⟩
    | dict l => simp [noDict] at c
    | _ => exact e2.elim
def eqD (x y : PyData) : Option PyData := if cmpOk x && cmpOk y then some (.bool (PyData.eqv x y)) else none
def neD (x y : PyData) : Option PyData := if cmpOk x && cmpOk y then some (.bool (!PyData.eqv x y)) else none
theorem op_eqDD (hu : X.A.units + 64 < cLine) : OpP X (compareOp .Eq) eqD := opP_of fun dx dy d e pins s σ H x y v u Q I rx ry h1 h2 q => by
  unfold eqD at e
  split at e
  · rename_i hc
    cases e
    rw [Bool.and_eq_true] at hc
    obtain ⟨p1, s1⟩ := h1.dp hc.1
    obtain ⟨p2, s2⟩ := h2.dp hc.2
    exact op_eqD hu pins s σ H _ _ v u Q I rx ry ⟨dx, dy, p1, p2, s1, s2, q _ H (Ex.refl H) (.bl _)⟩
  · cases e
theorem op_neDD (hu : X.A.units + 64 < cLine) : OpP X (compareOp .NotEq) neD := opP_of fun dx dy d e pins s σ H x y v u Q I rx ry h1 h2 q => by
  unfold neD at e
  split at e
  · rename_i hc
    cases e
    rw [Bool.and_eq_true] at hc
    obtain ⟨p1, s1⟩ := h1.dp hc.1
    obtain ⟨p2, s2⟩ := h2.dp hc.2
    exact op_neD hu pins s σ H _ _ v u Q I rx ry ⟨dx, dy, p1, p2, s1, s2, q _ H (Ex.refl H) (.bl _)⟩
  · cases e
def flatD : PyData → Bool
  | .none | .bool _ | .int _ | .str _ => true
  | _ => false
theorem flat_rep {K : PySem.W.Frag} {H : Hp} {v : V} {d : PyData} (h : Rep K H v d) (c : flatD d = true) : flatV v = true := by
  cases h <;> first | rfl | (simp [flatD] at c)
theorem flat_repV {K : PySem.W.Frag} {H : Hp} {v : V} {d : PyData} (h : RepV K H v d) (c : flatD d = true) : Rep K H v d := by
  rcases h with h | ⟨a, e1, e2⟩
  · exact h
  · cases d <;> first | exact e2.elim | simp [flatD] at c
theorem flat_eqV {K : PySem.W.Frag} {H : Hp} {v u : V} {d e : PyData} (h : Rep K H v d) (h' : Rep K H u e) (c : flatD d = true) (c' : flatD e = true) : eqV v u = PyData.eqv d e := by
  cases h <;> first
    | (simp [flatD] at c; done)
    | (cases h' <;> first | (simp [flatD] at c'; done) | (simp [eqV, PyData.eqv]))
theorem flats_rep {K : PySem.W.Frag} {H : Hp} {x : V} {dx : PyData} (hx : Rep K H x dx) (cx : flatD dx = true) : ∀ {vs : List V} {ds : List PyData}, Reps K H vs ds → ds.all flatD = true → vs.all flatV = true ∧ inV x vs = ds.any fun d => PyData.eqv d dx
  | [], _, h, _ => by cases h; exact ⟨rfl, rfl⟩
  | v :: vs, _, h, c => by
    cases h with
    | cons h1 h2 =>
      rw [List.all_cons, Bool.and_eq_true] at c
      obtain ⟨q1, q2⟩ := flats_rep hx cx h2 c.2
      refine ⟨by rw [List.all_cons, q1, flat_rep h1 c.1]; rfl, ?_⟩
      unfold inV at q2 ⊢
      rw [List.any_cons, List.any_cons, q2, flat_eqV h1 hx c.1 cx]
def inD : PyData → PyData → Option PyData
  | .str x, .str z => if x.cps.size = 1 then some (.bool (decide (x.cps.getD 0 0 ∈ z.cps.toList))) else none
  | x, .list l => if flatD x && l.all flatD then some (.bool (l.any fun d => PyData.eqv d x)) else none
  | x, .tuple l => if flatD x && l.all flatD then some (.bool (l.any fun d => PyData.eqv d x)) else none
  | x, .dict l => if kindOk l x && keyOk x then some (.bool (valD l x).isSome) else none
  | _, _ => none
def notInD (x y : PyData) : Option PyData := match inD x y with
  | some (.bool b) => some (.bool (!b))
  | _ => none
theorem sign_of {x : Str} (h : x.cps.size = 1) : x = ⟨#[x.cps.getD 0 0]⟩ := by
  cases x with
  | mk c =>
    congr 1
    apply Array.ext
    · simpa using h
    · intro i h1 h2
      have : i = 0 := by simp at h2; omega
      subst this
      simp [Array.getD, h]
theorem op_inD (hu : X.A.units + 64 < cLine) : OpP X (compareOp .In) inD := opP_of fun dx dy d e pins s σ H x y v u Q I rx ry h1 h2 q => by
  unfold inD at e
  split at e
  · split at e
    · rename_i hs
      cases e
      obtain ⟨rfl, z1⟩ := h1.str
      obtain ⟨rfl, z2⟩ := h2.str
      exact op_in_sign pins s σ H _ _ v u Q I rx ry ⟨_, _, congrArg V.str (sign_of hs), rfl, q _ H (Ex.refl H) (.bl _)⟩
    · cases e
  · split at e
    · rename_i hc
      cases e
      rw [Bool.and_eq_true] at hc
      obtain ⟨a, vs, rfl, t, r⟩ := h2.lst
      obtain ⟨q1, q2⟩ := flats_rep (flat_repV h1 hc.1) hc.1 r hc.2
      refine op_in_seq pins s σ H _ _ v u Q I rx ry ⟨a, vs, rfl, .inl t, flat_rep (flat_repV h1 hc.1) hc.1, q1, ?_⟩
      rw [if_neg Bool.false_ne_true, q2]
      exact q _ H (Ex.refl H) (.bl _)
    · cases e
  · split at e
    · rename_i hc
      cases e
      rw [Bool.and_eq_true] at hc
      obtain ⟨a, vs, rfl, t, r⟩ := h2.tup
      obtain ⟨q1, q2⟩ := flats_rep (flat_repV h1 hc.1) hc.1 r hc.2
      refine op_in_seq pins s σ H _ _ v u Q I rx ry ⟨a, vs, rfl, .inr t, flat_rep (flat_repV h1 hc.1) hc.1, q1, ?_⟩
      rw [if_neg Bool.false_ne_true, q2]
      exact q _ H (Ex.refl H) (.bl _)
    · cases e
  · split at e
    · rename_i hc
      cases e
      rw [Bool.and_eq_true] at hc
      obtain ⟨a, rfl, hd⟩ := h2.dic
      cases ry
      rcases dic_look hd hc.1 hc.2 h1 with ⟨o, g, ro⟩ | ⟨hv, h0, b, c, rfl, hc'⟩
      · refine d_in (by omega) I g rx fun s' I' => ⟨.bl _, H, I', rfl, ?_⟩
        rw [ro.isSome]
        exact q _ H (Ex.refl H) (.bl _)
      · obtain ⟨hm, dd⟩ := dT_empty I.hok h0
        cases rx
        refine wpAny_in_heap (tupleKind_room_in1 (by omega)) (key_of I.hok hc') hm dd ?_
        rw [hv] at q
        exact ⟨.bl _, H, I.tok _, rfl, q _ H (Ex.refl H) (.bl _)⟩
    · cases e
  · cases e
theorem op_notInD (hu : X.A.units + 64 < cLine) : OpP X (compareOp .NotIn) notInD := opP_of fun dx dy d e pins s σ H x y v u Q I rx ry h1 h2 q => by
  unfold notInD at e
  split at e
  · rename_i b0 e0
    cases e
    unfold inD at e0
    split at e0
    · split at e0
      · rename_i hs
        cases e0
        obtain ⟨rfl, z1⟩ := h1.str
        obtain ⟨rfl, z2⟩ := h2.str
        exact op_notIn_sign pins s σ H _ _ v u Q I rx ry ⟨_, _, congrArg V.str (sign_of hs), rfl, q _ H (Ex.refl H) (.bl _)⟩
      · cases e0
    · split at e0
      · rename_i hc
        cases e0
        rw [Bool.and_eq_true] at hc
        obtain ⟨a, vs, rfl, t, r⟩ := h2.lst
        obtain ⟨q1, q2⟩ := flats_rep (flat_repV h1 hc.1) hc.1 r hc.2
        refine op_notIn_seq pins s σ H _ _ v u Q I rx ry ⟨a, vs, rfl, .inl t, flat_rep (flat_repV h1 hc.1) hc.1, q1, ?_⟩
        rw [if_pos rfl, q2]
        exact q _ H (Ex.refl H) (.bl _)
      · cases e0
    · split at e0
      · rename_i hc
        cases e0
        rw [Bool.and_eq_true] at hc
        obtain ⟨a, vs, rfl, t, r⟩ := h2.tup
        obtain ⟨q1, q2⟩ := flats_rep (flat_repV h1 hc.1) hc.1 r hc.2
        refine op_notIn_seq pins s σ H _ _ v u Q I rx ry ⟨a, vs, rfl, .inr t, flat_rep (flat_repV h1 hc.1) hc.1, q1, ?_⟩
        rw [if_pos rfl, q2]
        exact q _ H (Ex.refl H) (.bl _)
      · cases e0
    · split at e0
      · rename_i hc
        cases e0
        rw [Bool.and_eq_true] at hc
        obtain ⟨a, rfl, hd⟩ := h2.dic
        cases ry
        rcases dic_look hd hc.1 hc.2 h1 with ⟨o, g, ro⟩ | ⟨hv, h0, b, c, rfl, hc'⟩
        · refine d_notIn (by omega) I g rx fun s' I' => ⟨.bl _, H, I', rfl, ?_⟩
          rw [ro.isSome]
          exact q _ H (Ex.refl H) (.bl _)
        · obtain ⟨hm, dd⟩ := dT_empty I.hok h0
          cases rx
          refine wpAny_notIn_heap (tupleKind_room_in1 (by omega)) (key_of I.hok hc') hm dd ?_
          rw [hv] at q
          exact ⟨.bl _, H, I.tok _, rfl, q _ H (Ex.refl H) (.bl _)⟩
      · cases e0
    · cases e0
  · cases e
def isNon : PyData → Bool
  | .none => true
  | _ => false
/-- is it just this truth -/
def isBl (b : Bool) : PyData → Bool
  | .bool c => decide (c = b)
  | _ => false
def isNoneD (x y : PyData) : Option PyData := match y with
  | .none => some (.bool (isNon x))
  | .bool b => some (.bool (isBl b x))
  | _ => none
def isNotNoneD (x y : PyData) : Option PyData := match y with
  | .none => some (.bool (!isNon x))
  | .bool b => some (.bool (!isBl b x))
  | _ => none
theorem none_dec {K : PySem.W.Frag} {H : Hp} {v : V} {d : PyData} (h : RepV K H v d) : decide (v = V.non) = isNon d := by
  rcases h with h | ⟨a, e1, e2⟩
  · cases h <;> simp [isNon]
  · subst e1
    cases d <;> first | exact e2.elim | simp [isNon]
theorem bool_is {K : PySem.W.Frag} {H : Hp} {x : V} {v : Value} {d : PyData} (b : Bool) (h : RepV K H x d) (r : RelV x v) : plainIs v (.bool b) = true ∧ (v == Value.bool b) = isBl b d := by
  cases d with
  | none => cases h.none; cases r; exact ⟨rfl, rfl⟩
  | bool c => cases h.bool; cases r; exact ⟨rfl, by cases c <;> cases b <;> rfl⟩
  | int i => cases h.int; obtain ⟨t, rfl⟩ := r; exact ⟨rfl, rfl⟩
  | str z => cases h.str.1; obtain ⟨t, rfl⟩ := r; exact ⟨rfl, rfl⟩
  | list l => obtain ⟨a, vs, rfl, _⟩ := h.lst; cases r; exact ⟨rfl, rfl⟩
  | tuple l => obtain ⟨a, vs, rfl, _⟩ := h.tup; cases r; exact ⟨rfl, rfl⟩
  | dict l => obtain ⟨a, rfl, _⟩ := h.dic; cases r; exact ⟨rfl, rfl⟩
theorem op_isNoneD : OpP X (compareOp .Is) isNoneD := opP_of fun dx dy d e pins s σ H x y v u Q I rx ry h1 h2 q => by
  unfold isNoneD at e
  split at e
  · cases e
    refine op_isN pins s σ H _ _ v u Q I rx ry ⟨h2.none, ?_⟩
    rw [none_dec h1]
    exact q _ H (Ex.refl H) (.bl _)
  · rename_i b
    cases e
    cases h2.bool
    cases (show u = Value.bool b from ry)
    obtain ⟨g1, g2⟩ := bool_is b h1 rx
    refine wpAny_is_plain g1 ⟨.bl _, H, I, rfl, ?_⟩
    rw [g2]
    exact q _ H (Ex.refl H) (.bl _)
  · cases e
theorem op_isNotNoneD : OpP X (compareOp .IsNot) isNotNoneD := opP_of fun dx dy d e pins s σ H x y v u Q I rx ry h1 h2 q => by
  unfold isNotNoneD at e
  split at e
  · cases e
    refine op_notN pins s σ H _ _ v u Q I rx ry ⟨h2.none, ?_⟩
    rw [none_dec h1]
    exact q _ H (Ex.refl H) (.bl _)
  · rename_i b
    cases e
    cases h2.bool
    cases (show u = Value.bool b from ry)
    obtain ⟨g1, g2⟩ := bool_is b h1 rx
    refine wpAny_isNot_plain g1 ⟨.bl _, H, I, rfl, ?_⟩
    rw [g2]
    exact q _ H (Ex.refl H) (.bl _)
  · cases e
/-! ### truth -/
def truD : PyData → Option Bool
  | .none => some false
  | .bool b => some b
  | .int i => some (i != 0)
  | .str x => some ((x.length : Int) != 0)
  | .list l => some (!l.isEmpty)
  | .tuple l => some (!l.isEmpty)
  | .dict _ => none
theorem emp_rep {K : PySem.W.Frag} {H : Hp} {vs : List V} {ds : List PyData} (h : Reps K H vs ds) : vs.isEmpty = ds.isEmpty := by
  cases h <;> rfl
theorem truV_of {H : Hp} {v : V} {d : PyData} {b : Bool} (h : RepV X.K H v d) (e : truD d = some b) : TruV X.K v H b := by
  cases d with
  | none => cases h.none; cases e; rfl
  | bool x => cases h.bool; cases e; rfl
  | int i => cases h.int; cases e; rfl
  | str x =>
    obtain ⟨rfl, z⟩ := h.str
    cases e
    exact ⟨strG_len z, rfl⟩
  | list l =>
    obtain ⟨a, vs, rfl, t, r⟩ := h.lst
    cases e
    exact .inl ⟨vs, t, by rw [emp_rep r]⟩
  | tuple l =>
    obtain ⟨a, vs, rfl, t, r⟩ := h.tup
    cases e
    exact .inr (.inl ⟨vs, t, by rw [emp_rep r]⟩)
  | dict _ => cases e
/-! ### items -/
def ixD : PyData → PyData → Option PyData
  | .list l, .int i => atI l i
  | .tuple l, .int i => atI l i
  | .str z, .int i => (atI z.cps.toList i).map fun c => .str ⟨#[c]⟩
  | .dict l, k => if kindOk l k && keyOk k then valD l k else none
  | _, _ => none
theorem atI_rep {K : PySem.W.Frag} {H : Hp} {vs : List V} {ds : List PyData} {i : Int} {d : PyData} (r : Reps K H vs ds) (e : atI ds i = some d) : ∃ v, atI vs i = some v ∧ Rep K H v d := by
  unfold atI at *
  rw [r.length]
  cases q : ixN ds.length i with
  | none => rw [q] at e; cases e
  | some j =>
    rw [q] at e
    exact r.get e
theorem atI_mem {α : Type} {xs : List α} {i : Int} {x : α} (e : atI xs i = some x) : x ∈ xs := by
  unfold atI at e
  cases q : ixN xs.length i with
  | none => rw [q] at e; cases e
  | some j =>
    rw [q] at e
    exact List.mem_of_getElem? e
theorem sign_G {z : Str} {c : Nat} (h : strG z = true) (m : c ∈ z.cps.toList) : strG ⟨#[c]⟩ = true := by
  refine strG_mk (by show 1 ≤ sizeLine; decide) ?_
  have q := strG_ok h
  unfold PyData.strOk at q ⊢
  rw [← Array.all_toList, List.all_eq_true] at q
  have := q c m
  simpa using this
theorem ix_D (hu : X.A.units + 64 < cLine) : IxR X (rP2 X.K ixD) := by
  intro value slice pins s σ H x y v u Q I rx ry ⟨dx, dy, d, h1, h2, e, q⟩ hs
  unfold ixD at e
  split at e
  · obtain ⟨a, vs, rfl, t, r⟩ := h1.lst
    cases h2.int
    obtain ⟨w, e1, e2⟩ := atI_rep r e
    exact ix_list value slice pins s σ H _ _ v u Q I rx ry ⟨a, vs, _, w, rfl, rfl, t, e1, q _ H (Ex.refl H) e2⟩ hs
  · obtain ⟨a, vs, rfl, t, r⟩ := h1.tup
    cases h2.int
    obtain ⟨w, e1, e2⟩ := atI_rep r e
    exact ix_tup value slice pins s σ H _ _ v u Q I rx ry ⟨a, vs, _, w, rfl, rfl, t, e1, q _ H (Ex.refl H) e2⟩ hs
  · obtain ⟨rfl, z⟩ := h1.str
    cases h2.int
    rename_i z0 i0
    cases hc : atI z0.cps.toList i0 with
    | none => rw [hc] at e; cases e
    | some c =>
      rw [hc] at e
      cases e
      exact ix_str value slice pins s σ H _ _ v u Q I rx ry ⟨z0, i0, c, rfl, rfl, strG_len z, hc, q _ H (Ex.refl H) (.str _ (sign_G z (atI_mem hc)))⟩ hs
  · split at e
    · rename_i hc
      rw [Bool.and_eq_true] at hc
      obtain ⟨a, rfl, hd⟩ := h1.dic
      cases rx
      rcases dic_look hd hc.1 hc.2 h2 with ⟨o, g, ro⟩ | ⟨hv, _⟩
      · rw [e] at ro
        cases o with
        | none => exact ro.elim
        | some w0 =>
          exact tail_any (dict_typeIs I g) PySem.F.slot_dict_getitem.lookup (d_getItem (by omega) I g ry fun w' s3 I3 rw' => ⟨w0, H, I3, rw', q _ H (Ex.refl H) ro⟩) hs
      · rw [hv] at e; cases e
    · cases e
  · cases e
end
end DL

set_option Elab.async false
set_option linter.all false
set_option maxRecDepth 100000
set_option maxHeartbeats 4000000
/-! D3: expressions: what they give, as functions of the names' values and the store. -/
namespace DL
open PySem PySem.Spec PyProof.Rows L2

def eVar (i : Nat) : EF := fun ρ S => match ρ[i]? with
  | some (some w) => .ok w S
  | _ => .bad
def eC (d : PyData) : EF := fun _ S => .ok (.d d) S
def op2 (g : PyData → PyData → Option PyData) (x y : Wv) (S : Sto) : Rs Wv := match view S x with
  | some a => match view S y with
    | some b => match g a b with
      | some d => .ok (.d d) S
      | none => .bad
    | none => .bad
  | none => .bad
def eBin (g : PyData → PyData → Option PyData) (f1 f2 : EF) : EF := fun ρ S => (f1 ρ S).bind fun x S1 => (f2 ρ S1).bind fun y S2 => op2 g x y S2
def truW (x : Wv) (S : Sto) : Rs Bool := match view S x with
  | some a => match truD a with
    | some b => .ok b S
    | none => .bad
  | none => .bad
def eAnd (f g : EF) : EF := fun ρ S => (f ρ S).bind fun x S1 => (truW x S1).bind fun b S2 => if b = true then g ρ S2 else .ok x S2
def eOr (f g : EF) : EF := fun ρ S => (f ρ S).bind fun x S1 => (truW x S1).bind fun b S2 => if b = true then .ok x S2 else g ρ S2
def eNot (f : EF) : EF := fun ρ S => (f ρ S).bind fun x S1 => (truW x S1).bind fun b S2 => .ok (.d (.bool (!b))) S2
abbrev BF := Rho → Sto → Rs Bool
def tTru (f : EF) : BF := fun ρ S => (f ρ S).bind fun x S1 => truW x S1
def tAndB (f g : BF) : BF := fun ρ S => (f ρ S).bind fun b S1 => if b = true then g ρ S1 else .ok false S1
def tOrB (f g : BF) : BF := fun ρ S => (f ρ S).bind fun b S1 => if b = true then .ok true S1 else g ρ S1
def tNotB (f : BF) : BF := fun ρ S => (f ρ S).bind fun b S1 => .ok (!b) S1
def eIf (c : BF) (f g : EF) : EF := fun ρ S => (c ρ S).bind fun b S1 => if b = true then f ρ S1 else g ρ S1
def bool2 (g : PyData → PyData → Option PyData) (x y : Wv) (S : Sto) : Rs Bool := match view S x with
  | some a => match view S y with
    | some b => match g a b with
      | some (.bool k) => .ok k S
      | _ => .bad
    | none => .bad
  | none => .bad
def tCmpB (g : PyData → PyData → Option PyData) (f1 f2 : EF) : BF := fun ρ S => (f1 ρ S).bind fun x S1 => (f2 ρ S1).bind fun y S2 => bool2 g x y S2
def eCh (g g' : PyData → PyData → Option PyData) (f1 f2 f3 : EF) : EF := fun ρ S => (f1 ρ S).bind fun x S1 => (f2 ρ S1).bind fun y S2 => (bool2 g x y S2).bind fun b S3 =>
  if b = true then (f3 ρ S3).bind fun z S4 => op2 g' y z S4 else .ok (.d (.bool false)) S3
def tChB (g g' : PyData → PyData → Option PyData) (f1 f2 f3 : EF) : BF := fun ρ S => (f1 ρ S).bind fun x S1 => (f2 ρ S1).bind fun y S2 => (bool2 g x y S2).bind fun b S3 =>
  if b = true then (f3 ρ S3).bind fun z S4 => bool2 g' y z S4 else .ok false S3

def tDT (K : PySem.W.Frag) (mg : Str → Option Value) (Wx : WX) (f : BF) : TT := fun σ H Q => ∃ ad ρ S, Sig K ad H σ ρ ∧ RS K ad H S ∧ post K mg Wx σ ad H (fun _ _ v b => v = b) (f ρ S) Q
abbrev DT (X : Cx) (Wx : WX) (e : Expr) (f : BF) : Prop := PT X e (tDT X.K X.mg Wx f)
abbrev DW (X : Cx) (Wx : WX) (e : Expr) (f : BF) : Prop := PW X e (tDT X.K X.mg Wx f)

section
variable {K : PySem.W.Frag} {mg : Str → Option Value} {Wx : WX} {σ : L2.St} {ad : List Addr} {H : Hp} {S : Sto} {x y : V} {wx wy : Wv}
theorem op2_post {g : PyData → PyData → Option PyData} {Q : VK} (h : post K mg Wx σ ad H (RepW K) (op2 g wx wy S) Q) (r1 : RepW K ad H x wx) (r2 : RepW K ad H y wy) (rs : RS K ad H S) : rP2 K g x y H Q := by
  unfold op2 at h
  cases e1 : view S wx with
  | none => rw [e1] at h; exact h.elim
  | some a =>
    rw [e1] at h
    cases e2 : view S wy with
    | none => rw [e2] at h; exact h.elim
    | some b =>
      rw [e2] at h
      dsimp only at h
      cases e3 : g a b with
      | none => rw [e3] at h; exact h.elim
      | some d =>
        rw [e3] at h
        exact ⟨a, b, d, view_rep r1 rs e1, view_rep r2 rs e2, e3, fun v H' ex rv => h v H' ad ex.fr rv (rs.ex ex)⟩
theorem bool2_post {g : PyData → PyData → Option PyData} {Q : Bool → Hp → Prop} (h : post K mg Wx σ ad H (fun _ _ v b => v = b) (bool2 g wx wy S) Q) (r1 : RepW K ad H x wx) (r2 : RepW K ad H y wy) (rs : RS K ad H S) :
    rP2 K g x y H fun z H' => ∃ k, z = .bl k ∧ Q k H' := by
  unfold bool2 at h
  cases e1 : view S wx with
  | none => rw [e1] at h; exact h.elim
  | some a =>
    rw [e1] at h
    cases e2 : view S wy with
    | none => rw [e2] at h; exact h.elim
    | some b =>
      rw [e2] at h
      dsimp only at h
      cases e3 : g a b with
      | none => rw [e3] at h; exact h.elim
      | some d =>
        rw [e3] at h
        cases d with
        | bool k => exact ⟨a, b, .bool k, view_rep r1 rs e1, view_rep r2 rs e2, e3, fun v H' ex rv => by cases rv; exact ⟨k, rfl, h k H' ad ex.fr rfl (rs.ex ex)⟩⟩
        | _ => exact h.elim
theorem truW_post {Q : Bool → Hp → Prop} (h : post K mg Wx σ ad H (fun _ _ v b => v = b) (truW wx S) Q) (r1 : RepW K ad H x wx) (rs : RS K ad H S) : ∃ a b, RepV K H x a ∧ truD a = some b ∧ Q b H ∧ truW wx S = .ok b S := by
  unfold truW at h ⊢
  cases e1 : view S wx with
  | none => rw [e1] at h; exact h.elim
  | some a =>
    rw [e1] at h
    cases e2 : truD a with
    | none => dsimp only at h; rw [e2] at h; exact h.elim
    | some b =>
      dsimp only at h
      rw [e2] at h
      exact ⟨a, b, view_rep r1 rs e1, e2, h b H ad (Fr.refl ad H) rfl rs, by dsimp only; rw [e2]⟩
end
section
variable {X : Cx} {Wx : WX} {a b c : Expr} {rest : List Expr} {f g h : EF} {pos : Pos}
theorem de_var {i : Nat} {x : Str} (p : PE X (.Name x pos) (tVar i)) : DE X Wx (.Name x pos) (eVar i) := PE.conv p fun σ H Q ⟨ad, ρ, S, sg, rs, q⟩ => by
  unfold eVar at q
  cases e : ρ[i]? with
  | none => rw [e] at q; exact q.elim
  | some o =>
    rw [e] at q
    cases o with
    | none => exact q.elim
    | some w =>
      obtain ⟨v, e1, r⟩ := sg.sl i w e
      exact ⟨v, e1, q v H ad (Fr.refl ad H) r rs⟩
theorem de_c {e : Expr} {v : V} {d : PyData} (p : PE X e (tC v)) (r : ∀ H, Rep X.K H v d) : DE X Wx e (eC d) := PE.conv p fun σ H Q ⟨ad, ρ, S, sg, rs, q⟩ => q v H ad (Fr.refl ad H) (r H) rs
theorem de_int {i : Int} {j : Nat} : DE X Wx (.Constant (.int i) j pos) (eC (.int i)) := de_c pe_int fun _ => .int i
theorem de_bl {i : Bool} {j : Nat} : DE X Wx (.Constant (.bool i) j pos) (eC (.bool i)) := de_c pe_bl fun _ => .bl i
theorem de_non {j : Nat} : DE X Wx (.Constant .none j pos) (eC .none) := de_c pe_non fun _ => .non
theorem de_str {i : Str} {j : Nat} (h : strG i = true := by decide +kernel) : DE X Wx (.Constant (.str i) j pos) (eC (.str i)) := de_c pe_str fun _ => .str i h
theorem bin_conv {g0 : PyData → PyData → Option PyData} {σ : L2.St} {H : Hp} {Q : VK} (q : tD X.K X.mg Wx (eBin g0 f g) σ H Q) : tOp (rP2 X.K g0) (tD X.K X.mg Wx f) (tD X.K X.mg Wx g) σ H Q := by
  obtain ⟨ad, ρ, S, sg, rs, q⟩ := q
  refine ⟨ad, ρ, S, sg, rs, post_mono (post_bind q) ?_⟩
  rintro x H1 ⟨ad1, w1, S1, fr1, r1, rs1, q1⟩
  refine ⟨ad1, ρ, S1, sg.fr fr1, rs1, post_mono (post_bind q1) ?_⟩
  rintro y H2 ⟨ad2, w2, S2, fr2, r2, rs2, q2⟩
  exact op2_post q2 (r1.fr fr2) r2 rs2
theorem de_bin {op : Operator} {g0 : PyData → PyData → Option PyData} (ho : OpP X (binaryOp op) g0) (ha : DE X Wx a f) (hb : DE X Wx b g) : DE X Wx (.BinOp a op b pos) (eBin g0 f g) := PE.conv (pe_op ho ha hb) fun _ _ _ q => bin_conv q
theorem de_cmp {op : CmpOp} {g0 : PyData → PyData → Option PyData} (ho : OpP X (compareOp op) g0) (ha : DE X Wx a f) (hb : DE X Wx b g) (hm : behindInMarks op b = false := by with_unfolding_all rfl) : DE X Wx (.Compare a [op] [b] pos) (eBin g0 f g) :=
  PE.conv (pe_cmpR ho ha hb hm) fun _ _ _ q => bin_conv q
theorem dt_cmp {op : CmpOp} {g0 : PyData → PyData → Option PyData} (ho : OpP X (compareOp op) g0) (ha : DE X Wx a f) (hb : DE X Wx b g) (hm : behindInMarks op b = false := by with_unfolding_all rfl) : DT X Wx (.Compare a [op] [b] pos) (tCmpB g0 f g) :=
  PT.conv (pt_cmpR ho ha hb hm) fun σ H Q ⟨ad, ρ, S, sg, rs, q⟩ => by
    refine ⟨ad, ρ, S, sg, rs, post_mono (post_bind q) ?_⟩
    rintro x H1 ⟨ad1, w1, S1, fr1, r1, rs1, q1⟩
    refine ⟨ad1, ρ, S1, sg.fr fr1, rs1, post_mono (post_bind q1) ?_⟩
    rintro y H2 ⟨ad2, w2, S2, fr2, r2, rs2, q2⟩
    exact bool2_post q2 (r1.fr fr2) r2 rs2
theorem de_ix (hu : X.A.units + 64 < cLine) (ha : DE X Wx a f) (hb : DE X Wx b g) (hs : PlainIx b := by exact fun _ _ => rfl) : DE X Wx (.Subscript a b pos) (eBin ixD f g) := PE.conv (pe_ix (ix_D hu) ha hb hs) fun _ _ _ q => bin_conv q
theorem de_ch {op op' : CmpOp} {g0 g1 : PyData → PyData → Option PyData} (ho : OpP X (compareOp op) g0) (ho' : OpP X (compareOp op') g1) (ha : DE X Wx a f) (hb : DE X Wx b g) (hc : DE X Wx c h)
    (hm : lastMarks [op, op'] [b, c] = false := by with_unfolding_all rfl) : DE X Wx (.Compare a [op, op'] [b, c] pos) (eCh g0 g1 f g h) := PE.conv (pe_chain ho ho' ha hb hc hm) fun σ H Q ⟨ad, ρ, S, sg, rs, q⟩ => by
    refine ⟨ad, ρ, S, sg, rs, post_mono (post_bind q) ?_⟩
    rintro x H1 ⟨ad1, w1, S1, fr1, r1, rs1, q1⟩
    refine ⟨ad1, ρ, S1, sg.fr fr1, rs1, post_mono (post_bind q1) ?_⟩
    rintro y H2 ⟨ad2, w2, S2, fr2, r2, rs2, q2⟩
    have q3 := bool2_post (post_bind (Rel1 := fun _ _ v b => v = b) q2) (r1.fr fr2) r2 rs2
    obtain ⟨da, db, d, e1, e2, e3, q3⟩ := q3
    refine ⟨da, db, d, e1, e2, e3, fun v H' ex rv => ?_⟩
    obtain ⟨k, rfl, ad3, b3, S3, fr3, e4, rs3, q4⟩ := q3 v H' ex rv
    subst e4
    refine ⟨k, rfl, ?_⟩
    cases k with
    | true =>
      rw [if_pos rfl] at q4 ⊢
      refine ⟨ad3, ρ, S3, (sg.fr (fr1.trans fr2)).fr fr3, rs3, post_mono (post_bind q4) ?_⟩
      rintro z H4 ⟨ad4, w4, S4, fr4, r4, rs4, q5⟩
      exact op2_post q5 ((r2.fr fr3).fr fr4) r4 rs4
    | false =>
      rw [if_neg Bool.false_ne_true] at q4 ⊢
      exact q4 _ _ ad3 (Fr.refl _ _) (.bl false) rs3
theorem dt_ch {op op' : CmpOp} {g0 g1 : PyData → PyData → Option PyData} (ho : OpP X (compareOp op) g0) (ho' : OpP X (compareOp op') g1) (ha : DE X Wx a f) (hb : DE X Wx b g) (hc : DE X Wx c h)
    (hm : lastMarks [op, op'] [b, c] = false := by with_unfolding_all rfl) : DT X Wx (.Compare a [op, op'] [b, c] pos) (tChB g0 g1 f g h) := PT.conv (pt_chain ho ho' ha hb hc hm) fun σ H Q ⟨ad, ρ, S, sg, rs, q⟩ => by
    refine ⟨ad, ρ, S, sg, rs, post_mono (post_bind q) ?_⟩
    rintro x H1 ⟨ad1, w1, S1, fr1, r1, rs1, q1⟩
    refine ⟨ad1, ρ, S1, sg.fr fr1, rs1, post_mono (post_bind q1) ?_⟩
    rintro y H2 ⟨ad2, w2, S2, fr2, r2, rs2, q2⟩
    have q3 := bool2_post (post_bind (Rel1 := fun _ _ v b => v = b) q2) (r1.fr fr2) r2 rs2
    obtain ⟨da, db, d, e1, e2, e3, q3⟩ := q3
    refine ⟨da, db, d, e1, e2, e3, fun v H' ex rv => ?_⟩
    obtain ⟨k, rfl, ad3, b3, S3, fr3, e4, rs3, q4⟩ := q3 v H' ex rv
    subst e4
    refine ⟨k, rfl, ?_⟩
    cases k with
    | true =>
      rw [if_pos rfl] at q4 ⊢
      refine ⟨ad3, ρ, S3, (sg.fr (fr1.trans fr2)).fr fr3, rs3, post_mono (post_bind q4) ?_⟩
      rintro z H4 ⟨ad4, w4, S4, fr4, r4, rs4, q5⟩
      exact bool2_post q5 ((r2.fr fr3).fr fr4) r4 rs4
    | false =>
      rw [if_neg Bool.false_ne_true] at q4 ⊢
      exact ⟨false, rfl, q4 _ _ ad3 (Fr.refl _ _) rfl rs3⟩

/-! ### and, or, not -/
theorem de_one {op : BoolOp} (ha : DE X Wx a f) : DE X Wx (.BoolOp op [a] pos) f := pe_one ha
theorem de_and (ha : DE X Wx a f) (hb : DE X Wx (.BoolOp .And (b :: rest) pos) g) : DE X Wx (.BoolOp .And (a :: b :: rest) pos) (eAnd f g) := PE.conv (pe_andT ha hb) fun σ H Q ⟨ad, ρ, S, sg, rs, q⟩ => by
  refine ⟨ad, ρ, S, sg, rs, post_mono (post_bind q) ?_⟩
  rintro x H1 ⟨ad1, w1, S1, fr1, r1, rs1, q1⟩
  obtain ⟨da, k, rv, e, q2, e2⟩ := truW_post (post_bind (Rel1 := fun _ _ v b => v = b) q1) r1 rs1
  rw [e2] at q1
  have q1 : post X.K X.mg Wx σ ad1 H1 (RepW X.K) (if k = true then g ρ S1 else .ok w1 S1) Q := q1
  refine ⟨k, truV_of rv e, ?_⟩
  cases k with
  | true =>
    rw [if_pos rfl] at q1 ⊢
    exact ⟨ad1, ρ, S1, sg.fr fr1, rs1, q1⟩
  | false =>
    rw [if_neg Bool.false_ne_true] at q1 ⊢
    exact q1 _ _ ad1 (Fr.refl _ _) r1 rs1
theorem de_or (ha : DE X Wx a f) (hb : DE X Wx (.BoolOp .Or (b :: rest) pos) g) : DE X Wx (.BoolOp .Or (a :: b :: rest) pos) (eOr f g) := PE.conv (pe_orT ha hb) fun σ H Q ⟨ad, ρ, S, sg, rs, q⟩ => by
  refine ⟨ad, ρ, S, sg, rs, post_mono (post_bind q) ?_⟩
  rintro x H1 ⟨ad1, w1, S1, fr1, r1, rs1, q1⟩
  obtain ⟨da, k, rv, e, q2, e2⟩ := truW_post (post_bind (Rel1 := fun _ _ v b => v = b) q1) r1 rs1
  rw [e2] at q1
  have q1 : post X.K X.mg Wx σ ad1 H1 (RepW X.K) (if k = true then .ok w1 S1 else g ρ S1) Q := q1
  refine ⟨k, truV_of rv e, ?_⟩
  cases k with
  | true =>
    rw [if_pos rfl] at q1 ⊢
    exact q1 _ _ ad1 (Fr.refl _ _) r1 rs1
  | false =>
    rw [if_neg Bool.false_ne_true] at q1 ⊢
    exact ⟨ad1, ρ, S1, sg.fr fr1, rs1, q1⟩
theorem de_not (ha : DE X Wx a f) : DE X Wx (.UnaryOp .Not a pos) (eNot f) := PE.conv (pe_notT ha) fun σ H Q ⟨ad, ρ, S, sg, rs, q⟩ => by
  refine ⟨ad, ρ, S, sg, rs, post_mono (post_bind q) ?_⟩
  rintro x H1 ⟨ad1, w1, S1, fr1, r1, rs1, q1⟩
  obtain ⟨da, k, rv, e, q2, e2⟩ := truW_post (post_bind (Rel1 := fun _ _ v b => v = b) q1) r1 rs1
  rw [e2] at q1
  exact ⟨k, truV_of rv e, q1 _ _ ad1 (Fr.refl _ _) (.bl _) rs1⟩
theorem dt_tru (ha : DE X Wx a f) (he : ∀ whole, isTrue a X.env whole = (do let v ← whole; standAt a.pos; holding [v] (truthy v)) := by intro _; rfl) : DT X Wx a (tTru f) := PT.conv (pt_truth ha he) fun σ H Q ⟨ad, ρ, S, sg, rs, q⟩ => by
  refine ⟨ad, ρ, S, sg, rs, post_mono (post_bind q) ?_⟩
  rintro x H1 ⟨ad1, w1, S1, fr1, r1, rs1, q1⟩
  obtain ⟨da, k, rv, e, q2, e2⟩ := truW_post q1 r1 rs1
  exact ⟨k, truV_of rv e, q2⟩
variable {u v : BF}
theorem bool_conv {t : BF} {k : Bool → BF} {σ : L2.St} {H : Hp} {Q : Bool → Hp → Prop} (q : tDT X.K X.mg Wx (fun ρ S => (t ρ S).bind fun b S1 => k b ρ S1) σ H Q) : tDT X.K X.mg Wx t σ H fun b H1 => tDT X.K X.mg Wx (k b) σ H1 Q := by
  obtain ⟨ad, ρ, S, sg, rs, q⟩ := q
  refine ⟨ad, ρ, S, sg, rs, post_mono (post_bind q) ?_⟩
  rintro x H1 ⟨ad1, w1, S1, fr1, r1, rs1, q1⟩
  subst r1
  exact ⟨ad1, ρ, S1, sg.fr fr1, rs1, q1⟩
theorem dw_and1 (ha : DT X Wx a u) : DW X Wx (.BoolOp .And [a] pos) u := pw_and1 ha
theorem dw_or1 (ha : DT X Wx a u) : DW X Wx (.BoolOp .Or [a] pos) u := pw_or1 ha
theorem now_ok {σ : L2.St} {H : Hp} {b : Bool} {Q : Bool → Hp → Prop} (q : tDT X.K X.mg Wx (fun _ S => .ok b S) σ H Q) : Q b H := by
  obtain ⟨ad, ρ, S, sg, rs, q⟩ := q
  exact q b H ad (Fr.refl _ _) rfl rs
theorem dw_and (ha : DT X Wx a u) (hb : DW X Wx (.BoolOp .And (b :: rest) pos) v) : DW X Wx (.BoolOp .And (a :: b :: rest) pos) (tAndB u v) := PW.conv (pw_and ha hb) fun σ H Q q => by
  have q := bool_conv (t := u) (k := fun c ρ S => if c = true then v ρ S else .ok false S) q
  obtain ⟨ad, ρ, S, sg, rs, q⟩ := q
  refine ⟨ad, ρ, S, sg, rs, post_mono q fun c H1 q1 => ?_⟩
  cases c with
  | true => rw [if_pos rfl]; exact q1
  | false => rw [if_neg Bool.false_ne_true]; exact now_ok (X := X) (Wx := Wx) q1
theorem dw_or (ha : DT X Wx a u) (hb : DW X Wx (.BoolOp .Or (b :: rest) pos) v) : DW X Wx (.BoolOp .Or (a :: b :: rest) pos) (tOrB u v) := PW.conv (pw_or ha hb) fun σ H Q q => by
  have q := bool_conv (t := u) (k := fun c ρ S => if c = true then .ok true S else v ρ S) q
  obtain ⟨ad, ρ, S, sg, rs, q⟩ := q
  refine ⟨ad, ρ, S, sg, rs, post_mono q fun c H1 q1 => ?_⟩
  cases c with
  | true => rw [if_pos rfl]; exact now_ok (X := X) (Wx := Wx) q1
  | false => rw [if_neg Bool.false_ne_true]; exact q1
theorem dt_not (ha : DT X Wx a u) : DT X Wx (.UnaryOp .Not a pos) (tNotB u) := PT.conv (pt_not ha) fun σ H Q q => by
  have q := bool_conv (t := u) (k := fun c ρ S => .ok (!c) S) q
  obtain ⟨ad, ρ, S, sg, rs, q⟩ := q
  exact ⟨ad, ρ, S, sg, rs, post_mono q fun c H1 q1 => now_ok (X := X) (Wx := Wx) q1⟩
theorem de_if (hc : DT X Wx c u) (ha : DE X Wx a f) (hb : DE X Wx b g) : DE X Wx (.IfExp c a b pos) (eIf u f g) := PE.conv (pe_ifExp hc ha hb) fun σ H Q ⟨ad, ρ, S, sg, rs, q⟩ => by
  refine ⟨ad, ρ, S, sg, rs, post_mono (post_bind q) ?_⟩
  rintro x H1 ⟨ad1, w1, S1, fr1, r1, rs1, q1⟩
  subst r1
  cases x with
  | true =>
    rw [if_pos rfl] at q1 ⊢
    exact ⟨ad1, ρ, S1, sg.fr fr1, rs1, q1⟩
  | false =>
    rw [if_neg Bool.false_ne_true] at q1 ⊢
    exact ⟨ad1, ρ, S1, sg.fr fr1, rs1, q1⟩

/-! ### argument lists, tuples, lists -/
abbrev LF := Rho → Sto → Rs (List Wv)
def lNil : LF := fun _ S => .ok [] S
def lCons (f : EF) (g : LF) : LF := fun ρ S => (f ρ S).bind fun x S1 => (g ρ S1).bind fun xs S2 => .ok (x :: xs) S2
def tDA (K : PySem.W.Frag) (mg : Str → Option Value) (Wx : WX) (f : LF) : TA := fun σ H Q => ∃ ad ρ S, Sig K ad H σ ρ ∧ RS K ad H S ∧ post K mg Wx σ ad H (RepWs K) (f ρ S) Q
abbrev DA (X : Cx) (Wx : WX) (e : List Expr) (f : LF) : Prop := PA X e (tDA X.K X.mg Wx f)
theorem da_nil : DA X Wx [] lNil := PA.conv pa_nil fun σ H Q ⟨ad, ρ, S, sg, rs, q⟩ => q _ _ ad (Fr.refl _ _) .nil rs
theorem da_cons {l : LF} (ha : DE X Wx a f) (hb : DA X Wx rest l) (hs : starEach (a :: rest) X.env = (false, eval a X.env) :: starEach rest X.env := by rfl) : DA X Wx (a :: rest) (lCons f l) := PA.conv (pa_cons ha hb hs) fun σ H Q ⟨ad, ρ, S, sg, rs, q⟩ => by
  refine ⟨ad, ρ, S, sg, rs, post_mono (post_bind q) ?_⟩
  rintro x H1 ⟨ad1, w1, S1, fr1, r1, rs1, q1⟩
  refine ⟨ad1, ρ, S1, sg.fr fr1, rs1, post_mono (post_bind q1) ?_⟩
  rintro xs H2 ⟨ad2, w2, S2, fr2, r2, rs2, q2⟩
  exact q2 _ _ ad2 (Fr.refl _ _) (.cons (r1.fr fr2) r2) rs2
/-- all of them data -/
def dats : List Wv → Option (List PyData)
  | [] => some []
  | .d x :: r => (dats r).map (x :: ·)
  | .own _ :: _ => none
  | .fn _ _ _ :: _ => none
theorem dats_rep {K : PySem.W.Frag} {ad : List Addr} {H : Hp} : ∀ {vs : List V} {ws : List Wv} {ds : List PyData}, RepWs K ad H vs ws → dats ws = some ds → Reps K H vs ds
  | _, _, _, .nil, e => by cases e; exact .nil
  | _, _, ds, .cons (b := .d x) (l₂ := r) h t, e => by
    unfold dats at e
    cases q : dats r with
    | none => rw [q] at e; cases e
    | some l =>
      rw [q] at e
      cases e
      exact .cons h (dats_rep t q)
  | _, _, _, .cons (b := .own _) _ _, e => by cases e
  | _, _, _, .cons (b := .fn _ _ _) _ _, e => by cases e
def litOk (n : Nat) : Bool := decide (n ≤ 1000)
theorem lit_size {n : Nat} (h : litOk n = true) : n ≤ sizeLine := Nat.le_trans (of_decide_eq_true h) (by decide)
def eTup (l : LF) : EF := fun ρ S => (l ρ S).bind fun ws S1 => match dats ws with
  | some ds => if litOk ds.length then .ok (.d (.tuple ds)) S1 else .bad
  | none => .bad
theorem de_tup {l : LF} {x1} (h : DA X Wx rest l) : DE X Wx (.Tuple rest x1 pos) (eTup l) := PE.conv (pe_tup h) fun σ H Q ⟨ad, ρ, S, sg, rs, q⟩ => by
  refine ⟨ad, ρ, S, sg, rs, post_mono (post_bind q) ?_⟩
  rintro vs H1 ⟨ad1, ws, S1, fr1, r1, rs1, q1⟩
  cases e : dats ws with
  | none => rw [e] at q1; exact q1.elim
  | some ds =>
    rw [e] at q1
    dsimp only at q1
    split at q1
    · rename_i hl
      have rd := dats_rep r1 e
      refine ⟨by rw [rd.length]; exact lit_size hl, fun p hp => ?_⟩
      have ex : Ex H1 (upd H1 p (.tup vs)) := Ex.new hp
      exact q1 _ _ ad1 ex.fr (.tup (.inl upd_same) (Reps.stb ex.stb _ rd)) (rs1.ex ex)
    · exact q1.elim
/-- a list just made -/
abbrev MF := Rho → Sto → Rs (List PyData)
def Made (K : PySem.W.Frag) (H : Hp) (ad' : List Addr) (H' : Hp) (v : V) (l : List PyData) : Prop := ∃ p vs, v = .ref p ∧ H p = none ∧ p ∉ ad' ∧ H' p = some (.lst vs) ∧ Reps K H' vs l
def tDM (K : PySem.W.Frag) (mg : Str → Option Value) (Wx : WX) (f : MF) : TE := fun σ H Q => ∃ ad ρ S, Sig K ad H σ ρ ∧ RS K ad H S ∧ post K mg Wx σ ad H (Made K H) (f ρ S) Q
abbrev DM (X : Cx) (Wx : WX) (e : Expr) (f : MF) : Prop := PE X e (tDM X.K X.mg Wx f)
def eFz (f : MF) : EF := fun ρ S => (f ρ S).bind fun l S1 => .ok (.d (.list l)) S1
def eOwn (f : MF) : EF := fun ρ S => (f ρ S).bind fun l S1 => .ok (.own S1.length) (S1 ++ [.lst l])
theorem frz_ex {H H1 : Hp} {p : Addr} {o : HO} (h : H p = none) (e : ∀ a u, H a = some u → H1 a = some u) : Ex H (upd H1 p o) := fun a u q => by
  rw [upd_ne (ne_of_none q h)]; exact e a u q
theorem tab_updU {H : Hp} {P p : Addr} {q : Str} {u o : HO} (e : H p = some u) (c : Chg u) (h : LamX.TabS H P q) : LamX.TabS (upd H p o) P q := by
  have ne : ∀ b w, H b = some w → ¬ Chg w → b ≠ p := fun b w hb hn z => by
    rw [z, e] at hb
    cases hb
    exact hn c
  obtain ⟨ps, h1, h2, h3⟩ := h
  refine ⟨ps, by rw [upd_ne (ne _ _ h1 id)]; exact h1, h2, fun pos cv hc => ?_⟩
  obtain ⟨c, e1, e2⟩ := h3 pos cv hc
  exact ⟨c, e1, by rw [upd_ne (ne _ _ e2 (fun z => by unfold LamX.CodeO at z; exact z))]; exact e2⟩
theorem stb_upd {H1 : Hp} {a : Addr} {u o : HO} (e : H1 a = some u) (c : Chg u := by exact trivial) : Stb H1 (upd H1 a o) := fun b w hi z => by
  by_cases hb : b = a
  · subst hb; rw [e] at z; cases z; exact (c.no hi).elim
  · rw [upd_ne hb]; exact z
theorem ob_other {K : PySem.W.Frag} {H1 : Hp} {a p : Addr} {u o : HO} {ob : MO} (h : ObR K H1 a ob) (ha : a ≠ p) (e : H1 p = some u) (c : Chg u := by exact trivial) : ObR K (upd H1 p o) a ob := by
  have st := stb_upd (o := o) e c
  cases ob with
  | lst l =>
    obtain ⟨us, q1, q2⟩ := h
    exact ⟨us, by rw [upd_ne ha]; exact q1, Reps.stb st _ q2⟩
  | frz l =>
    obtain ⟨us, o1, q1, q2⟩ := h
    exact ⟨us, o1, by rw [upd_ne ha]; exact q1, Reps.stb st _ q2⟩
  | tab P q => exact ⟨h.1, tab_updU e c h.2⟩
  | dct l =>
    rcases h with ⟨ps, h1, h2⟩ | ⟨ps, h1, h2, h3⟩
    · exact .inl ⟨ps, by rw [upd_ne ha]; exact h1, RepKV.stb st _ h2⟩
    · exact .inr ⟨ps, by rw [upd_ne ha]; exact h1, RepTV.stb st _ h2, h3⟩
  | fdc l => exact FzD.stb st h
theorem rs_upd {K : PySem.W.Frag} {ad : List Addr} {H1 : Hp} {S : Sto} {p : Addr} {u : HO} {o : HO} (rs : RS K ad H1 S) (hp : p ∉ ad) (e : H1 p = some u) (c : Chg u := by exact trivial) : RS K ad (upd H1 p o) S := by
  refine ⟨rs.len, rs.nd, fun (k : Nat) (ob : MO) q => ?_⟩
  obtain ⟨a, e1, e2⟩ := rs.ob k ob q
  have ha : a ≠ p := fun z => hp (z ▸ List.mem_of_getElem? e1)
  exact ⟨a, e1, ob_other e2 ha e c⟩
theorem fr_upd {ad ad' : List Addr} {H H1 : Hp} {p : Addr} {u : HO} {o : HO} (fr : Fr ad H ad' H1) (h0 : H p = none) (hp : p ∉ ad') (e : H1 p = some u) : Fr ad H ad' (upd H1 p o) :=
  ⟨fr.ext, fun a u q hn => by
    rw [upd_ne (ne_of_none q h0)]; exact fr.keep a u q hn, fr.new, fun a u hi q => by
    rw [upd_ne (ne_of_none q h0)]; exact fr.stb a u hi q⟩
theorem de_fz {e : Expr} {m : MF} (h : DM X Wx e m) : DE X Wx e (eFz m) := PE.conv (pe_freeze h) fun σ H Q ⟨ad, ρ, S, sg, rs, q⟩ => by
  refine ⟨ad, ρ, S, sg, rs, ?_⟩
  unfold eFz at q
  revert q
  cases m ρ S with
  | bad => exact fun z => z
  | exc x S' => exact fun z => z
  | ok l S' =>
    intro q v H1 ad1 fr ⟨p, vs, e1, h0, hp, e2, r⟩ rs1
    refine ⟨p, vs, e1, e2, fun o => ?_⟩
    have st : Stb H1 (upd H1 p (.frz o (.lst vs))) := fun a u hi z => by
      by_cases ha : a = p
      · subst ha; rw [e2] at z; cases z; exact hi.elim
      · rw [upd_ne ha]; exact z
    subst e1
    exact q _ _ ad1 (fr_upd fr h0 hp e2) (.lst (.inl ⟨o, upd_same⟩) (Reps.stb st _ r)) (rs_upd rs1 hp e2)
theorem de_own {e : Expr} {m : MF} (h : DM X Wx e m) : DE X Wx e (eOwn m) := PE.conv h fun σ H Q ⟨ad, ρ, S, sg, rs, q⟩ => by
  refine ⟨ad, ρ, S, sg, rs, ?_⟩
  unfold eOwn at q
  revert q
  cases m ρ S with
  | bad => exact fun z => z
  | exc x S' => exact fun z => z
  | ok l S' =>
    intro q v H1 ad1 fr ⟨p, vs, e1, h0, hp, e2, r⟩ rs1
    subst e1
    have hl := rs1.len
    refine q _ _ (ad1 ++ [p]) ⟨?_, fr.keep, fun a ha hn => ?_, fr.stb⟩ ⟨p, ?_, rfl⟩ ⟨?_, ?_, fun (k : Nat) (ob : MO) z => ?_⟩
    · obtain ⟨t, e⟩ := fr.ext
      exact ⟨t ++ [p], by rw [e, List.append_assoc]⟩
    · rcases List.mem_append.mp ha with z | z
      · exact fr.new a z hn
      · have : a = p := by simpa using z
        rw [this]; exact h0
    · rw [← hl]; simp
    · simp [hl]
    · rw [List.nodup_append]
      exact ⟨rs1.nd, by simp, fun a ha b hb z => by
        have : b = p := by simpa using hb
        subst z this
        exact hp ha⟩
    · by_cases hk : k < S'.length
      · rw [List.getElem?_append_left hk] at z
        obtain ⟨a, z1, z2⟩ := rs1.ob k ob z
        exact ⟨a, by rw [List.getElem?_append_left (by rw [hl]; exact hk)]; exact z1, z2⟩
      · rw [List.getElem?_append_right (by omega)] at z
        have hk2 : k - S'.length = 0 := by
          by_cases hh : k - S'.length = 0
          · exact hh
          · rw [List.getElem?_eq_none (by simp; omega)] at z; cases z
        rw [hk2] at z
        simp at z
        subst z
        refine ⟨p, ?_, vs, e2, r⟩
        rw [List.getElem?_append_right (by omega), hl, hk2]; rfl
def mLst (l : LF) : MF := fun ρ S => (l ρ S).bind fun ws S1 => match dats ws with
  | some ds => if litOk ds.length then .ok ds S1 else .bad
  | none => .bad
theorem Fr.back {K : PySem.W.Frag} {ad ad' : List Addr} {H H1 : Hp} {p : Addr} {S : Sto} (fr : Fr ad H ad' H1) (rs : RS K ad' H1 S) (h : H1 p = none) : H p = none ∧ p ∉ ad' := by
  have h1 : p ∉ ad' := fun hp => by
    obtain ⟨u, e⟩ := rs.here hp
    rw [h] at e; cases e
  refine ⟨?_, h1⟩
  cases q : H p with
  | none => rfl
  | some o =>
    have hp : p ∉ ad := fun z => h1 (by
      obtain ⟨t, e⟩ := fr.ext
      rw [e]; exact List.mem_append_left _ z)
    obtain ⟨u, hu⟩ := (fr.keep p o q hp).some; rw [hu] at h; cases h
theorem dm_lst {l : LF} (h : DA X Wx rest l) : DM X Wx (.List rest pos) (mLst l) := PE.conv (pe_lst h) fun σ H Q ⟨ad, ρ, S, sg, rs, q⟩ => by
  refine ⟨ad, ρ, S, sg, rs, ?_⟩
  unfold mLst at q
  revert q
  cases l ρ S with
  | bad => exact fun z => z
  | exc x S' => exact fun z => z
  | ok ws S1 =>
    intro q vs H1 ad1 fr1 r1 rs1
    simp only [Rs.bind] at q
    cases e : dats ws with
    | none => rw [e] at q; exact q.elim
    | some ds =>
      rw [e] at q
      dsimp only at q
      split at q
      · rename_i hl
        have rd := dats_rep r1 e
        refine ⟨by rw [rd.length]; exact lit_size hl, fun p hp => ?_⟩
        obtain ⟨h0, hn⟩ := fr1.back rs1 hp
        have ex : Ex H1 (upd H1 p (.lst vs)) := Ex.new hp
        exact q _ _ ad1 (fr1.trans ex.fr) ⟨p, vs, rfl, h0, hn, upd_same, Reps.stb ex.stb _ rd⟩ (rs1.ex ex)
      · exact q.elim
/-! ### a changing list is locked where it goes into data -/
def frzW (w : Wv) (S : Sto) : Rs Wv := match w with
  | .d x => .ok (.d x) S
  | .own k => match S[k]? with
    | some (.lst l) => .ok (.d (.list l)) (S.set k (.frz l))
    | some (.frz l) => .ok (.d (.list l)) S
    | some (.dct l) => .ok (.d (.dict l)) (S.set k (.fdc l))
    | some (.fdc l) => .ok (.d (.dict l)) S
    | _ => .bad
  | .fn _ _ _ => .bad
def eFrz (f : EF) : EF := fun ρ S => (f ρ S).bind frzW
def tFrzIf (te : TE) : TE := fun σ H Q => te σ H fun v H' => Q v H' ∨ ∃ a ob, v = .ref a ∧ Chg ob ∧ H' a = some ob ∧ ∀ o, Q v (upd H' a (.frz o ob))
theorem pe_frzIf {X : Cx} {e : Expr} {te : TE} (h : PE X e te) : PE X e (tFrzIf te) := ⟨fun pins s σ H Q I q => thn (h.run pins s σ H _ I q) fun _ _ ⟨v, H', I', r, z⟩ => by
  rcases z with z | z
  · exact ⟨v, H', I', r, z⟩
  · exact EP.freezeU ⟨v, H', I', r, z⟩⟩
theorem frz_fr {K : PySem.W.Frag} {ad ad' : List Addr} {H H1 : Hp} {a : Addr} {ob : HO} {o : HO} (fr : Fr ad H ad' H1) (ha : a ∈ ad') (e : H1 a = some ob) (c : Chg ob := by exact trivial) : Fr ad H ad' (upd H1 a o) := by
  refine ⟨fr.ext, fun b u q hn => ?_, fr.new, fun b u hi q => ?_⟩
  · have : b ≠ a := fun z => by
      subst z
      have := fr.new b ha hn
      rw [q] at this; cases this
    rw [upd_ne this]; exact fr.keep b u q hn
  · have : b ≠ a := fun z => by
      subst z
      have := fr.stb b u hi q
      rw [e] at this; cases this
      exact (c.no hi).elim
    rw [upd_ne this]; exact fr.stb b u hi q
theorem nodup_at {α : Type} : ∀ {l : List α}, l.Nodup → ∀ {i j : Nat} {x : α}, l[i]? = some x → l[j]? = some x → i = j
  | [], _, i, j, x, e, _ => by simp at e
  | a :: l, h, 0, 0, x, _, _ => rfl
  | a :: l, h, 0, j + 1, x, e, e' => by
    simp at e e'
    subst e
    exact absurd (List.mem_of_getElem? e') (List.nodup_cons.mp h).1
  | a :: l, h, i + 1, 0, x, e, e' => by
    simp at e e'
    subst e'
    exact absurd (List.mem_of_getElem? e) (List.nodup_cons.mp h).1
  | a :: l, h, i + 1, j + 1, x, e, e' => by
    rw [nodup_at (List.nodup_cons.mp h).2 (i := i) (j := j) (x := x) (by simpa using e) (by simpa using e')]
theorem rs_set {K : PySem.W.Frag} {ad : List Addr} {H1 : Hp} {S : Sto} {k : Nat} {a : Addr} {u o : HO} {m : MO} (rs : RS K ad H1 S) (ha : ad[k]? = some a) (e : H1 a = some u) (hm : ObR K (upd H1 a o) a m) (c : Chg u := by exact trivial) : RS K ad (upd H1 a o) (S.set k m) := by
  refine ⟨by rw [List.length_set]; exact rs.len, rs.nd, fun (j : Nat) (ob : MO) q => ?_⟩
  by_cases hj : k = j
  · subst hj
    have hk : k < S.length := by rw [← rs.len]; exact (List.getElem?_eq_some_iff.mp ha).1
    rw [List.getElem?_set_self hk] at q
    cases q
    exact ⟨a, ha, hm⟩
  · rw [List.getElem?_set_ne hj] at q
    obtain ⟨b, e1, e2⟩ := rs.ob j ob q
    have hb : b ≠ a := fun z => hj (nodup_at rs.nd ha (z ▸ e1))
    exact ⟨b, e1, ob_other e2 hb e c⟩
theorem de_frz {e : Expr} (h : DE X Wx e f) : DE X Wx e (eFrz f) := PE.conv (pe_frzIf h) fun σ H Q ⟨ad, ρ, S, sg, rs, q⟩ => by
  refine ⟨ad, ρ, S, sg, rs, post_mono (post_bind q) ?_⟩
  rintro v H1 ⟨ad1, w, S1, fr1, r1, rs1, q1⟩
  unfold frzW at q1
  cases w with
  | d x => exact .inl (q1 _ _ ad1 (Fr.refl _ _) r1 rs1)
  | own k =>
    obtain ⟨a, ha, rfl⟩ := r1
    dsimp only at q1
    cases hk : S1[k]? with
    | none => rw [hk] at q1; exact q1.elim
    | some ob =>
      rw [hk] at q1
      obtain ⟨a', ha', ob'⟩ := rs1.ob k ob hk
      rw [ha] at ha'; cases ha'
      cases ob with
      | lst l =>
        obtain ⟨vs, e1, e2⟩ := ob'
        refine .inr ⟨a, .lst vs, rfl, trivial, e1, fun o => ?_⟩
        exact q1 _ _ ad1 (frz_fr (K := X.K) (Fr.refl _ _) (List.mem_of_getElem? ha) e1) (.lst (.inl ⟨o, upd_same⟩) (Reps.stb (stb_upd e1) _ e2))
          (rs_set rs1 ha e1 ⟨vs, o, upd_same, Reps.stb (stb_upd e1) _ e2⟩)
      | frz l =>
        obtain ⟨vs, o1, e1, e2⟩ := ob'
        exact .inl (q1 _ _ ad1 (Fr.refl _ _) (.lst (.inl ⟨o1, e1⟩) e2) rs1)
      | dct l =>
        rcases ob' with ⟨ps, e1, e2⟩ | ⟨ps, e1, e2, e3⟩
        · refine .inr ⟨a, .dK ps, rfl, trivial, e1, fun o => ?_⟩
          have r := RepKV.stb (stb_upd (o := HO.frz o (.dK ps)) e1) _ e2
          exact q1 _ _ ad1 (frz_fr (K := X.K) (Fr.refl _ _) (List.mem_of_getElem? ha) e1) (.dic upd_same r) (rs_set rs1 ha e1 (.inl ⟨ps, o, upd_same, r⟩))
        · refine .inr ⟨a, .dT ps, rfl, trivial, e1, fun o => ?_⟩
          have r := RepTV.stb (stb_upd (o := HO.frz o (.dT ps)) e1) _ e2
          exact q1 _ _ ad1 (frz_fr (K := X.K) (Fr.refl _ _) (List.mem_of_getElem? ha) e1) (.dicT upd_same r e3) (rs_set rs1 ha e1 (.inr ⟨ps, o, upd_same, r, e3⟩))
      | fdc l => exact .inl (q1 _ _ ad1 (Fr.refl _ _) (FzD.rep ob') rs1)
      | tab P q => exact q1.elim
  | fn f c q => exact q1.elim
end
end DL

set_option Elab.async false
set_option linter.all false
set_option maxRecDepth 100000
set_option maxHeartbeats 4000000
/-! D4: statements, targets, what is walked, loops, comprehensions. -/
namespace DL
open PySem PySem.Spec PyProof.Rows L2

inductive Fl where
  | nx (ρ : Rho) | rt (w : Wv) | bk (ρ : Rho) | ct (ρ : Rho)
inductive RF where
  | bad | fl (f : Fl) (S : Sto) | exc (x : Xc) (ρ : Rho) (S : Sto)
abbrev SF := Rho → Sto → RF
def postS (K : PySem.W.Frag) (mg : Str → Option Value) (Wx : WX) (ad : List Addr) (H : Hp) (r : RF) (D : Ends) : Prop :=
  match r with
  | .bad => False
  | .fl (.nx ρ) S' => ∀ σ' H' ad', Fr ad H ad' H' → Sig K ad' H' σ' ρ → RS K ad' H' S' → D.nx σ' H'
  | .fl (.bk ρ) S' => ∀ σ' H' ad', Fr ad H ad' H' → Sig K ad' H' σ' ρ → RS K ad' H' S' → D.bk σ' H'
  | .fl (.ct ρ) S' => ∀ σ' H' ad', Fr ad H ad' H' → Sig K ad' H' σ' ρ → RS K ad' H' S' → D.ct σ' H'
  | .fl (.rt w) S' => ∀ v H' ad', Fr ad H ad' H' → RepW K ad' H' v w → RS K ad' H' S' → D.rt v H'
  | .exc x ρ S' => ∀ cls d σ' H' ad', Fr ad H ad' H' → Sig K ad' H' σ' ρ → XRep K mg H' cls d x → RS K ad' H' S' → Wx cls d σ' H'
def seqR (r : RF) (k : SF) : RF := match r with
  | .fl (.nx ρ) S => k ρ S
  | r => r
def stepR (r : RF) (k : SF) : RF := match r with
  | .fl (.nx ρ) S => k ρ S
  | .fl (.ct ρ) S => k ρ S
  | .fl (.bk ρ) S => .fl (.nx ρ) S
  | r => r
section
variable {K : PySem.W.Frag} {mg : Str → Option Value} {Wx : WX} {ad ad1 : List Addr} {H H1 : Hp} {r : RF} {k : SF} {D : Ends}
theorem postS_fr (h : postS K mg Wx ad H r D) (f : Fr ad H ad1 H1) : postS K mg Wx ad1 H1 r D := by
  cases r with
  | bad => exact h
  | exc x ρ S => exact fun cls d σ' H' ad' fr => h cls d σ' H' ad' (f.trans fr)
  | fl g S =>
    cases g with
    | nx ρ => exact fun σ' H' ad' fr => h σ' H' ad' (f.trans fr)
    | bk ρ => exact fun σ' H' ad' fr => h σ' H' ad' (f.trans fr)
    | ct ρ => exact fun σ' H' ad' fr => h σ' H' ad' (f.trans fr)
    | rt w => exact fun v H' ad' fr => h v H' ad' (f.trans fr)
theorem postS_seq (h : postS K mg Wx ad H (seqR r k) D) : postS K mg Wx ad H r { D with nx := fun σ1 H1 => ∃ ad1 ρ1 S1, Sig K ad1 H1 σ1 ρ1 ∧ RS K ad1 H1 S1 ∧ postS K mg Wx ad1 H1 (k ρ1 S1) D } := by
  cases r with
  | bad => exact h
  | exc x ρ S => exact h
  | fl g S =>
    cases g with
    | nx ρ => exact fun σ' H' ad' fr sg rs => ⟨ad', ρ, S, sg, rs, postS_fr (r := k ρ S) h fr⟩
    | bk ρ => exact h
    | ct ρ => exact h
    | rt w => exact h
theorem postS_step {N : L2.St → Hp → Prop} (hN : ∀ σ1 H1 ad1 ρ1 S1, Fr ad H ad1 H1 → Sig K ad1 H1 σ1 ρ1 → RS K ad1 H1 S1 → postS K mg Wx ad1 H1 (k ρ1 S1) D → N σ1 H1) (h : postS K mg Wx ad H (stepR r k) D) :
    postS K mg Wx ad H r { D with nx := N, ct := N, bk := D.nx } := by
  cases r with
  | bad => exact h
  | exc x ρ S => exact h
  | fl g S =>
    cases g with
    | nx ρ => exact fun σ' H' ad' fr sg rs => hN σ' H' ad' ρ S fr sg rs (postS_fr (r := k ρ S) h fr)
    | bk ρ => exact h
    | ct ρ => exact fun σ' H' ad' fr sg rs => hN σ' H' ad' ρ S fr sg rs (postS_fr (r := k ρ S) h fr)
    | rt w => exact h
end
def tDS (K : PySem.W.Frag) (mg : Str → Option Value) (Wx : WX) (f : SF) : TS := fun D σ H => ∃ ad ρ S, Sig K ad H σ ρ ∧ RS K ad H S ∧ postS K mg Wx ad H (f ρ S) D
abbrev DS (X : Cx) (Wx : WX) (st : Stmt) (f : SF) : Prop := PS X st (tDS X.K X.mg Wx f)
abbrev DSs (X : Cx) (Wx : WX) (st : List Stmt) (f : SF) : Prop := PSs X st (tDS X.K X.mg Wx f)

/-! ### blocks, small statements -/
def sNil : SF := fun ρ S => .fl (.nx ρ) S
def sSeq (f g : SF) : SF := fun ρ S => seqR (f ρ S) g
/-- a result of an expression goes on -/
def bindS {α : Type} (r : Rs α) (ρ : Rho) (k : α → Sto → RF) : RF := match r with
  | .bad => .bad
  | .ok a S => k a S
  | .exc x S => .exc x ρ S
def sExpr (f : EF) : SF := fun ρ S => bindS (f ρ S) ρ fun _ S1 => .fl (.nx ρ) S1
def sRet (f : EF) : SF := fun ρ S => bindS (f ρ S) ρ fun w S1 => .fl (.rt w) S1
def sRetN : SF := fun ρ S => .fl (.rt (.d .none)) S
def sIf (c : BF) (f g : SF) : SF := fun ρ S => bindS (c ρ S) ρ fun b S1 => if b = true then f ρ S1 else g ρ S1
def sSet (i : Nat) (f : EF) : SF := fun ρ S => bindS (f ρ S) ρ fun w S1 => .fl (.nx (ρ.set i (some w))) S1
def sBreak : SF := fun ρ S => .fl (.bk ρ) S
def sCont : SF := fun ρ S => .fl (.ct ρ) S
section
variable {K : PySem.W.Frag} {mg : Str → Option Value} {Wx : WX} {ad : List Addr} {H : Hp} {D : Ends} {σ : L2.St} {ρ : Rho}
theorem bindS_post {α β : Type} {Rel : List Addr → Hp → β → α → Prop} {r : Rs α} {k : α → Sto → RF} (sg : Sig K ad H σ ρ) (h : postS K mg Wx ad H (bindS r ρ k) D) :
    post K mg Wx σ ad H Rel r (fun v H1 => ∃ ad1 w S1, Fr ad H ad1 H1 ∧ Rel ad1 H1 v w ∧ RS K ad1 H1 S1 ∧ postS K mg Wx ad1 H1 (k w S1) D) := by
  cases r with
  | bad => exact h
  | exc x S' => exact fun cls d H' ad' fr xr rs => h cls d σ H' ad' fr (sg.fr fr) xr rs
  | ok w S' => exact fun v H1 ad1 fr rel rs => ⟨ad1, w, S', fr, rel, rs, postS_fr (r := k w S') h fr⟩
theorem Sig.set {v : V} {w : Wv} (sg : Sig K ad H σ ρ) (i : Nat) (r : RepW K ad H v w) : Sig K ad H (σ.set i (some v)) (ρ.set i (some w)) := by
  refine ⟨by rw [List.length_set, List.length_set]; exact sg.len, fun j u e => ?_⟩
  by_cases hj : i = j
  · subst hj
    by_cases hi : i < ρ.length
    · rw [List.getElem?_set_self hi] at e
      cases e
      exact ⟨v, by rw [List.getElem?_set_self (by rw [sg.len]; exact hi)], r⟩
    · rw [List.getElem?_eq_none (by simpa using hi)] at e; cases e
  · rw [List.getElem?_set_ne hj] at e
    obtain ⟨v', e1, e2⟩ := sg.sl j u e
    exact ⟨v', by rw [List.getElem?_set_ne hj]; exact e1, e2⟩
end
section
variable {X : Cx} {Wx : WX} {e : Expr} {f : EF} {st : Stmt} {rest : List Stmt} {s1 s2 : SF} {pos : Pos}
theorem ds_nil : DSs X Wx [] sNil := PSs.conv pss_nil fun D σ H ⟨ad, ρ, S, sg, rs, q⟩ => q σ H ad (Fr.refl _ _) sg rs
theorem ds_cons (h1 : DS X Wx st s1) (h2 : DSs X Wx rest s2) : DSs X Wx (st :: rest) (sSeq s1 s2) := PSs.conv (pss_cons h1 h2) fun D σ H ⟨ad, ρ, S, sg, rs, q⟩ => ⟨ad, ρ, S, sg, rs, postS_seq q⟩
theorem ds_one (h1 : DS X Wx st s1) : DSs X Wx [st] s1 := pss_one h1
theorem ds_pass : DS X Wx (.Pass pos) sNil := PS.conv ps_pass fun D σ H ⟨ad, ρ, S, sg, rs, q⟩ => q σ H ad (Fr.refl _ _) sg rs
theorem ds_break : DS X Wx (.Break pos) sBreak := PS.conv ps_break fun D σ H ⟨ad, ρ, S, sg, rs, q⟩ => q σ H ad (Fr.refl _ _) sg rs
theorem ds_continue : DS X Wx (.Continue pos) sCont := PS.conv ps_continue fun D σ H ⟨ad, ρ, S, sg, rs, q⟩ => q σ H ad (Fr.refl _ _) sg rs
theorem ds_expr (h : DE X Wx e f) (hs : swapsWith e none pos.line X.env = pure false := by rfl) : DS X Wx (.Expr e pos) (sExpr f) := PS.conv (ps_expr h hs) fun D σ H ⟨ad, ρ, S, sg, rs, q⟩ =>
  ⟨ad, ρ, S, sg, rs, post_mono (bindS_post sg q) fun v H1 ⟨ad1, w, S1, fr, rel, rs1, q1⟩ => q1 σ H1 ad1 (Fr.refl _ _) (sg.fr fr) rs1⟩
theorem ds_ret (h : DE X Wx e f) : DS X Wx (.Return (some e) pos) (sRet f) := PS.conv (ps_ret h) fun D σ H ⟨ad, ρ, S, sg, rs, q⟩ =>
  ⟨ad, ρ, S, sg, rs, post_mono (bindS_post sg q) fun v H1 ⟨ad1, w, S1, fr, rel, rs1, q1⟩ => q1 v H1 ad1 (Fr.refl _ _) rel rs1⟩
theorem ds_retN : DS X Wx (.Return none pos) sRetN := PS.conv ps_retN fun D σ H ⟨ad, ρ, S, sg, rs, q⟩ => q _ H ad (Fr.refl _ _) .non rs
theorem ds_if {c : Expr} {a b : List Stmt} {u : BF} (hc : DT X Wx c u) (ha : DSs X Wx a s1) (hb : DSs X Wx b s2) : DS X Wx (.If c a b pos) (sIf u s1 s2) := PS.conv (ps_if hc ha hb) fun D σ H ⟨ad, ρ, S, sg, rs, q⟩ => by
  refine ⟨ad, ρ, S, sg, rs, post_mono (bindS_post sg q) ?_⟩
  rintro b H1 ⟨ad1, w, S1, fr, rel, rs1, q1⟩
  subst rel
  cases b with
  | true =>
    rw [if_pos rfl] at q1 ⊢
    exact ⟨ad1, ρ, S1, sg.fr fr, rs1, q1⟩
  | false =>
    rw [if_neg Bool.false_ne_true] at q1 ⊢
    exact ⟨ad1, ρ, S1, sg.fr fr, rs1, q1⟩
theorem ds_set {i : Nat} {x : Str} {pos' : Pos} (hN : X.N.Nodup) (hi : X.N[i]? = some x) (hx : Loc X.env.scope x) (he : DE X Wx e f) (hs : swapsWith e (some (.Name x pos')) pos.line X.env = pure false := by rfl) (hf : X.fn x = true ∨ X.env.scope.names.lookup x = some .local := by first | exact .inl rfl | exact .inr rfl | assumption) :
    DS X Wx (.Assign [.Name x pos'] e pos) (sSet i f) := PS.conv (ps_set hN hi hx he hs hf) fun D σ H ⟨ad, ρ, S, sg, rs, q⟩ =>
  ⟨ad, ρ, S, sg, rs, post_mono (bindS_post sg q) fun v H1 ⟨ad1, w, S1, fr, rel, rs1, q1⟩ => q1 _ H1 ad1 (Fr.refl _ _) ((sg.fr fr).set i rel) rs1⟩
end

/-! ### targets -/
def SameBut (ix : List Nat) (σ σ' : L2.St) : Prop := σ'.length = σ.length ∧ ∀ (j : Nat), j ∉ ix → σ'[j]? = σ[j]?
abbrev GF := PyData → Rho → Option Rho
abbrev GFs := List PyData → Rho → Option Rho
def tDG (K : PySem.W.Frag) (ix : List Nat) (t : GF) : TG := fun v σ H Q => ∃ ad ρ d ρ', Sig K ad H σ ρ ∧ Rep K H v d ∧ t d ρ = some ρ' ∧ ∀ σ', Sig K ad H σ' ρ' → SameBut ix σ σ' → Q σ' H
def tDGs (K : PySem.W.Frag) (ix : List Nat) (t : GFs) : TGs := fun vs σ H Q => ∃ ad ρ ds ρ', Sig K ad H σ ρ ∧ Reps K H vs ds ∧ t ds ρ = some ρ' ∧ ∀ σ', Sig K ad H σ' ρ' → SameBut ix σ σ' → Q σ' H
abbrev DG (X : Cx) (ix : List Nat) (tg : Expr) (t : GF) : Prop := PG X tg (tDG X.K ix t)
abbrev DGs (X : Cx) (ix : List Nat) (tg : List Expr) (t : GFs) : Prop := PGs X tg (tDGs X.K ix t)
theorem PG.conv {X : Cx} {e : Expr} {t t' : TG} (h : PG X e t) (c : ∀ v σ H Q, t' v σ H Q → t v σ H Q) : PG X e t' := ⟨fun pins s σ H v u Q I r q => h.run pins s σ H v u Q I r (c _ _ _ _ q)⟩
theorem PGs.conv {X : Cx} {e : List Expr} {t t' : TGs} (h : PGs X e t) (c : ∀ (v : List V) (σ : L2.St) (H : Hp) (Q : L2.St → Hp → Prop), t' v σ H Q → t v σ H Q) : PGs X e t' := ⟨fun pins s σ H v u Q I r q => h.run pins s σ H v u Q I r (c _ _ _ _ q)⟩
theorem pg_or {X : Cx} {e : Expr} {t t' : TG} (h : PG X e t) (h' : PG X e t') : PG X e (fun v σ H Q => t v σ H Q ∨ t' v σ H Q) := ⟨fun pins s σ H v u Q I r q => q.elim (h.run pins s σ H v u Q I r) (h'.run pins s σ H v u Q I r)⟩
def gNm (i : Nat) : GF := fun d ρ => some (ρ.set i (some (.d d)))
def gsNil : GFs := fun ds ρ => match ds with
  | [] => some ρ
  | _ => none
def gsCons (t : GF) (u : GFs) : GFs := fun ds ρ => match ds with
  | d :: r => match t d ρ with
    | some ρ1 => u r ρ1
    | none => none
  | [] => none
def gTp (n : Nat) (t : GFs) : GF := fun d ρ => match d with
  | .tuple l => if l.length = n then t l ρ else none
  | .list l => if l.length = n then t l ρ else none
  | _ => none
section
variable {X : Cx} {e : Expr} {es : List Expr} {ix ix' : List Nat} {t : GF} {u : GFs} {pos : Pos}
theorem dg_name {i : Nat} {x : Str} (p : PG X (.Name x pos) (gName i)) : DG X [i] (.Name x pos) (gNm i) := PG.conv p fun v σ H Q ⟨ad, ρ, d, ρ', sg, r, e, q⟩ => by
  cases e
  exact q _ (sg.set i (w := .d d) r) ⟨List.length_set, fun j hj => List.getElem?_set_ne (fun z => hj (by simp [z]))⟩
theorem dgs_nil : DGs X [] [] gsNil := PGs.conv pgs_nil fun vs σ H Q ⟨ad, ρ, ds, ρ', sg, r, e, q⟩ => by
  cases r with
  | nil =>
    cases e
    exact ⟨rfl, q σ sg ⟨rfl, fun _ _ => rfl⟩⟩
  | cons _ _ => cases e
theorem dgs_cons (h1 : DG X ix e t) (h2 : DGs X ix' es u) (hs : (assignEach (e :: es) X.env).map (·.2) = assign e X.env :: (assignEach es X.env).map (·.2) := by rfl) : DGs X (ix ++ ix') (e :: es) (gsCons t u) :=
  PGs.conv (pgs_cons h1 h2 hs) fun vs σ H Q ⟨ad, ρ, ds, ρ', sg, r, e, q⟩ => by
    cases r with
    | nil => cases e
    | @cons v vs d ds r1 r2 =>
      unfold gsCons at e
      dsimp only at e
      cases ht : t d ρ with
      | none => rw [ht] at e; cases e
      | some ρ1 =>
        rw [ht] at e
        refine ⟨v, vs, rfl, ad, ρ, d, ρ1, sg, r1, ht, fun σ1 sg1 sb1 => ⟨ad, ρ1, ds, ρ', sg1, r2, e, fun σ2 sg2 sb2 => q σ2 sg2 ⟨sb2.1.trans sb1.1, fun j hj => ?_⟩⟩⟩
        rw [List.mem_append, not_or] at hj
        exact (sb2.2 j hj.2).trans (sb1.2 j hj.1)
theorem dg_tup {k n : Nat} (hc : X.calm = true) (h : DGs X ix es u) (hn : (assignEach es X.env).length = n := by rfl) (hst : (assignEach es X.env).findIdx? (·.1) = none := by rfl) : DG X ix (.Tuple es k pos) (gTp n u) :=
  PG.conv (pg_or (pg_tup hc h hn hst) (pg_lst hc h hn hst)) fun v σ H Q ⟨ad, ρ, d, ρ', sg, r, e, q⟩ => by
    unfold gTp at e
    split at e
    · split at e
      · rename_i hl
        cases r with
        | tup t1 r1 => exact .inl ⟨_, _, rfl, t1.sq, by rw [r1.length]; exact hl, ad, ρ, _, ρ', sg, r1, e, q⟩
      · cases e
    · split at e
      · rename_i hl
        cases r with
        | lst t1 r1 => exact .inr ⟨_, _, rfl, t1.sq, by rw [r1.length]; exact hl, ad, ρ, _, ρ', sg, r1, e, q⟩
      · cases e
    · cases e
end
/-- target = e -/
def sAsg (f : EF) (t : GF) : SF := fun ρ S => bindS ((f ρ S).bind frzW) ρ fun w S1 => match w with
  | .d x => match t x ρ with
    | some ρ1 => .fl (.nx ρ1) S1
    | none => .bad
  | _ => .bad
theorem ds_asg {X : Cx} {Wx : WX} {tg e : Expr} {f : EF} {ix : List Nat} {t : GF} {pos : Pos} (he : DE X Wx e f) (hg : DG X ix tg t) (hs : swapsWithSole [tg] e pos.line X.env = pure false := by rfl) (hw : swappedStores [tg] e X.env = pure none := by rfl)
    (h1 : (assignEach [tg] X.env).map (·.2) = [assign tg X.env] := by rfl) : DS X Wx (.Assign [tg] e pos) (sAsg f t) := PS.conv (ps_asg (de_frz he) hg hs hw h1) fun D σ H ⟨ad, ρ, S, sg, rs, q⟩ => by
  refine ⟨ad, ρ, S, sg, rs, post_mono (bindS_post (Rel := RepW X.K) sg q) ?_⟩
  rintro v H1 ⟨ad1, w, S1, fr, rel, rs1, q1⟩
  cases w with
  | fn _ _ _ => exact q1.elim
  | own k => exact q1.elim
  | d x =>
    dsimp only at q1
    cases ht : t x ρ with
    | none => rw [ht] at q1; exact q1.elim
    | some ρ1 =>
      rw [ht] at q1
      exact ⟨ad1, ρ, x, ρ1, sg.fr fr, rel, ht, fun σ' sg' _ => q1 σ' H1 ad1 (Fr.refl _ _) sg' rs1⟩
/-- a, b = e1, e2, names -/
def sPar (i j : Nat) (f g : EF) : SF := fun ρ S => bindS (f ρ S) ρ fun x S1 => bindS (g ρ S1) ρ fun y S2 => .fl (.nx ((ρ.set i (some x)).set j (some y))) S2
theorem ds_par {X : Cx} {Wx : WX} {i j : Nat} {x y : Str} {a b : Expr} {f g : EF} {px py pt pos : Pos} {kt k2 pt2} (hc : X.calm = true) (hN : X.N.Nodup) (hi : X.N[i]? = some x) (hj : X.N[j]? = some y) (hij : i ≠ j)
    (hx : X.env.scope.names.lookup x = some .local) (hy : X.env.scope.names.lookup y = some .local) (ha : DE X Wx a f) (hb : DE X Wx b g) (hs0 : starEach (a :: [b]) X.env = (false, eval a X.env) :: starEach [b] X.env := by rfl) (hs1 : starEach (b :: []) X.env = (false, eval b X.env) :: starEach [] X.env := by rfl)
    (hw : swappedStores [.Tuple [.Name x px, .Name y py] kt pt] (.Tuple [a, b] k2 pt2) X.env = pure (some [x, y]) := by rfl)
    (hs : swapsWithSole [.Tuple [.Name x px, .Name y py] kt pt] (.Tuple [a, b] k2 pt2) pos.line X.env = pure false := by rfl) : DS X Wx (.Assign [.Tuple [.Name x px, .Name y py] kt pt] (.Tuple [a, b] k2 pt2) pos) (sPar i j f g) :=
  PS.conv (ps_par hc hN hi hj hij hx hy (pa_cons ha (pa_cons hb pa_nil hs1) hs0) hw hs) fun D σ H ⟨ad, ρ, S, sg, rs, q⟩ => by
    refine ⟨ad, ρ, S, sg, rs, post_mono (bindS_post (Rel := RepW X.K) sg q) ?_⟩
    rintro v H1 ⟨ad1, w, S1, fr, rel, rs1, q1⟩
    refine ⟨ad1, ρ, S1, sg.fr fr, rs1, post_mono (bindS_post (Rel := RepW X.K) (sg.fr fr) q1) ?_⟩
    rintro v2 H2 ⟨ad2, w2, S2, fr2, rel2, rs2, q2⟩
    exact ⟨v, v2, rfl, q2 _ H2 ad2 (Fr.refl _ _) ((((sg.fr fr).fr fr2).set i (rel.fr fr2)).set j rel2) rs2⟩

/-! ### what is walked -/
def Walk (K : PySem.W.Frag) (J : It) (H : Hp) (l : List PyData) : Prop := l.length ≤ sizeLine ∧ ∀ H', Stb H H' → J.stop l.length H' ∧ ∀ (i : Nat) (d : PyData), l[i]? = some d → J.go i H' ∧ ∀ x H'', J.yld i H' x H'' → Ex H' H'' ∧ Rep K H'' x d
abbrev IF := Rho → Sto → Rs (List PyData)
def tDI (K : PySem.W.Frag) (mg : Str → Option Value) (Wx : WX) (f : IF) : TI := fun σ H R => ∃ ad ρ S, Sig K ad H σ ρ ∧ RS K ad H S ∧ post K mg Wx σ ad H (fun _ H' J l => Walk K J H' l) (f ρ S) R
abbrev DI (X : Cx) (Wx : WX) (tg iter : Expr) (f : IF) : Prop := PI X tg iter (tDI X.K X.mg Wx f)
theorem PI.conv {X : Cx} {tg e : Expr} {t t' : TI} (h : PI X tg e t) (c : ∀ σ H Q, t' σ H Q → t σ H Q) : PI X tg e t' := ⟨fun pins s σ H R I q => h.run pins s σ H R I (c _ _ _ q)⟩
theorem walk_list {K : PySem.W.Frag} {H : Hp} {a : Addr} {vs : List V} {l : List PyData} (h : FzL K H a vs) (r : Reps K H vs l) (hz : vs.length ≤ sizeLine) : Walk K (Itl K a) H l := by
  refine ⟨by rw [← r.length]; exact hz, fun H' st => ⟨⟨vs, (h.stb st).sq, by rw [r.length]; exact Nat.le_refl _⟩, fun i d e => ?_⟩⟩
  have r' := Reps.stb st l r
  obtain ⟨v, e1, e2⟩ := r'.get e
  refine ⟨⟨vs, v, (h.stb st).sq, e1⟩, ?_⟩
  rintro x H'' ⟨rfl, y⟩
  have := y vs (h.stb st).sq
  rw [e1] at this; cases this
  exact ⟨Ex.refl _, e2⟩
theorem walk_tup {K : PySem.W.Frag} {H : Hp} {a : Addr} {vs : List V} {l : List PyData} (h : SqT K H a vs) (r : Reps K H vs l) (hz : vs.length ≤ sizeLine) : Walk K (Itt K a) H l := by
  refine ⟨by rw [← r.length]; exact hz, fun H' st => ⟨⟨vs, sqT_stb st h, by rw [r.length]; exact Nat.le_refl _⟩, fun i d e => ?_⟩⟩
  have r' := Reps.stb st l r
  obtain ⟨v, e1, e2⟩ := r'.get e
  refine ⟨⟨vs, v, sqT_stb st h, e1⟩, ?_⟩
  rintro x H'' ⟨rfl, y⟩
  have := y vs (sqT_stb st h)
  rw [e1] at this; cases this
  exact ⟨Ex.refl _, e2⟩
def rangeD (lo : Int) (n : Nat) : List PyData := (List.range n).map fun i => .int (lo + (i : Nat))
theorem walk_range {K : PySem.W.Frag} {H : Hp} {lo : Int} {n : Nat} (hz : n ≤ sizeLine) : Walk K (Itr lo n) H (rangeD lo n) := by
  have hl : (rangeD lo n).length = n := by simp [rangeD]
  refine ⟨by rw [hl]; exact hz, fun H' st => ⟨by rw [hl]; exact Nat.le_refl n, fun i d e => ?_⟩⟩
  have hi : i < n := by rw [← hl]; exact (List.getElem?_eq_some_iff.mp e).1
  have : d = .int (lo + (i : Nat)) := by
    unfold rangeD at e
    rw [List.getElem?_map, List.getElem?_range hi] at e
    exact (Option.some.inj e).symm
  subst this
  refine ⟨hi, ?_⟩
  rintro x H'' ⟨rfl, rfl⟩
  exact ⟨Ex.refl _, .int _⟩
def signsD (z : Str) : List PyData := z.cps.toList.map fun c => .str ⟨#[c]⟩
theorem walk_str {K : PySem.W.Frag} {H : Hp} {z : Str} (hz : strG z = true) : Walk K (Its z) H (signsD z) := by
  have hl : (signsD z).length = z.cps.size := by simp [signsD]
  refine ⟨by rw [hl]; exact strG_len hz, fun H' st => ⟨by rw [hl]; exact Nat.le_refl _, fun i d e => ?_⟩⟩
  have hi : i < z.cps.size := by rw [← hl]; exact (List.getElem?_eq_some_iff.mp e).1
  refine ⟨hi, ?_⟩
  rintro x H'' ⟨rfl, c, hc, rfl⟩
  unfold signsD at e
  rw [List.getElem?_map, Array.getElem?_toList, hc] at e
  cases e
  exact ⟨Ex.refl _, .str _ (sign_G hz (by rw [Array.mem_toList_iff]; exact Array.mem_of_getElem? hc))⟩
/-- keys that are walked -/
def keyG : PyData → Bool
  | .str x => strG x
  | _ => true
def seqD : PyData → Option (List PyData)
  | .list l => some l
  | .tuple l => some l
  | .str z => some (signsD z)
  | .dict l => if ((l.all fun p => keyG p.1) && decide (l.length ≤ sizeLine)) = true then some (l.map (·.1)) else none
  | _ => none
theorem seqD_dict {l : List (PyData × PyData)} {m : List PyData} (e : seqD (.dict l) = some m) : ((l.all fun p => keyG p.1) = true ∧ l.length ≤ sizeLine) ∧ m = l.map (·.1) := by
  have e : (if ((l.all fun p => keyG p.1) && decide (l.length ≤ sizeLine)) = true then some (l.map (·.1)) else none) = some m := e
  split at e
  · rename_i h
    rw [Bool.and_eq_true] at h
    cases e
    exact ⟨⟨h.1, of_decide_eq_true h.2⟩, rfl⟩
  · cases e
theorem repKV_key {K : PySem.W.Frag} {H : Hp} : ∀ {kvs : List (Key × V)} {l : List (PyData × PyData)}, RepKV K H kvs l → (l.all fun p => keyG p.1) = true → ∀ (i : Nat) (d : PyData), (l.map (·.1))[i]? = some d → ∃ k v, kvs[i]? = some (k, v) ∧ Rep K H (kV k) d
  | _, _, .nil, _, i, d, e => by simp at e
  | _, _, .cons (k := k) (v := v) h t, g, 0, d, e => by
    cases e
    rw [List.all_cons, Bool.and_eq_true] at g
    refine ⟨k, v, rfl, ?_⟩
    cases k with
    | inl i => exact .int i
    | inr x => exact .str x g.1
  | _, _, .cons h t, g, i + 1, d, e => by
    rw [List.all_cons, Bool.and_eq_true] at g
    exact repKV_key t g.2 i d (by simpa using e)
theorem repTV_key {K : PySem.W.Frag} {H : Hp} : ∀ {kvs : List (List Key × V)} {l : List (PyData × PyData)}, RepTV K H kvs l → ∀ (i : Nat) (d : PyData), (l.map (·.1))[i]? = some d → ∃ (b : List Int) (v : V), kvs[i]? = some (b.map Sum.inl, v) ∧ d = .tuple (b.map PyData.int)
  | _, _, .nil, i, d, e => by simp at e
  | _, _, .cons (b := b) (v := v) h t, 0, d, e => by
    cases e
    exact ⟨b, v, rfl, rfl⟩
  | _, _, .cons h t, i + 1, d, e => repTV_key t i d (by simpa using e)
theorem reps_intsK {K : PySem.W.Frag} {H : Hp} : ∀ b : List Int, Reps K H ((b.map (Sum.inl : Int → Key)).map kV) (b.map PyData.int)
  | [] => .nil
  | i :: b => .cons (.int i) (reps_intsK b)
theorem walk_keysD {K : PySem.W.Frag} {H : Hp} {a : Addr} {o : Obj} {kvs : List (Key × V)} {l : List (PyData × PyData)} (h : H a = some (.frz o (.dK kvs))) (r : RepKV K H kvs l) (g : (l.all fun p => keyG p.1) = true) (hz : l.length ≤ sizeLine) : Walk K (Itk a o kvs) H (l.map (·.1)) := by
  have hl := RepKV.length r
  refine ⟨by rw [List.length_map]; exact hz, fun H' st => ⟨⟨st _ _ trivial h, by rw [List.length_map, hl]; exact Nat.le_refl _⟩, fun i d e => ?_⟩⟩
  obtain ⟨k, v, hkv, rv⟩ := repKV_key (RepKV.stb st _ r) g i d e
  refine ⟨⟨st _ _ trivial h, (List.getElem?_eq_some_iff.mp hkv).1⟩, ?_⟩
  rintro x H'' ⟨rfl, k', v', e2, rfl⟩
  rw [hkv] at e2
  cases e2
  exact ⟨Ex.refl _, rv⟩
theorem walk_keysTD {K : PySem.W.Frag} {H : Hp} {a : Addr} {o : Obj} {kvs : List (List Key × V)} {l : List (PyData × PyData)} (h : H a = some (.frz o (.dT kvs))) (r : RepTV K H kvs l) (hz : l.length ≤ sizeLine) : Walk K (Itkt a o kvs) H (l.map (·.1)) := by
  have hl := RepTV.length r
  refine ⟨by rw [List.length_map]; exact hz, fun H' st => ⟨⟨st _ _ trivial h, by rw [List.length_map, hl]; exact Nat.le_refl _⟩, fun i d e => ?_⟩⟩
  obtain ⟨b, v, hkv, rfl⟩ := repTV_key (RepTV.stb st _ r) i d e
  refine ⟨⟨st _ _ trivial h, (List.getElem?_eq_some_iff.mp hkv).1⟩, ?_⟩
  rintro x H'' ⟨rfl, k', v', q, e2, rfl, hq⟩
  rw [hkv] at e2
  cases e2
  exact ⟨Ex.refl _, .tup (.inl hq) (reps_intsK b)⟩
def iVal (f : EF) : IF := fun ρ S => ((f ρ S).bind frzW).bind fun w S1 => match w with
  | .d x => match seqD x with
    | some l => .ok l S1
    | none => .bad
  | _ => .bad
section
variable {X : Cx} {Wx : WX} {tg e : Expr} {f : EF}
theorem di_val (he : DE X Wx e f) : DI X Wx tg e (iVal f) := by
  refine ⟨fun pins s σ H R I ⟨ad, ρ, S, sg, rs, q⟩ => ?_⟩
  refine thn ((de_frz he).run pins s σ H (fun x H1 => ∃ d l, Rep X.K H1 x d ∧ seqD d = some l ∧ ∀ J, Walk X.K J H1 l → R J H1) I ⟨ad, ρ, S, sg, rs, post_mono (post_bind q) ?_⟩) fun v s1 ⟨x, H1, I1, r1, d, l, rd, el, q⟩ => ?_
  · rintro v H1 ⟨ad1, w, S1, fr1, r1, rs1, q1⟩
    cases w with
    | fn _ _ _ => exact q1.elim
    | own k => exact q1.elim
    | d x =>
      dsimp only at q1
      cases hx : seqD x with
      | none => rw [hx] at q1; exact q1.elim
      | some l =>
        rw [hx] at q1
        exact ⟨x, l, r1, hx, fun J w => q1 J H1 ad1 (Fr.refl _ _) w rs1⟩
  · cases rd with
    | lst t r =>
      cases el
      cases r1
      obtain ⟨its, rv, p, hz⟩ := I1.list t.sq
      refine wpAny_pyIter_list p.isList ?_
      refine ⟨s1.heap.objs.size, [s1.heap.objs.size], _, _, H1, rfl, I1.kept (t' := s1.toks) fun b o e => Heap.get?_push_of_some _ e, turn_list _ _, ⟨_, Heap.get?_push_size _ rfl, rfl, rfl⟩, fun b hb => ?_, q _ (walk_list t r hz)⟩
      have e : b = s1.heap.objs.size := by simpa using hb
      subst e
      exact I1.fpOk (Nat.le_refl _) (I1.hok.fresh (Nat.le_refl _))
    | tup t r =>
      cases el
      cases r1
      obtain ⟨its, rv, p, hz⟩ := I1.tuple t.sq
      refine wpAny_pyIter_tuple (show s1.heap.IsTuple _ its.toArray from p) ?_
      refine ⟨s1.heap.objs.size, [s1.heap.objs.size], _, _, H1, rfl, I1.kept (t' := s1.toks) fun b o e => Heap.get?_push_of_some _ e, turn_tuple _ _, ⟨_, Heap.get?_push_size _ rfl, rfl, rfl⟩, fun b hb => ?_, q _ (walk_tup t.sq r hz)⟩
      have e : b = s1.heap.objs.size := by simpa using hb
      subst e
      exact I1.fpOk (Nat.le_refl _) (I1.hok.fresh (Nat.le_refl _))
    | str z hz =>
      cases el
      obtain ⟨t, rfl⟩ := r1
      cases ha : z.cps.all (· < 128)
      · exact wpAny_pyIter_wide ha (pi_one (tk := s1.toks) I1 _ (turn_str _ z t "str_iterator" (.inr rfl)) ⟨_, Heap.get?_push_size _ rfl, rfl, rfl⟩ (q _ (walk_str hz)))
      · exact wpAny_pyIter_ascii ha (pi_one (tk := s1.toks) I1 _ (turn_str _ z t "str_ascii_iterator" (.inl rfl)) ⟨_, Heap.get?_push_size _ rfl, rfl, rfl⟩ (q _ (walk_str hz)))
    | dic t r =>
      obtain ⟨hg, rfl⟩ := seqD_dict el
      cases r1
      obtain ⟨hs, hgd, hx, es, ep, vs, hdt, hsz, kv, hm⟩ := I1.frzK t
      refine iter_keys hs hgd hx hdt (pi_one (tk := s1.toks) I1 _ (turn_keys _ hdt) ⟨_, Heap.get?_push_size _ rfl, rfl, ?_⟩ (q _ (walk_keysD t r hg.1 hg.2)))
      rw [hsz] <;> rfl
    | dicT t r z =>
      obtain ⟨hg, rfl⟩ := seqD_dict el
      cases r1
      obtain ⟨hs, hgd, hx, es, ep, hdt, hsz, ent⟩ := I1.frzT t
      refine iter_keys hs hgd hx hdt (pi_one (tk := s1.toks) I1 _ (turn_keysT _ hdt) ⟨_, Heap.get?_push_size _ rfl, rfl, ?_⟩ (q _ (walk_keysTD t r hg.2)))
      rw [hsz] <;> rfl
    | _ => cases el
def rngOk (i : Int) : Bool := decide (-(2 ^ 62) ≤ i ∧ i < 2 ^ 62)
theorem rng_of {i : Int} (h : rngOk i = true) : -(2 ^ 62) ≤ i ∧ i < 2 ^ 62 := of_decide_eq_true h
def iRange1 (f : LF) : IF := fun ρ S => (f ρ S).bind fun ws S1 => match ws with
  | [.d (.int j)] => if rngOk j && decide (j.toNat ≤ sizeLine) then .ok (rangeD 0 j.toNat) S1 else .bad
  | _ => .bad
def iRange2 (f : LF) : IF := fun ρ S => (f ρ S).bind fun ws S1 => match ws with
  | [.d (.int i), .d (.int j)] => if rngOk i && rngOk j && decide ((j - i).toNat ≤ sizeLine) then .ok (rangeD i (j - i).toNat) S1 else .bad
  | _ => .bad
theorem di_range1 {a : Expr} {l : LF} {p pos : Pos} (hg : Gl X "range") (hm : X.mg "range" = none) (ha : DA X Wx [a] l) (hs : starEach [a] X.env = [(false, eval a X.env)] := by rfl) : DI X Wx tg (.Call (.Name "range" p) [a] [] pos) (iRange1 l) :=
  PI.conv (pi_range1 hg hm ha hs) fun σ H R ⟨ad, ρ, S, sg, rs, q⟩ => by
    refine ⟨ad, ρ, S, sg, rs, post_mono (post_bind q) ?_⟩
    rintro vs H1 ⟨ad1, ws, S1, fr1, r1, rs1, q1⟩
    split at q1
    · split at q1
      · rename_i hb
        rw [Bool.and_eq_true] at hb
        obtain ⟨h1, h2⟩ := hb
        cases r1 with
        | cons r rr =>
          cases rr
          cases r
          exact ⟨_, rfl, (rng_of h1).1, (rng_of h1).2, q1 _ H1 ad1 (Fr.refl _ _) (walk_range (of_decide_eq_true h2)) rs1⟩
      · exact q1.elim
    · exact q1.elim
theorem di_range2 {a b : Expr} {l : LF} {p pos : Pos} (hg : Gl X "range") (hm : X.mg "range" = none) (ha : DA X Wx [a, b] l) (hs : starEach [a, b] X.env = [(false, eval a X.env), (false, eval b X.env)] := by rfl) (hs2 : starEach [b] X.env = [(false, eval b X.env)] := by rfl) :
    DI X Wx tg (.Call (.Name "range" p) [a, b] [] pos) (iRange2 l) :=
  PI.conv (pi_range2 hg hm ha hs hs2) fun σ H R ⟨ad, ρ, S, sg, rs, q⟩ => by
    refine ⟨ad, ρ, S, sg, rs, post_mono (post_bind q) ?_⟩
    rintro vs H1 ⟨ad1, ws, S1, fr1, r1, rs1, q1⟩
    split at q1
    · split at q1
      · rename_i hb
        rw [Bool.and_eq_true, Bool.and_eq_true] at hb
        obtain ⟨⟨h1, h3⟩, h2⟩ := hb
        cases r1 with
        | cons r rr =>
          cases rr with
          | cons r' rr =>
            cases rr
            cases r
            cases r'
            exact ⟨_, _, rfl, ⟨(rng_of h1).1, (rng_of h1).2, (rng_of h3).1, (rng_of h3).2⟩, q1 _ H1 ad1 (Fr.refl _ _) (walk_range (of_decide_eq_true h2)) rs1⟩
      · exact q1.elim
    · exact q1.elim
end

/-! ### for, while -/
def forRun (t : GF) (b : SF) : List PyData → SF
  | [], ρ, S => .fl (.nx ρ) S
  | d :: l, ρ, S => match t d ρ with
    | some ρ1 => stepR (b ρ1 S) (forRun t b l)
    | none => .bad
def sFor (i : IF) (t : GF) (b : SF) : SF := fun ρ S => bindS (i ρ S) ρ fun l S1 => forRun t b l ρ S1
theorem ds_for {X : Cx} {Wx : WX} {tg iter : Expr} {body : List Stmt} {i : IF} {ix : List Nat} {t : GF} {b : SF} {pos : Pos} (hp : PassesOwn (model X.prog X.w) X.A X.env X.xe) (hc : X.calm = true) (hi : DI X Wx tg iter i) (hg : DG X ix tg t) (hb : DSs X Wx body b)
    (hs : ∀ x, foldedSetIterable iter X.env x = pure x := by intro _; rfl) : DS X Wx (.For tg iter body [] pos) (sFor i t b) := PS.conv (ps_for hp hc hi hg hb hs) fun D σ H ⟨ad, ρ, S, sg, rs, q⟩ => by
  refine ⟨ad, ρ, S, sg, rs, post_mono (bindS_post sg q) ?_⟩
  rintro J H1 ⟨ad1, l, S1, fr1, ⟨hz, wk⟩, rs1, q1⟩
  refine ⟨fun n m σ' H' => m = l.length - n ∧ n ≤ l.length ∧ Stb H1 H' ∧ ∃ ad' ρ' S', Sig X.K ad' H' σ' ρ' ∧ RS X.K ad' H' S' ∧ postS X.K X.mg Wx ad' H' (forRun t b (l.drop n) ρ' S') D,
    ⟨l.length, by simp, Nat.zero_le _, Stb.refl _, ad1, ρ, S1, sg.fr fr1, rs1, by simpa using q1⟩, ?_⟩
  rintro n m σ' H' ⟨rfl, hn, st, ad', ρ', S', sg', rs', q'⟩
  obtain ⟨stop, go⟩ := wk H' st
  by_cases hlt : n < l.length
  · refine .inr ?_
    obtain ⟨hgo, yl⟩ := go n l[n] (by simp [hlt])
    refine ⟨hgo, fun σ2 H2 => Stb H1 H2 ∧ ∃ ad' ρ' S', Sig X.K ad' H2 σ2 ρ' ∧ RS X.K ad' H2 S' ∧ postS X.K X.mg Wx ad' H2 (forRun t b (l.drop (n + 1)) ρ' S') D, fun σ2 H2 ⟨st2, z⟩ => ⟨l.length - (n + 1), by omega, rfl, hlt, st2, z⟩, fun x H2 y => ?_⟩
    obtain ⟨ex, rx⟩ := yl x H2 y
    rw [List.drop_eq_getElem_cons hlt] at q'
    unfold forRun at q'
    cases ht : t l[n] ρ' with
    | none => rw [ht] at q'; exact q'.elim
    | some ρ1 =>
      rw [ht] at q'
      refine ⟨ad', ρ', l[n], ρ1, sg'.fr ex.fr, rx, ht, fun σ3 sg3 _ => ⟨ad', ρ1, S', sg3, rs'.ex ex, ?_⟩⟩
      exact postS_step (fun σ4 H4 ad4 ρ4 S4 fr4 sg4 rs4 z => ⟨(st.trans ex.stb).trans fr4.stb, ad4, ρ4, S4, sg4, rs4, z⟩) (postS_fr q' ex.fr)
  · have e : n = l.length := by omega
    subst e
    rw [List.drop_length] at q'
    exact .inl ⟨stop, q' σ' H' ad' (Fr.refl _ _) sg' rs'⟩
def whileN (c : BF) (b : SF) : Nat → SF
  | 0, _, _ => .bad
  | n + 1, ρ, S => bindS (c ρ S) ρ fun k S1 => if k = true then stepR (b ρ S1) (whileN c b n) else .fl (.nx ρ) S1
theorem stepR_mono {r : RF} {k k' : SF} (h : ∀ ρ S, k ρ S ≠ .bad → k' ρ S = k ρ S) (hb : stepR r k ≠ .bad) : stepR r k' = stepR r k := by
  cases r with
  | bad => rfl
  | exc x ρ S => rfl
  | fl g S =>
    cases g with
    | nx ρ => exact h ρ S hb
    | ct ρ => exact h ρ S hb
    | bk ρ => rfl
    | rt w => rfl
theorem whileN_succ {c : BF} {b : SF} : ∀ (n : Nat) (ρ : Rho) (S : Sto), whileN c b n ρ S ≠ .bad → whileN c b (n + 1) ρ S = whileN c b n ρ S
  | 0, _, _, h => absurd rfl h
  | n + 1, ρ, S, h => by
    have h' : bindS (c ρ S) ρ (fun k S1 => if k = true then stepR (b ρ S1) (whileN c b n) else .fl (.nx ρ) S1) ≠ .bad := h
    show bindS (c ρ S) ρ (fun k S1 => if k = true then stepR (b ρ S1) (whileN c b (n + 1)) else .fl (.nx ρ) S1) = bindS (c ρ S) ρ (fun k S1 => if k = true then stepR (b ρ S1) (whileN c b n) else .fl (.nx ρ) S1)
    revert h'
    cases c ρ S with
    | bad => exact fun h' => absurd rfl h'
    | exc x S1 => exact fun _ => rfl
    | ok k S1 =>
      intro h'
      cases k with
      | true => exact stepR_mono (whileN_succ n) h'
      | false => rfl
theorem whileN_add {c : BF} {b : SF} {n : Nat} {ρ : Rho} {S : Sto} (h : whileN c b n ρ S ≠ .bad) : ∀ m, whileN c b (n + m) ρ S = whileN c b n ρ S
  | 0 => rfl
  | m + 1 => by
    have ih := whileN_add h m
    rw [← Nat.add_assoc, whileN_succ _ _ _ (by rw [ih]; exact h), ih]
open Classical in
noncomputable def sWhile (c : BF) (b : SF) : SF := fun ρ S => if h : ∃ n, whileN c b n ρ S ≠ .bad then whileN c b h.choose ρ S else .bad
theorem sWhile_eq {c : BF} {b : SF} {n : Nat} {ρ : Rho} {S : Sto} {r : RF} (e : whileN c b n ρ S = r) (h : r ≠ .bad) : sWhile c b ρ S = r := by
  have hx : ∃ n, whileN c b n ρ S ≠ .bad := ⟨n, by rw [e]; exact h⟩
  unfold sWhile
  rw [dif_pos hx]
  have h1 := whileN_add hx.choose_spec n
  have h2 := whileN_add (n := n) (by rw [e]; exact h) hx.choose
  rw [← h1, Nat.add_comm, h2, e]
theorem ds_while {X : Cx} {Wx : WX} {c : Expr} {body : List Stmt} {u : BF} {b : SF} {pos : Pos} (hp : PassesOwn (model X.prog X.w) X.A X.env X.xe) (hc : DT X Wx c u) (hb : DSs X Wx body b) : DS X Wx (.While c body [] pos) (sWhile u b) := PS.conv (ps_while hp hc hb) fun D σ H ⟨ad, ρ, S, sg, rs, q⟩ => by
  have hx : ∃ n, postS X.K X.mg Wx ad H (whileN u b n ρ S) D := by
    unfold sWhile at q
    split at q
    · exact ⟨_, q⟩
    · exact q.elim
  obtain ⟨n0, q0⟩ := hx
  refine ⟨fun m σ' H' => ∃ ad' ρ' S', Sig X.K ad' H' σ' ρ' ∧ RS X.K ad' H' S' ∧ postS X.K X.mg Wx ad' H' (whileN u b m ρ' S') D, ⟨n0, ad, ρ, S, sg, rs, q0⟩, ?_⟩
  rintro m σ' H' ⟨ad', ρ', S', sg', rs', q'⟩
  cases m with
  | zero => exact q'.elim
  | succ m =>
    refine ⟨ad', ρ', S', sg', rs', post_mono (bindS_post (Rel := fun _ _ v b => v = b) sg' q') ?_⟩
    rintro k H1 ⟨ad1, w, S1, fr1, rel, rs1, q1⟩
    subst rel
    cases k with
    | true =>
      rw [if_pos rfl] at q1 ⊢
      refine ⟨fun σ2 H2 => ∃ ad' ρ' S', Sig X.K ad' H2 σ2 ρ' ∧ RS X.K ad' H2 S' ∧ postS X.K X.mg Wx ad' H2 (whileN u b m ρ' S') D, fun σ2 H2 z => ⟨m, Nat.lt_succ_self m, z⟩, ad1, ρ', S1, sg'.fr fr1, rs1, ?_⟩
      exact postS_step (fun σ4 H4 ad4 ρ4 S4 fr4 sg4 rs4 z => ⟨ad4, ρ4, S4, sg4, rs4, z⟩) q1
    | false =>
      rw [if_neg Bool.false_ne_true] at q1 ⊢
      exact q1 σ' H1 ad1 (Fr.refl _ _) (sg'.fr fr1) rs1

/-! ### list comprehensions -/
def W0 : WX := fun _ _ _ _ => False
def wipeR (ρ : Rho) : List Nat → Rho
  | [] => ρ
  | v :: vs => (wipeR ρ vs).set v none
theorem sig_wipe {K : PySem.W.Frag} {ad : List Addr} {H : Hp} {σ : L2.St} {ρ : Rho} (sg : Sig K ad H σ ρ) : ∀ vs, Sig K ad H (wipe σ vs) (wipeR ρ vs)
  | [] => sg
  | v :: vs => by
    have ih := sig_wipe sg vs
    refine ⟨by show ((wipe σ vs).set v none).length = ((wipeR ρ vs).set v none).length; rw [List.length_set, List.length_set]; exact ih.len, fun j u e => ?_⟩
    have e : ((wipeR ρ vs).set v none)[j]? = some (some u) := e
    by_cases hj : v = j
    · subst hj
      by_cases hi : v < (wipeR ρ vs).length
      · rw [List.getElem?_set_self hi] at e; cases e
      · rw [List.getElem?_eq_none (by simpa using hi)] at e; cases e
    · rw [List.getElem?_set_ne hj] at e
      obtain ⟨v', e1, e2⟩ := ih.sl j u e
      exact ⟨v', by show ((wipe σ vs).set v none)[j]? = _; rw [List.getElem?_set_ne hj]; exact e1, e2⟩
theorem wipe_same {σ σ' : L2.St} {ix : List Nat} : ∀ {vs : List Nat}, (∀ j ∈ ix, j ∈ vs) → SameBut ix σ σ' → wipe σ' vs = wipe σ vs := fun {vs} h sb => by
  have hz : ∀ (vs : List Nat) (τ : L2.St) (j : Nat), j ∈ vs → j < τ.length → (wipe τ vs)[j]? = some none := by
    intro vs
    induction vs with
    | nil => intro τ j hj; simp at hj
    | cons v vs ih =>
      intro τ j hj hl
      show ((wipe τ vs).set v none)[j]? = some none
      by_cases e : v = j
      · subst e
        rw [List.getElem?_set_self (by rw [wipe_length]; exact hl)]
      · rw [List.getElem?_set_ne e]
        rcases List.mem_cons.mp hj with z | z
        · exact absurd z.symm e
        · exact ih τ j z hl
  apply List.ext_getElem?
  intro j
  by_cases hv : j ∈ vs
  · by_cases hl : j < σ.length
    · rw [hz vs σ j hv hl, hz vs σ' j hv (by rw [sb.1]; exact hl)]
    · rw [List.getElem?_eq_none (by rw [wipe_length]; have := sb.1; omega), List.getElem?_eq_none (by rw [wipe_length]; have := sb.1; omega)]
  · rw [wipe_out hv, wipe_out hv]
    exact sb.2 j fun z => hv (h j z)
def lcRun (t : GF) (c : BF) (f : EF) (ρ : Rho) : List PyData → List PyData → Sto → Rs (List PyData)
  | [], acc, S => .ok acc S
  | d :: l, acc, S => match t d ρ with
    | some ρ1 => match c ρ1 S with
      | .ok true S1 => match f ρ1 S1 with
        | .ok (.d y) S2 => lcRun t c f ρ l (acc ++ [y]) S2
        | _ => .bad
      | .ok false S1 => lcRun t c f ρ l acc S1
      | _ => .bad
    | none => .bad
def bYes : BF := fun _ S => .ok true S
def mLc (i : IF) (t : GF) (c : BF) (f : EF) (vs : List Nat) : MF := fun ρ S => (i ρ S).bind fun l S1 => lcRun t c f (wipeR ρ vs) l [] S1
abbrev DTs (X : Cx) (Wx : WX) (ifs : List Expr) (u : BF) : Prop := PTs X ifs (tDT X.K X.mg Wx u)
theorem dts_nil {X : Cx} {Wx : WX} : DTs X Wx [] bYes := ⟨fun pins s σ H Q I ⟨ad, ρ, S, sg, rs, q⟩ => pts_nil.run pins s σ H Q I (q _ H ad (Fr.refl _ _) rfl rs)⟩
theorem dts_one {X : Cx} {Wx : WX} {c : Expr} {u : BF} (h : DT X Wx c u) : DTs X Wx [c] u := pts_one h
theorem post_fr {α β : Type} {K : PySem.W.Frag} {mg : Str → Option Value} {Wx : WX} {σ : L2.St} {ad ad1 : List Addr} {H H1 : Hp} {Rel : List Addr → Hp → β → α → Prop} {r : Rs α} {Q : β → Hp → Prop} (h : post K mg Wx σ ad H Rel r Q) (f : Fr ad H ad1 H1) : post K mg Wx σ ad1 H1 Rel r Q := by
  cases r with
  | bad => exact h
  | exc x S => exact fun cls d H' ad' fr => h cls d H' ad' (f.trans fr)
  | ok w S => exact fun v H' ad' fr => h v H' ad' (f.trans fr)
theorem wipe_wipe (σ : L2.St) (vs : List Nat) : wipe (wipe σ vs) vs = wipe σ vs := wipe_same (ix := vs) (fun _ h => h) ⟨wipe_length σ vs, fun _ hj => wipe_out hj⟩
theorem lcRun_noexc {t : GF} {c : BF} {f : EF} {ρ : Rho} {x : Xc} {S' : Sto} : ∀ (l acc : List PyData) (S : Sto), lcRun t c f ρ l acc S ≠ .exc x S'
  | [], _, _, h => by cases h
  | d :: l, acc, S, h => by
    unfold lcRun at h
    cases ht : t d ρ with
    | none => rw [ht] at h; cases h
    | some ρ1 =>
      rw [ht] at h
      dsimp only at h
      split at h
      · split at h
        · exact lcRun_noexc l _ _ h
        · cases h
      · exact lcRun_noexc l _ _ h
      · cases h
theorem lc_conv {K : PySem.W.Frag} {mg : Str → Option Value} {Wx : WX} {i : IF} {t : GF} {c : BF} {f : EF} {vs ix : List Nat} (hv : ∀ j ∈ ix, j ∈ vs) {σ : L2.St} {H : Hp} {Q : VK} (q : tDM K mg Wx (mLc i t c f vs) σ H Q) :
    tLc (tDI K mg Wx i) (tDG K ix t) (tDT K mg W0 c) (tD K mg W0 f) vs σ H Q := by
  obtain ⟨ad, ρ, S, sg, rs, q⟩ := q
  refine ⟨ad, ρ, S, sg, rs, post_mono (post_bind q) ?_⟩
  rintro J H1 ⟨ad1, l, S1, fr1, ⟨hz, wk⟩, rs1, q1⟩ D hD
  obtain ⟨h0, hDn⟩ := fr1.back rs1 hD
  obtain ⟨R, hR⟩ : ∃ R, R = lcRun t c f (wipeR ρ vs) l [] S1 := ⟨_, rfl⟩
  rw [← hR] at q1
  have sg1 := sig_wipe (sg.fr fr1) vs
  refine ⟨fun n m H' => m = l.length - n ∧ n ≤ l.length ∧ ∃ ad' S' accV accD, Fr ad1 H1 ad' H' ∧ RS K ad' H' S' ∧ D ∉ ad' ∧ H' D = some (.lst accV) ∧ Reps K H' accV accD ∧ accD.length ≤ n ∧ lcRun t c f (wipeR ρ vs) (l.drop n) accD S' = R,
    ⟨l.length, by simp, Nat.zero_le _, ad1, S1, [], [], (Ex.new hD).fr, rs1.ex (Ex.new hD), hDn, upd_same, .nil, Nat.le_refl _, by rw [hR]; simp⟩, ?_⟩
  rintro n m H' ⟨rfl, hn, ad', S', accV, accD, fr', rs', hn', hD', rp, hle, e⟩
  obtain ⟨stop, go⟩ := wk H' fr'.stb
  by_cases hlt : n < l.length
  · refine .inr ?_
    obtain ⟨hgo, yl⟩ := go n l[n] (by simp [hlt])
    refine ⟨hgo, fun H2 => ∃ ad' S' accV accD, Fr ad1 H1 ad' H2 ∧ RS K ad' H2 S' ∧ D ∉ ad' ∧ H2 D = some (.lst accV) ∧ Reps K H2 accV accD ∧ accD.length ≤ n + 1 ∧ lcRun t c f (wipeR ρ vs) (l.drop (n + 1)) accD S' = R,
      fun H2 z => ⟨l.length - (n + 1), by omega, rfl, hlt, z⟩, fun x H2 y => ?_⟩
    obtain ⟨ex, rx⟩ := yl x H2 y
    have fr2 := fr'.trans (ex.fr (ad := ad'))
    have nb : R ≠ .bad := fun z => by rw [z] at q1; exact q1
    rw [← e, List.drop_eq_getElem_cons hlt] at nb
    rw [List.drop_eq_getElem_cons hlt] at e
    unfold lcRun at nb e
    cases ht : t l[n] (wipeR ρ vs) with
    | none => rw [ht] at nb; exact absurd rfl nb
    | some ρ1 =>
      rw [ht] at nb e
      refine ⟨ad', wipeR ρ vs, l[n], ρ1, sg1.fr fr2, rx, ht, fun σ2 sg2 sb => ⟨(wipe_same hv sb).trans (wipe_wipe σ vs), ?_⟩⟩
      refine ⟨ad', ρ1, S', sg2, rs'.ex ex, ?_⟩
      dsimp only at nb e
      cases hc : c ρ1 S' with
      | bad => rw [hc] at nb; exact absurd rfl nb
      | exc x S2 => rw [hc] at nb; exact absurd rfl nb
      | ok b S2 =>
        rw [hc] at nb e
        intro b' H3 ad3 fr3 eb rs3
        subst eb
        have hD3 : H3 D = some (.lst accV) := fr3.keep D _ (ex D _ hD') hn'
        have hn3 : D ∉ ad3 := fun z => by
          have := fr3.new D z hn'
          rw [ex D _ hD'] at this; cases this
        cases b' with
        | false =>
          rw [if_neg Bool.false_ne_true]
          exact ⟨ad3, S2, accV, accD, fr2.trans fr3, rs3, hn3, hD3, Reps.stb (ex.stb.trans fr3.stb) _ rp, Nat.le_succ_of_le hle, e⟩
        | true =>
          rw [if_pos rfl]
          refine ⟨ad3, ρ1, S2, sg2.fr fr3, rs3, ?_⟩
          dsimp only at nb e
          cases hf : f ρ1 S2 with
          | bad => rw [hf] at nb; exact absurd rfl nb
          | exc x S3 => rw [hf] at nb; exact absurd rfl nb
          | ok w S3 =>
            rw [hf] at nb e
            cases w with
            | fn _ _ _ => exact absurd rfl nb
            | own k => exact absurd rfl nb
            | d y =>
              intro yv H4 ad4 fr4 ry rs4
              have hD4 : H4 D = some (.lst accV) := fr4.keep D _ hD3 hn3
              have hn4 : D ∉ ad4 := fun z => by
                have := fr4.new D z hn3
                rw [hD3] at this; cases this
              have st : Stb H4 (upd H4 D (.lst (accV ++ [yv]))) := stb_upd hD4
              refine ⟨accV, hD4, by rw [rp.length]; omega, ad4, S3, accV ++ [yv], accD ++ [y], fr_upd ((fr2.trans fr3).trans fr4) hD hn4 hD4, rs_upd rs4 hn4 hD4, hn4, upd_same, ?_, by simp; omega, e⟩
              exact Reps.append (Reps.stb (((ex.stb.trans fr3.stb).trans fr4.stb).trans st) _ rp) (.cons (Rep.stb st _ ry) .nil)
  · have en : n = l.length := by omega
    subst en
    rw [List.drop_length] at e
    refine .inl ⟨stop, ?_⟩
    rw [← e] at q1
    exact q1 (.ref D) H' ad' fr' ⟨D, accV, rfl, h0, hn', hD', rp⟩ rs'
section
variable {X : Cx} {Wx : WX} {elt tg iter : Expr} {ifs : List Expr} {scope : Scope} {own : List (Str × Nat)} {i : IF} {t : GF} {c : BF} {f : EF} {ix : List Nat} {pos : Pos}
theorem dm_lc (hc : X.calm = true) (hN : X.N.Nodup) (hi : DI X Wx tg iter i) (ok : BlkOk X.N X.env.scope scope own) (hv : ∀ j ∈ ix, j ∈ own.map (·.2))
    (hg : ∀ (s : Shared) (H : Hp) (C : Addr) (cl : List (Str × Addr)) (fp : List Addr), DG (X.blk s H scope (compEnvC scope cl C X.env) fp) ix tg t) (ht : ∀ (s : Shared) (H : Hp) (C : Addr) (cl : List (Str × Addr)) (fp : List Addr), DTs (X.blk s H scope (compEnvC scope cl C X.env) fp) W0 ifs c)
    (he : ∀ (s : Shared) (H : Hp) (C : Addr) (cl : List (Str × Addr)) (fp : List Addr), DE (X.blk s H scope (compEnvC scope cl C X.env) fp) W0 elt f) (hs : ∀ x, foldedSetIterable iter X.env x = pure x := by intro _; rfl) :
    DM X Wx (.ListComp elt [⟨tg, iter, ifs, 0⟩] scope pos) (mLc i t c f (own.map (·.2))) := PE.conv (pe_lc hc hN hi ok hg ht he hs) fun σ H Q q => lc_conv hv q
/-- y = [..], the list locked, or a changing one -/
def sSetM (j : Nat) (m : MF) : SF := fun ρ S => bindS (m ρ S) ρ fun l S1 => .fl (.nx (ρ.set j (some (.own S1.length)))) (S1 ++ [.lst l])
end
end DL

set_option Elab.async false
set_option linter.all false
set_option maxRecDepth 100000
set_option maxHeartbeats 4000000
/-! D5: defs and their calls; names of the module; a comprehension stored; a changing thing changed. -/
namespace DL
open PySem PySem.Spec PyProof.Rows L2

/-! ### a comprehension that is stored on its line -/
theorem ps_freezeAt {X : Cx} {st : Stmt} {t : TS} (h : PS X st t) : PS X st (fun D σ H => t { D with nx := fun σ1 H1 => ∃ a vs, H1 a = some (.lst vs) ∧ ∀ o, D.nx σ1 (upd H1 a (.frz o (.lst vs))) } σ H) := by
  refine ⟨fun pins s σ H D I q => thn (h.run pins s σ H _ I q) fun f s1 z => ?_⟩
  cases f with
  | next =>
    obtain ⟨σ1, H1, I1, a, vs, e, q1⟩ := z
    obtain ⟨o, I2⟩ := DL.freeze I1 e
    exact ⟨σ1, _, I2, q1 o⟩
  | brk => exact z
  | cont => exact z
  | ret u => exact z
theorem made_frz {K : PySem.W.Frag} {ad ad1 : List Addr} {H H1 : Hp} {p : Addr} {vs : List V} {l : List PyData} {S : Sto} {o : Obj} (fr : Fr ad H ad1 H1) (h0 : H p = none) (hp : p ∉ ad1) (e : H1 p = some (.lst vs)) (r : Reps K H1 vs l) (rs : RS K ad1 H1 S) :
    Fr ad H ad1 (upd H1 p (.frz o (.lst vs))) ∧ Rep K (upd H1 p (.frz o (.lst vs))) (.ref p) (.list l) ∧ RS K ad1 (upd H1 p (.frz o (.lst vs))) S :=
  ⟨fr_upd fr h0 hp e, .lst (.inl ⟨o, upd_same⟩) (Reps.stb (stb_upd e) _ r), rs_upd rs hp e⟩
theorem made_own {K : PySem.W.Frag} {ad ad1 : List Addr} {H H1 : Hp} {p : Addr} {vs : List V} {l : List PyData} {S : Sto} (fr : Fr ad H ad1 H1) (h0 : H p = none) (hp : p ∉ ad1) (e : H1 p = some (.lst vs)) (r : Reps K H1 vs l) (rs : RS K ad1 H1 S) :
    Fr ad H (ad1 ++ [p]) H1 ∧ RepW K (ad1 ++ [p]) H1 (.ref p) (.own S.length) ∧ RS K (ad1 ++ [p]) H1 (S ++ [.lst l]) := by
  have hl := rs.len
  refine ⟨⟨?_, fr.keep, fun a ha hn => ?_, fr.stb⟩, ⟨p, ?_, rfl⟩, ⟨?_, ?_, fun (k : Nat) (ob : MO) z => ?_⟩⟩
  · obtain ⟨t, e⟩ := fr.ext
    exact ⟨t ++ [p], by rw [e, List.append_assoc]⟩
  · rcases List.mem_append.mp ha with z | z
    · exact fr.new a z hn
    · have : a = p := by simpa using z
      rw [this]; exact h0
  · rw [← hl]; simp
  · simp [hl]
  · rw [List.nodup_append]
    exact ⟨rs.nd, by simp, fun a ha b hb z => by
      have : b = p := by simpa using hb
      subst z this
      exact hp ha⟩
  · by_cases hk : k < S.length
    · rw [List.getElem?_append_left hk] at z
      obtain ⟨a, z1, z2⟩ := rs.ob k ob z
      exact ⟨a, by rw [List.getElem?_append_left (by rw [hl]; exact hk)]; exact z1, z2⟩
    · rw [List.getElem?_append_right (by omega)] at z
      have hk2 : k - S.length = 0 := by
        by_cases hh : k - S.length = 0
        · exact hh
        · rw [List.getElem?_eq_none (by simp; omega)] at z; cases z
      rw [hk2] at z
      simp at z
      subst z
      refine ⟨p, ?_, vs, e, r⟩
      rw [List.getElem?_append_right (by omega), hl, hk2]; rfl
/-- a changing thing more is told of: the frame stays -/
theorem Fr.left {ad ad1 ad2 : List Addr} {H H1 H2 : Hp} (a : Fr ad H ad1 H1) (b : Fr ad1 H1 ad2 H2) : Fr ad H ad2 H2 := a.trans b
section
variable {X : Cx} {Wx : WX} {elt tg iter : Expr} {ifs : List Expr} {scope : Scope} {own : List (Str × Nat)} {i : IF} {t : GF} {c : BF} {f : EF} {ix : List Nat} {pos spos py : Pos} {y : Str} {j : Nat}
theorem ds_setLc (hc : X.calm = true) (hN : X.N.Nodup) (hy : X.N[j]? = some y) (hyl : X.env.scope.names.lookup y = some .local) (hsw : swapsWith (.ListComp elt [⟨tg, iter, ifs, 0⟩] scope pos) (some (.Name y py)) spos.line X.env = pure true)
    (hi : DI X Wx tg iter i) (ok : BlkOk X.N X.env.scope scope own) (hv : ∀ j ∈ ix, j ∈ own.map (·.2))
    (hg : ∀ (s : Shared) (H : Hp) (C : Addr) (cl : List (Str × Addr)) (fp : List Addr), DG (X.blk s H scope (compEnvC scope cl C X.env) fp) ix tg t) (ht : ∀ (s : Shared) (H : Hp) (C : Addr) (cl : List (Str × Addr)) (fp : List Addr), DTs (X.blk s H scope (compEnvC scope cl C X.env) fp) W0 ifs c)
    (he : ∀ (s : Shared) (H : Hp) (C : Addr) (cl : List (Str × Addr)) (fp : List Addr), DE (X.blk s H scope (compEnvC scope cl C X.env) fp) W0 elt f) (hs : ∀ x, foldedSetIterable iter X.env x = pure x := by intro _; rfl) :
    DS X Wx (.Assign [.Name y py] (.ListComp elt [⟨tg, iter, ifs, 0⟩] scope pos) spos) (sSet j (eFz (mLc i t c f (own.map (·.2))))) := by
  have p : PS X (.Assign [.Name y py] (.ListComp elt [⟨tg, iter, ifs, 0⟩] scope pos) spos) (tAsg (tLc (tDI X.K X.mg Wx i) (tDG X.K ix t) (tDT X.K X.mg W0 c) (tD X.K X.mg W0 f) (own.map (·.2))) (gName j)) := ps_setLc hc hN hy hyl hsw hi ok hg ht he hs
  refine PS.conv (ps_freezeAt p) fun D σ H ⟨ad, ρ, S, sg, rs, q⟩ => ?_
  refine lc_conv (Wx := Wx) hv ⟨ad, ρ, S, sg, rs, ?_⟩
  unfold sSet eFz at q
  revert q
  cases mLc i t c f (own.map (·.2)) ρ S with
  | bad => exact fun z => z
  | exc x S' => exact fun q cls d H' ad' fr xr rs' => q cls d σ H' ad' fr (sg.fr fr) xr rs'
  | ok l S' =>
    rintro q v H1 ad1 fr ⟨p, vs, rfl, h0, hp, e2, r⟩ rs1
    refine ⟨p, vs, e2, fun o => ?_⟩
    obtain ⟨a1, a2, a3⟩ := made_frz (o := o) fr h0 hp e2 r rs1
    exact q _ _ ad1 a1 ((sg.fr a1).set j (w := .d (.list l)) a2) a3
theorem ds_setLcO (hc : X.calm = true) (hN : X.N.Nodup) (hy : X.N[j]? = some y) (hyl : X.env.scope.names.lookup y = some .local) (hsw : swapsWith (.ListComp elt [⟨tg, iter, ifs, 0⟩] scope pos) (some (.Name y py)) spos.line X.env = pure true)
    (hi : DI X Wx tg iter i) (ok : BlkOk X.N X.env.scope scope own) (hv : ∀ j ∈ ix, j ∈ own.map (·.2))
    (hg : ∀ (s : Shared) (H : Hp) (C : Addr) (cl : List (Str × Addr)) (fp : List Addr), DG (X.blk s H scope (compEnvC scope cl C X.env) fp) ix tg t) (ht : ∀ (s : Shared) (H : Hp) (C : Addr) (cl : List (Str × Addr)) (fp : List Addr), DTs (X.blk s H scope (compEnvC scope cl C X.env) fp) W0 ifs c)
    (he : ∀ (s : Shared) (H : Hp) (C : Addr) (cl : List (Str × Addr)) (fp : List Addr), DE (X.blk s H scope (compEnvC scope cl C X.env) fp) W0 elt f) (hs : ∀ x, foldedSetIterable iter X.env x = pure x := by intro _; rfl) :
    DS X Wx (.Assign [.Name y py] (.ListComp elt [⟨tg, iter, ifs, 0⟩] scope pos) spos) (sSet j (eOwn (mLc i t c f (own.map (·.2))))) := by
  have p : PS X (.Assign [.Name y py] (.ListComp elt [⟨tg, iter, ifs, 0⟩] scope pos) spos) (tAsg (tLc (tDI X.K X.mg Wx i) (tDG X.K ix t) (tDT X.K X.mg W0 c) (tD X.K X.mg W0 f) (own.map (·.2))) (gName j)) := ps_setLc hc hN hy hyl hsw hi ok hg ht he hs
  refine PS.conv p fun D σ H ⟨ad, ρ, S, sg, rs, q⟩ => ?_
  refine lc_conv (Wx := Wx) hv ⟨ad, ρ, S, sg, rs, ?_⟩
  unfold sSet eOwn at q
  revert q
  cases mLc i t c f (own.map (·.2)) ρ S with
  | bad => exact fun z => z
  | exc x S' => exact fun q cls d H' ad' fr xr rs' => q cls d σ H' ad' fr (sg.fr fr) xr rs'
  | ok l S' =>
    rintro q v H1 ad1 fr ⟨p, vs, rfl, h0, hp, e2, r⟩ rs1
    obtain ⟨a1, a2, a3⟩ := made_own fr h0 hp e2 r rs1
    exact q _ _ _ a1 ((sg.fr a1).set j a2) a3
end

/-! ### names of the module -/
structure Gv (K : PySem.W.Frag) (mg : Str → Option Value) (x : Str) (d : PyData) : Prop where
  ex : ∃ u v, mg x = some u ∧ RelV v u ∧ ∀ H, Rep K H v d
theorem de_glob {X : Cx} {Wx : WX} {x : Str} {d : PyData} {pos : Pos} (g : Gv X.K X.mg x d) (hg : Gl X x) (hd : (x == ("__debug__" : Str)) = false := by decide) : DE X Wx (.Name x pos) (eC d) := by
  obtain ⟨u, v, hm, r, rp⟩ := g.ex
  exact de_c (pe_glob hg hm r hd) rp

/-! ### defs -/
abbrev FD := List Wv → Sto → Rs Wv
def spD (K : PySem.W.Frag) (mg : Str → Option Value) (n : Nat) (sem : FD) : Sp := fun vs H Q E => vs.length = n ∧ ∃ ad ws S, RepWs K ad H vs ws ∧ RS K ad H S ∧ post K mg (fun cls d _ H' => E cls d H') [] ad H (RepW K) (sem ws S) Q
structure Fn (P : Program) (w : World) (K : PySem.W.Frag) (mg : Str → Option Value) (base : Heap) (k : Nat) (x : Str) (n : Nat) (sem : FD) : Prop where
  ex : ∃ f fd ps, FnOk P w K mg base (L2.CX P w) k f fd ps (spD K mg n sem) ∧ mg x = some (.ref f) ∧ PySem.W.keepIn K (.ref f) = true ∧ Binds K fd ps [] ∧ ps.length = n
def eCall (n : Nat) (sem : FD) (l : LF) : EF := fun ρ S => (l ρ S).bind fun ws S1 => if ws.length = n then sem ws S1 else .bad
theorem Paired.len {α β : Type} {R : α → β → Prop} : ∀ {l : List α} {m : List β}, Paired R l m → l.length = m.length
  | _, _, .nil => rfl
  | _, _, .cons _ t => by simp [Paired.len t]
section
variable {X : Cx} {Wx : WX} {k n : Nat} {x : Str} {sem : FD} {e : Expr} {es : List Expr} {l : LF} {p pos : Pos}
theorem call_conv {σ : L2.St} {H : Hp} {Q : VK} (q : tD X.K X.mg Wx (eCall n sem l) σ H Q) : tCallS (spD X.K X.mg n sem) (WE Wx) (tDA X.K X.mg Wx l) σ H Q := by
  obtain ⟨ad, ρ, S, sg, rs, q⟩ := q
  refine ⟨ad, ρ, S, sg, rs, post_mono (post_bind q) ?_⟩
  rintro vs H1 ⟨ad1, ws, S1, fr1, r1, rs1, q1⟩
  split at q1
  · rename_i hl
    refine ⟨by rw [Paired.len r1]; exact hl, ad1, ws, S1, r1, rs1, ?_⟩
    revert q1
    cases sem ws S1 with
    | bad => exact fun z => z
    | ok w S2 => exact fun z => z
    | exc x S2 => exact fun z => z
  · exact q1.elim
theorem de_call (F : Fn X.prog X.w X.K X.mg X.base k x n sem) (hr : Room k X.A) (tk : Takes X Wx) (hg : Gl X x) (ha : DA X Wx (e :: es) l) (hdb : (x == ("__debug__" : Str)) = false := by decide)
    (he : starEach (e :: es) X.env = (false, eval e X.env) :: starEach es X.env := by rfl) (hpl : (backTo pos (starEach es X.env)).any (·.1) = false := by rfl) : DE X Wx (.Call (.Name x p) (e :: es) [] pos) (eCall n sem l) := by
  obtain ⟨f, fd, ps, F, hm, hk, hb, hn⟩ := F.ex
  exact PE.conv (pe_callS F hr hg hm hk hb (fun σ => passAt tk σ) ha hdb he hpl) fun σ H Q q => call_conv q
theorem de_call0 (F : Fn X.prog X.w X.K X.mg X.base k x n sem) (hr : Room k X.A) (tk : Takes X Wx) (hg : Gl X x) (hdb : (x == ("__debug__" : Str)) = false := by decide) : DE X Wx (.Call (.Name x p) [] [] pos) (eCall n sem lNil) := by
  obtain ⟨f, fd, ps, F, hm, hk, hb, hn⟩ := F.ex
  have h0 : PE X (.Call (.Name x p) [] [] pos) (tCallS (spD X.K X.mg n sem) (WE Wx) tNil) := by
    refine ⟨fun pins s σ H Q I h => ?_⟩
    refine wpAny_Call_Name_kw (ld_glob I hg hm ?_ hdb)
    exact PySem.W.callWith_K0 I.kIn hk (run_fnS (us := []) F hr hb (passAt tk σ) I .nil h)
  refine PE.conv h0 fun σ H Q q => ?_
  have q' := call_conv q
  obtain ⟨ad, ρ, S, sg, rs, q'⟩ := q'
  exact q' [] H ad (Fr.refl _ _) .nil rs
end
def exitW (n : Nat) (w : Wv) (S : Sto) : Rs Wv := match w with
  | .d x => .ok (.d x) (S.take n)
  | .own k => if k < n then .ok (.own k) (S.take n) else match S[k]? with
    | some o => .ok (.own n) (S.take n ++ [o])
    | none => .bad
  | .fn _ _ _ => .bad
def runDef (nn ar : Nat) (body : SF) : FD := fun ws S => match body (ws.map some ++ List.replicate (nn - ar) none) S with
  | .fl (.rt w) S' => exitW S.length w S'
  | .fl (.nx _) S' => exitW S.length (.d .none) S'
  | .exc x _ S' => .exc x (S'.take S.length)
  | _ => .bad
section
variable {K : PySem.W.Frag} {mg : Str → Option Value} {ad ad' : List Addr} {H H' : Hp} {S S' : Sto}
theorem RS.cut (fr : Fr ad H ad' H') (rs : RS K ad H S) (rs' : RS K ad' H' S') : RS K ad H' (S'.take S.length) := by
  obtain ⟨t, e⟩ := fr.ext
  have l1 := rs.len
  have l2 := rs'.len
  rw [e, List.length_append] at l2
  have nd := rs'.nd
  rw [e, List.nodup_append] at nd
  refine ⟨by rw [List.length_take]; omega, nd.1, fun (k : Nat) (o : MO) z => ?_⟩
  have hk : k < S.length := by
    have := (List.getElem?_eq_some_iff.mp z).1
    rw [List.length_take] at this
    omega
  rw [List.getElem?_take_of_lt hk] at z
  obtain ⟨a, e1, e2⟩ := rs'.ob k o z
  rw [e, List.getElem?_append_left (by omega)] at e1
  exact ⟨a, e1, e2⟩
theorem Fr.cut (fr : Fr ad H ad' H') : Fr ad H ad H' := ⟨⟨[], by simp⟩, fr.keep, fun _ h h' => absurd h h', fr.stb⟩
theorem exit_post {Wx : WX} {σ : L2.St} {w : Wv} {v : V} {Q : VK} (rs : RS K ad H S) (fr : Fr ad H ad' H') (rw' : RepW K ad' H' v w) (rs' : RS K ad' H' S') (q : post K mg Wx σ ad H (RepW K) (exitW S.length w S') Q) : Q v H' := by
  cases w with
  | d x => exact q v H' ad fr.cut rw' (rs.cut fr rs')
  | fn _ _ _ => exact q.elim
  | own k =>
    obtain ⟨a, ha, rfl⟩ := rw'
    have hcut := rs.cut fr rs'
    obtain ⟨t, e⟩ := id fr.ext
    dsimp only [exitW] at q
    split at q
    · rename_i hk
      refine q _ H' ad fr.cut ⟨a, ?_, rfl⟩ hcut
      rw [e, List.getElem?_append_left (by rw [rs.len]; exact hk)] at ha
      exact ha
    · rename_i hk
      have hkl : k < S'.length := by rw [← rs'.len]; exact (List.getElem?_eq_some_iff.mp ha).1
      rw [List.getElem?_eq_getElem hkl] at q
      obtain ⟨a', e1, e2⟩ := rs'.ob k S'[k] (by simp [hkl])
      rw [ha] at e1
      cases e1
      have nd := rs'.nd
      rw [e, List.nodup_append] at nd
      have hat : a ∈ t := by
        rw [e, List.getElem?_append_right (by rw [rs.len]; omega)] at ha
        exact List.mem_of_getElem? ha
      have han : a ∉ ad := fun z => nd.2.2 a z a hat rfl
      refine q _ H' (ad ++ [a]) ⟨⟨[a], rfl⟩, fr.keep, fun b hb hn => ?_, fr.stb⟩ ⟨a, ?_, rfl⟩ ⟨?_, ?_, fun (j : Nat) (o : MO) z => ?_⟩
      · rcases List.mem_append.mp hb with z | z
        · exact absurd z hn
        · have : b = a := by simpa using z
          subst this
          exact fr.new b (by rw [e]; exact List.mem_append_right _ hat) hn
      · rw [← rs.len]; simp
      · rw [List.length_append, List.length_append, hcut.len]; rfl
      · rw [List.nodup_append]
        exact ⟨nd.1, by simp, fun b hb c hc z => by
          have : c = a := by simpa using hc
          subst z this
          exact han hb⟩
      · have hcl := hcut.len
        by_cases hj : j < (S'.take S.length).length
        · rw [List.getElem?_append_left hj] at z
          obtain ⟨b, z1, z2⟩ := hcut.ob j o z
          exact ⟨b, by rw [List.getElem?_append_left (by omega)]; exact z1, z2⟩
        · rw [List.getElem?_append_right (by omega)] at z
          have h0 : j - (S'.take S.length).length = 0 := by
            by_cases hh : j - (S'.take S.length).length = 0
            · exact hh
            · rw [List.getElem?_eq_none (by simp only [List.length_singleton]; omega)] at z; cases z
          rw [h0] at z
          simp at z
          subst z
          refine ⟨a, ?_, e2⟩
          rw [List.getElem?_append_right (by omega), hcl, h0]; rfl
theorem sig_start {N ps : List Str} {vs : List V} {ws : List Wv} (r : RepWs K ad H vs ws) (hl : vs.length = ps.length) (hN : ps.length ≤ N.length) : Sig K ad H (L2.start N vs) (ws.map some ++ List.replicate (N.length - ps.length) none) := by
  have hlw := Paired.len r
  refine ⟨?_, fun i w e => ?_⟩
  · unfold L2.start
    simp only [List.length_append, List.length_map, List.length_replicate]
    omega
  · by_cases hi : i < ws.length
    · rw [List.getElem?_append_left (by simpa using hi), List.getElem?_map] at e
      have : ws[i]? = some w := by
        cases q : ws[i]? with
        | none => rw [q] at e; cases e
        | some a => rw [q] at e; cases e; rfl
      have get : ∀ {vs : List V} {ws : List Wv} {i : Nat} {w : Wv}, RepWs K ad H vs ws → ws[i]? = some w → ∃ v, vs[i]? = some v ∧ RepW K ad H v w := by
        intro vs
        induction vs with
        | nil => intro ws i w r e; cases r; simp at e
        | cons v vs ih =>
          intro ws i w r e
          cases r with
          | cons h t =>
            cases i with
            | zero => simp at e; subst e; exact ⟨_, rfl, h⟩
            | succ i =>
              obtain ⟨v', e1, e2⟩ := ih t (by simpa using e)
              exact ⟨v', by simpa using e1, e2⟩
      obtain ⟨v, e1, e2⟩ := get r this
      refine ⟨v, ?_, e2⟩
      unfold L2.start
      rw [List.getElem?_append_left (by simp; omega), List.getElem?_map, e1]
      rfl
    · rw [List.getElem?_append_right (by simpa using hi), List.getElem?_replicate] at e
      split at e <;> cases e
end
section
variable {P : Program} {w : World} {K : PySem.W.Frag} {mg : Str → Option Value} {base : Heap}
/-- a def of the text, by its body -/
theorem Fn.ok' {x qual : Str} {st : Stmt} {f : Addr} {fd : FuncData} {N ps : List Str} {k : Nat} {body : SF} (F : Fun K x qual st f fd) (Sc : FnScope N ps (defScope st))
    (hbody : ∀ (cdv : Value) (A : Around) (outer : List PySem.Env) (s : Shared) (H : Hp) (E : XK), Room k (A.deeper (envOfC qual (defScope st) s.heap.objs.size f cdv)) →
      DSs (cxOf (L2.CX P w) P w K mg base N qual (defScope st) f cdv A outer s H E) (fun cls d _ H => E cls d H) (defBody st) body) :
    FnOk P w K mg base (L2.CX P w) (k + 1) f fd ps (spD K mg ps.length (runDef N.length ps.length body)) := by
  refine F.okX Sc (fun vs H Q E h => h.1) (fun cdv A outer s H vs Q E hr h => ?_)
  obtain ⟨hl, ad, ws, S, r, rs, q⟩ := h
  refine ⟨_, hbody cdv A outer s H E hr, ad, _, S, sig_start r hl (by have := congrArg List.length Sc.pre; rw [List.length_take] at this; omega), rs, ?_⟩
  unfold runDef at q
  revert q
  cases body (ws.map some ++ List.replicate (N.length - ps.length) none) S with
  | bad => exact fun z => z
  | exc x ρ' S' => exact fun q cls d σ' H' ad' fr sg xr rs' => q cls d H' ad fr.cut xr (rs.cut fr rs')
  | fl g S' =>
    cases g with
    | nx ρ' => exact fun q σ' H' ad' fr sg rs' => exit_post rs fr (w := .d .none) .non rs' q
    | rt w => exact fun q v H' ad' fr rv rs' => exit_post rs fr rv rs' q
    | bk ρ' => exact fun q => q.elim
    | ct ρ' => exact fun q => q.elim
theorem Fn.mk' {x qual : Str} {st : Stmt} {f : Addr} {fd : FuncData} {N ps : List Str} {k : Nat} {body : SF} (F : Fun K x qual st f fd) (Sc : FnScope N ps (defScope st)) (hm : mg x = some (.ref f)) (hb : Binds K fd ps [])
    (hbody : ∀ (cdv : Value) (A : Around) (outer : List PySem.Env) (s : Shared) (H : Hp) (E : XK), Room k (A.deeper (envOfC qual (defScope st) s.heap.objs.size f cdv)) →
      DSs (cxOf (L2.CX P w) P w K mg base N qual (defScope st) f cdv A outer s H E) (fun cls d _ H => E cls d H) (defBody st) body) :
    Fn P w K mg base (k + 1) x ps.length (runDef N.length ps.length body) := ⟨⟨f, fd, ps, Fn.ok' F Sc hbody, hm, F.kp, hb, rfl⟩⟩
end
end DL

set_option Elab.async false
set_option linter.all false
set_option maxRecDepth 100000
set_option maxHeartbeats 4000000
/-! D6: zip and enumerate over lists and tuples in any mix; list(zip(..)). -/
namespace PySem
open PySem.W
section
variable {prog : Program} {w : World} {A : Around} {E : Value → Shared → Prop} {s : Shared} {z TI TO T i1 i2 : Addr} {fp1 fp2 : List Addr} {n1 n2 i : Nat} {P1 P2 : Nat → Value → Prop} {St1 St2 : Nat → Heap → Prop} {f : Bool} {oT : Obj}
/-- zip's next while the tuple that it gave out last is held by somebody -/
theorem zipH_next_item {Q : Value → Shared → Prop} (S : ZipSep2 z TI TO i1 i2 fp1 fp2) (D1 : Draws prog w A i1 fp1 n1 P1 St1) (D2 : Draws prog w A i2 fp2 n2 P2 St2)
    (hz : IsZipHeld s.heap z TI TO T f) (hT : s.heap.get? T = some oT) (hTI : IsTupOf2 s.heap TI (.ref i1) (.ref i2)) (st1 : St1 i s.heap) (st2 : St2 i s.heap) (hlt1 : i < n1) (hlt2 : i < n2)
    (hQ : ∀ x1 x2 h' tk, P1 i x1 → P2 i x2 → IsZipHeld h' z TI TO T true → St1 (i + 1) h' → St2 (i + 1) h' → IsTupOf2 h' s.heap.objs.size x1 x2 → h'.objs.size = s.heap.objs.size + 1 →
      (∀ c o, c ≠ z → c ≠ i1 → c ≠ i2 → s.heap.get? c = some o → h'.get? c = some o) → Q (.ref s.heap.objs.size) { s with heap := h', toks := tk }) :
    wpAny (model prog w) A (Builtin.«zip.__next__» ⟨[.ref z], []⟩) (fun fin s' => ∃ v, fin = .done (.ret v) ∧ Q v s') E s := by
  obtain ⟨hp, g, d, tk0, os⟩ := s
  show wpAny _ _ (field (.ref z) 2 >>= _) _ _ _
  refine wpAny_bind (wpAny_field hz rfl (x := .bool false) rfl ?_)
  show wpAny _ _ (field (.ref z) 3 >>= _) _ _ _
  refine wpAny_bind (wpAny_field hz rfl (x := .ref TI) rfl ?_)
  refine wpAny_bind (wpAny_seqItems hTI rfl ?_)
  show wpAny _ _ (Builtin.SmallTypes.ownedTupleIsFree (.ref z) >>= _) _ _ _
  refine wpAny_bind (wpAny_tupleHeld_zip hz hT fun g0 hz0 hs0 => ?_)
  replace hs0 : Heap.SameBut z hp g0 := hs0
  simp only [Bool.false_eq_true, if_false]
  refine wpAny_bind ?_
  rw [← Array.forIn_toList]
  simp only [List.forIn_cons, List.forIn_nil]
  refine wpAny_bind (wpAny_bind (wpAny_holding ?_))
  show wpAny _ _ (Builtin.SmallTypes.nextOf (.ref i1) >>= _) _ _ ⟨g0, g, d, tk0, os⟩
  refine wpAny_bind (D1.item i _ _ _ hlt1 (D1.over st1 hs0 S.zf1) fun x1 p1 tk1 hx1 sn1 hp1 => wpAny_pure ?_)
  replace hp1 : Heap.SameBut i1 g0 p1 := hp1
  refine wpAny_pure ?_
  refine wpAny_bind (wpAny_bind (wpAny_holding ?_))
  show wpAny _ _ (Builtin.SmallTypes.nextOf (.ref i2) >>= _) _ _ ⟨p1, g, d, tk1, os⟩
  refine wpAny_bind (D2.item i _ _ _ hlt2 (D2.over (D2.over st2 hs0 S.zf2) hp1 S.sep1_2) fun x2 p2 tk2 hx2 sn2 hp2 => wpAny_pure ?_)
  replace hp2 : Heap.SameBut i2 p1 p2 := hp2
  refine wpAny_pure (wpAny_pure ?_)
  show wpAny _ _ (newTuple [x1, x2] >>= _) _ _ _
  refine wpAny_bind (wpAny_newTuple ?_)
  have hsz : p2.objs.size = hp.objs.size := by rw [hp2.1, hp1.1, hs0.1]
  have hz3 : IsZipHeld p2 z TI TO T true := hp2.extBut _ _ S.zi2 (hp1.extBut _ _ S.zi1 hz0)
  have hk : ∀ c o, c ≠ z → c ≠ i1 → c ≠ i2 → hp.get? c = some o → p2.get? c = some o := fun c o c1 c2 c3 e => hp2.extBut _ _ c3 (hp1.extBut _ _ c2 (hs0.extBut _ _ c1 e))
  refine wpAny_pure ⟨_, rfl, ?_⟩
  show Q (.ref p2.objs.size) _
  have hpp : IsTupOf2 (p2.push { cls := .type "tuple", data := .seq #[x1, x2] }) p2.objs.size x1 x2 := Heap.get?_push_size _ rfl
  have hz4 : (p2.push { cls := .type "tuple", data := .seq #[x1, x2] }).objs.size = p2.objs.size + 1 := Heap.size_push ..
  rw [hsz] at hpp hz4 ⊢
  exact hQ x1 x2 _ tk2 hx1 hx2 (Heap.get?_push_of_some _ hz3) (D1.frame _ _ _ (D1.over sn1 hp2 S.sep2_1) fun b hb o e => Heap.get?_push_of_some _ e) (D2.frame _ _ _ sn2 fun b hb o e => Heap.get?_push_of_some _ e) hpp hz4
    fun c o c1 c2 c3 e => Heap.get?_push_of_some _ (hk c o c1 c2 c3 e)
theorem zipH_next_end {Q : Fin → Shared → Prop} (S : ZipSep2 z TI TO i1 i2 fp1 fp2) (D1 : Draws prog w A i1 fp1 n1 P1 St1) (D2 : Draws prog w A i2 fp2 n2 P2 St2)
    (hz : IsZipHeld s.heap z TI TO T f) (hT : s.heap.get? T = some oT) (hTI : IsTupOf2 s.heap TI (.ref i1) (.ref i2)) (st1 : St1 i s.heap) (st2 : St2 i s.heap) (hle1 : i ≤ n1) (hle2 : i ≤ n2) (hend : i = n1 ∨ i = n2)
    (hE : ∀ h' tk e, (∀ c o, c ≠ z → c ≠ i1 → c ≠ i2 → s.heap.get? c = some o → h'.get? c = some o) → (∃ o, h'.get? e = some o ∧ o.cls = .type "StopIteration") → E (.ref e) { s with heap := h', toks := tk }) :
    wpAny (model prog w) A (Builtin.«zip.__next__» ⟨[.ref z], []⟩) Q E s := by
  obtain ⟨hp, g, d, tk0, os⟩ := s
  show wpAny _ _ (field (.ref z) 2 >>= _) _ _ _
  refine wpAny_bind (wpAny_field hz rfl (x := .bool false) rfl ?_)
  show wpAny _ _ (field (.ref z) 3 >>= _) _ _ _
  refine wpAny_bind (wpAny_field hz rfl (x := .ref TI) rfl ?_)
  refine wpAny_bind (wpAny_seqItems hTI rfl ?_)
  show wpAny _ _ (Builtin.SmallTypes.ownedTupleIsFree (.ref z) >>= _) _ _ _
  refine wpAny_bind (wpAny_tupleHeld_zip hz hT fun g0 hz0 hs0 => ?_)
  replace hs0 : Heap.SameBut z hp g0 := hs0
  simp only [Bool.false_eq_true, if_false]
  refine wpAny_bind ?_
  rw [← Array.forIn_toList]
  simp only [List.forIn_cons, List.forIn_nil]
  refine wpAny_bind (wpAny_bind (wpAny_holding ?_))
  show wpAny _ _ (Builtin.SmallTypes.nextOf (.ref i1) >>= _) _ _ ⟨g0, g, d, tk0, os⟩
  by_cases hlt1 : i < n1
  · refine wpAny_bind (D1.item i _ _ _ hlt1 (D1.over st1 hs0 S.zf1) fun x1 p1 tk1 hx1 sn1 hp1 => wpAny_pure ?_)
    replace hp1 : Heap.SameBut i1 g0 p1 := hp1
    refine wpAny_pure ?_
    have hi2 : i = n2 := by omega
    refine wpAny_bind (wpAny_bind (wpAny_holding ?_))
    show wpAny _ _ (Builtin.SmallTypes.nextOf (.ref i2) >>= _) _ _ ⟨p1, g, d, tk1, os⟩
    refine wpAny_bind (D2.done ⟨p1, g, d, tk1, os⟩ _ _ (by rw [← hi2]; exact D2.over (D2.over st2 hs0 S.zf2) hp1 S.sep1_2) fun q e hq he => ?_)
    replace hq : Heap.ExtBut i2 p1 q := hq
    exact hE q tk1 e (fun c o cz c1 c2 x => hq _ _ c2 (hp1.extBut _ _ c1 (hs0.extBut _ _ cz x))) he
  · have hi1 : i = n1 := by omega
    refine wpAny_bind (D1.done ⟨g0, g, d, tk0, os⟩ _ _ (by rw [← hi1]; exact D1.over st1 hs0 S.zf1) fun q e hq he => ?_)
    replace hq : Heap.ExtBut i1 g0 q := hq
    exact hE q tk0 e (fun c o cz c1 c2 x => hq _ _ c1 (hs0.extBut _ _ cz x)) he
theorem pyNext_zipH_item {Q : Option Value → Shared → Prop} (S : ZipSep2 z TI TO i1 i2 fp1 fp2) (D1 : Draws prog w A.in1 i1 fp1 n1 P1 St1) (D2 : Draws prog w A.in1 i2 fp2 n2 P2 St2)
    (hz : IsZipHeld s.heap z TI TO T f) (hT : s.heap.get? T = some oT) (hTI : IsTupOf2 s.heap TI (.ref i1) (.ref i2)) (st1 : St1 i s.heap) (st2 : St2 i s.heap) (hlt1 : i < n1) (hlt2 : i < n2)
    (hQ : ∀ x1 x2 h' tk, P1 i x1 → P2 i x2 → IsZipHeld h' z TI TO T true → St1 (i + 1) h' → St2 (i + 1) h' → IsTupOf2 h' s.heap.objs.size x1 x2 → h'.objs.size = s.heap.objs.size + 1 →
      (∀ c o, c ≠ z → c ≠ i1 → c ≠ i2 → s.heap.get? c = some o → h'.get? c = some o) → Q (some (.ref s.heap.objs.size)) { s with heap := h', toks := tk }) :
    wpAny (model prog w) A (pyNext (.ref z)) Q E s := by
  have hTy : s.TypeIs (.ref z) "zip" := ⟨_, hz, rfl⟩
  unfold pyNext
  exact wpAny_bind (wpAny_attempt (wpAny_callSpecial?_slot (name := Str.ofString "__next__") hTy F.slot_zip_next
    (wpAny_call_entry F.slot_zip_next hTy F.entry_zip_next
      (zipH_next_item S D1 D2 hz hT hTI st1 st2 hlt1 hlt2 fun x1 x2 h' tk a0 a1 a2 a3 a4 a5 a6 a7 => wpAny_pure (hQ x1 x2 h' tk a0 a1 a2 a3 a4 a5 a6 a7)) (F.args_zip_next_1 _))))
theorem pyNext_zipH_end {Q : Option Value → Shared → Prop} (S : ZipSep2 z TI TO i1 i2 fp1 fp2) (D1 : Draws prog w A.in1 i1 fp1 n1 P1 St1) (D2 : Draws prog w A.in1 i2 fp2 n2 P2 St2)
    (hz : IsZipHeld s.heap z TI TO T f) (hT : s.heap.get? T = some oT) (hTI : IsTupOf2 s.heap TI (.ref i1) (.ref i2)) (st1 : St1 i s.heap) (st2 : St2 i s.heap) (hle1 : i ≤ n1) (hle2 : i ≤ n2) (hend : i = n1 ∨ i = n2)
    (hQ : ∀ h' tk, (∀ c o, c ≠ z → c ≠ i1 → c ≠ i2 → s.heap.get? c = some o → h'.get? c = some o) → Q none { s with heap := h', toks := tk }) : wpAny (model prog w) A (pyNext (.ref z)) Q E s := by
  have hTy : s.TypeIs (.ref z) "zip" := ⟨_, hz, rfl⟩
  unfold pyNext
  refine wpAny_bind (wpAny_attempt (wpAny_callSpecial?_slot (name := Str.ofString "__next__") hTy F.slot_zip_next
    (wpAny_call_entry F.slot_zip_next hTy F.entry_zip_next (zipH_next_end S D1 D2 hz hT hTI st1 st2 hle1 hle2 hend fun h' tk e hk he => ?_) (F.args_zip_next_1 _))))
  obtain ⟨o, ho, hc⟩ := he
  refine wpAny_bind (wpAny_isInstance (T := "StopIteration") (b := true) ⟨o, ho, hc⟩ isSubtype_stop ?_)
  exact wpAny_pure (hQ _ _ hk)
end
end PySem

namespace DL
open PySem PySem.Spec PyProof.Rows L2

/-! ### lists (false) and tuples (true) that are drawn from -/
def itB (b : Bool) (h : Heap) (it a : Addr) (i : Nat) : Prop := if b = true then h.IsTupleIter it a i else h.IsListIter it a i
def coB (b : Bool) (h : Heap) (a : Addr) (its : Array Value) : Prop := if b = true then h.IsTuple a its else h.IsList a its
def obB (b : Bool) (a : Addr) : Obj := if b = true then { cls := .type "tuple_iterator", data := .fields #[.ref a, .int 0 0] } else { cls := .type "list_iterator", data := .fields #[.ref a, .int 0 0] }
def SqB (b : Bool) (K : PySem.W.Frag) (H : Hp) (a : Addr) (xs : List V) : Prop := if b = true then SqT K H a xs else FzL K H a xs
theorem drB {prog : Program} {w : World} {A : Around} (b : Bool) (hh : A.handled = none) (it a : Addr) (hne : a ≠ it) (its : Array Value) :
    Draws prog w A it [it, a] its.size (fun i v => its[i]? = some v) (fun i h => itB b h it a i ∧ coB b h a its) := by
  cases b with
  | true => exact Draws.tuple hh it a hne its
  | false => exact Draws.list hh it a hne its
theorem beB (b : Bool) (a : Addr) (its : Array Value) : Begins (.ref a) (obB b a) (fun h => coB b h a its) := by
  cases b with
  | true => exact begins_tuple a its
  | false => exact begins_list a its
theorem itB_at {b : Bool} {h h' : Heap} {it a : Addr} {i : Nat} (x : itB b h it a i) (k : ∀ o, h.get? it = some o → h'.get? it = some o) : itB b h' it a i := by
  cases b with
  | true => exact Heap.IsTupleIter.at x fun o e => k o e
  | false => exact Heap.IsListIter.at x fun o e => k o e
theorem itB_obj {b : Bool} {h : Heap} {it a : Addr} {i : Nat} (x : itB b h it a i) : ∃ o, h.get? it = some o ∧ ∀ v, o.data ≠ .cell v := by
  cases b with
  | true =>
    obtain ⟨o, e, _, d⟩ := x
    exact ⟨o, e, fun v z => by rw [d] at z; cases z⟩
  | false =>
    obtain ⟨o, e, _, d⟩ := x
    exact ⟨o, e, fun v z => by rw [d] at z; cases z⟩
theorem itB_new {b : Bool} {h : Heap} {it a : Addr} (e : h.get? it = some (obB b a)) : itB b h it a 0 := by
  cases b with
  | true => exact ⟨_, e, rfl, rfl⟩
  | false => exact ⟨_, e, rfl, rfl⟩
theorem sqB_stb {b : Bool} {K : PySem.W.Frag} {H H' : Hp} {a : Addr} {xs : List V} (s : Stb H H') (h : SqB b K H a xs) : SqB b K H' a xs := by
  cases b with
  | true => exact sqT_stb s h
  | false => exact FzL.stb s h
section
variable {X : Cx} {pins : List (Addr × Obj)} {σ : L2.St} {H : Hp} {s : Shared} {b : Bool} {a : Addr} {xs ys : List V}
theorem seqB (I : Inv X pins σ H s) (h : SqB b X.K H a xs) : ∃ its : List Value, Vals xs its ∧ coB b s.heap a its.toArray ∧ xs.length ≤ sizeLine ∧ a < s.heap.objs.size := by
  cases b with
  | true =>
    obtain ⟨its, r, p, z⟩ := I.tuple h
    obtain ⟨o, e, _⟩ := id p
    exact ⟨its, r, p, z, Heap.lt_size e⟩
  | false =>
    obtain ⟨its, r, p, z⟩ := I.list (FzL.sq h)
    exact ⟨its, r, p.isList, z, p.lt⟩
theorem seqB_inj (I : Inv X pins σ H s) (h : SqB b X.K H a xs) (h' : SqB b X.K H a ys) : xs = ys := by
  cases b with
  | true => exact I.tuple_inj h h'
  | false => exact I.list_inj (FzL.sq h) (FzL.sq h')
end
def kindB : PyData → Option (Bool × List PyData)
  | .list l => some (false, l)
  | .tuple l => some (true, l)
  | _ => none
theorem kind_rep {K : PySem.W.Frag} {H : Hp} {v : V} {d : PyData} {b : Bool} {l : List PyData} (r : Rep K H v d) (e : kindB d = some (b, l)) : ∃ a xs, v = .ref a ∧ SqB b K H a xs ∧ Reps K H xs l := by
  cases r with
  | lst t r => cases e; exact ⟨_, _, rfl, t, r⟩
  | tup t r => cases e; exact ⟨_, _, rfl, t.sq, r⟩
  | _ => cases e

/-! ### zip in a loop -/
def ItzB (K : PySem.W.Frag) (b1 : Bool) (a1 : Addr) (b2 : Bool) (a2 : Addr) : It :=
  ⟨fun i H => ∃ (xs ys : List V) (x y : V), SqB b1 K H a1 xs ∧ SqB b2 K H a2 ys ∧ xs[i]? = some x ∧ ys[i]? = some y,
    fun i H v H' => ∃ T x y, v = .ref T ∧ H T = none ∧ H' = upd H T (.tup [x, y]) ∧ (∀ xs, SqB b1 K H a1 xs → xs[i]? = some x) ∧ ∀ ys, SqB b2 K H a2 ys → ys[i]? = some y,
    fun i H => ∃ xs ys : List V, SqB b1 K H a1 xs ∧ SqB b2 K H a2 ys ∧ i ≤ xs.length ∧ i ≤ ys.length ∧ (xs.length = i ∨ ys.length = i)⟩
/-- the cells lie apart, told without what is drawn from -/
structure Ap (z TI TO i1 i2 : Addr) (N : Nat) : Prop where
  S : ∀ a1 a2 : Addr, a1 < N → a2 < N → ZipSep2 z TI TO i1 i2 [i1, a1] [i2, a2]
  ge : ∀ c ∈ [z, TI, TO, i1, i2], N ≤ c
theorem ap_new (N : Nat) : Ap (N + 4) (N + 2) (N + 3) N (N + 1) N :=
  ⟨fun a1 a2 h1 h2 => zip_sep2 (fun b hb => by have : b = a1 := by simpa using hb
                                               rw [this]; exact h1) (fun b hb => by have : b = a2 := by simpa using hb
                                                                                    rw [this]; exact h2), fun c hc => by
    have e' : c = N + 4 ∨ c = N + 2 ∨ c = N + 3 ∨ c = N ∨ c = N + 1 := by simpa using hc
    rcases e' with z | z | z | z | z <;> rw [z] <;> first | exact Nat.le_add_right _ _ | exact Nat.le_refl _⟩
theorem turn_zipB {P : Program} {w : World} {K : PySem.W.Frag} {elts : List Expr} {kk : Nat} {tpos : Pos} {b1 b2 : Bool} {a1 a2 z TI TO i1 i2 : Addr} {N : Nat} (D : Ap z TI TO i1 i2 N) (l1 : a1 < N) (l2 : a2 < N) :
    Turn P w K (.Tuple elts kk tpos) (ItzB K b1 a1 b2 a2) [z, TI, TO, i1, i2] z (fun i h => IsZip h z TI TO .none ∧ IsTupOf2 h TI (.ref i1) (.ref i2) ∧ (∃ x y, IsTupOf2 h TO x y) ∧ itB b1 h i1 a1 i ∧ itB b2 h i2 a2 i) where
  mem := by simp
  obj := fun i h st c hc => by
    obtain ⟨hz, hTI, ⟨x, y, hTO⟩, h1, h2⟩ := st
    have e' : c = z ∨ c = TI ∨ c = TO ∨ c = i1 ∨ c = i2 := by simpa using hc
    rcases e' with q | q | q | q | q
    · rw [q]; exact ⟨_, hz, fun v q => nomatch q⟩
    · rw [q]; exact ⟨_, hTI, fun v q => nomatch q⟩
    · rw [q]; exact ⟨_, hTO, fun v q => nomatch q⟩
    · rw [q]; exact itB_obj h1
    · rw [q]; exact itB_obj h2
  keep := fun i h h' st k => by
    obtain ⟨hz, hTI, ⟨x, y, hTO⟩, h1, h2⟩ := st
    exact ⟨k z (by simp) _ hz, k TI (by simp) _ hTI, ⟨x, y, k TO (by simp) _ hTO⟩, itB_at h1 fun o q => k i1 (by simp) o q, itB_at h2 fun o q => k i2 (by simp) o q⟩
  item := by
    intro X hP hw hK hc i pins s σ H E I hf st hg
    subst hP hw hK
    obtain ⟨hz, hTI, ⟨x0, y0, hTO⟩, h1, h2⟩ := st
    obtain ⟨xs, ys, x, y, hqx, hqy, hx, hy⟩ := hg
    obtain ⟨its, rv, p, _, g1⟩ := seqB I hqx
    obtain ⟨its2, rv2, p2, _, g2⟩ := seqB I hqy
    have S := D.S a1 a2 l1 l2
    have m1 := S.mem1
    have n1 : a1 ≠ i1 := Nat.ne_of_lt (Nat.lt_of_lt_of_le l1 (D.ge i1 (by simp)))
    have n2 : a2 ≠ i2 := Nat.ne_of_lt (Nat.lt_of_lt_of_le l2 (D.ge i2 (by simp)))
    have hlx := (List.getElem?_eq_some_iff.mp hx).1
    have hly := (List.getElem?_eq_some_iff.mp hy).1
    have e1 := rv.length
    have e2 := rv2.length
    have hzl : z < s.heap.objs.size := Heap.lt_size hz
    have hcell : ∀ c ∈ [z, TI, TO, i1, i2], c < s.heap.objs.size := fun c hcm => by
      have e' : c = z ∨ c = TI ∨ c = TO ∨ c = i1 ∨ c = i2 := by simpa using hcm
      rcases e' with q | q | q | q | q
      · rw [q]; exact hzl
      · rw [q]; exact Heap.lt_size hTI
      · rw [q]; exact Heap.lt_size hTO
      · rw [q]; obtain ⟨_, e1, _⟩ := itB_obj h1; exact Heap.lt_size e1
      · rw [q]; obtain ⟨_, e2, _⟩ := itB_obj h2; exact Heap.lt_size e2
    refine wpAny_pyNext_zipD2_item S (drB b1 (show X.A.in1.handled = none from I.ok.hd hc) i1 a1 n1 its.toArray) (drB b2 (show X.A.in1.handled = none from I.ok.hd hc) i2 a2 n2 its2.toArray) hz hTI hTO ⟨h1, p⟩ ⟨h2, p2⟩ (by simp; omega) (by simp; omega)
      fun u u2 h' tk hu hu2 z' TO' st1' st2' hT hsz hk => ?_
    obtain ⟨v1, hv1, ru⟩ := rv.get hx
    obtain ⟨v2, hv2, ru2⟩ := rv2.get hy
    have eu : u = v1 := by simpa [hv1] using hu.symm
    have eu2 : u2 = v2 := by simpa [hv2] using hu2.symm
    subst eu eu2
    refine ⟨_, rfl, wpAny_letOwnedTupleGo_zip (s := { s with heap := h', toks := tk }) z' fun h'' z'' sb => ?_⟩
    have hT2 : h''.get? s.heap.objs.size = some { cls := .type "tuple", data := .seq #[u, u2] } := (sb.2 _ (Nat.ne_of_gt hzl)).trans hT
    have new : ObjOk X.prog X.w (upd H s.heap.objs.size (.tup [x, y])) h'' s.heap.objs.size (.tup [x, y]) :=
      ⟨by show 2 ≤ sizeLine; decide, [u, u2], .cons ru (.cons ru2 .nil), ⟨_, hT2, rfl, _, rfl⟩⟩
    have I1 : Inv X pins σ (upd H s.heap.objs.size (.tup [x, y])) { s with heap := h'', toks := tk } :=
      I.turnedNew (t' := tk) (ch := [z, TI, TO, i1, i2]) (fun c o hb q => (sb.2 c (fun q' => hb (by simp [q']))).trans (hk c o (fun q' => hb (by simp [q'])) (fun q' => hb (by simp [q'])) (fun q' => hb (by simp [q'])) (fun q' => hb (by simp [q'])) q)) hf (Nat.le_refl _) new
    refine ⟨.ref s.heap.objs.size, _, I1, rfl, ⟨_, x, y, rfl, I.hok.fresh (Nat.le_refl _), rfl, fun l hl => by rw [seqB_inj I hl hqx]; exact hx, fun l hl => by rw [seqB_inj I hl hqy]; exact hy⟩, ⟨z'', ?_, ⟨u, u2, ?_⟩, ?_, ?_⟩, fun c hcm => ?_⟩
    · exact (sb.2 _ S.TIz).trans (hk _ _ S.TIz S.TITO S.TIi1 S.TIi2 hTI)
    · exact (sb.2 _ S.TOz).trans TO'
    · exact itB_at st1'.1 fun o q => (sb.2 _ (Ne.symm S.zi1)).trans q
    · exact itB_at st2'.1 fun o q => (sb.2 _ (Ne.symm S.zi2)).trans q
    · rw [upd_ne (Nat.ne_of_lt (hcell c hcm))]
      exact (hf c hcm).1
  done := by
    intro X hP hw hK hc i pins s σ H E I hf st hg
    subst hP hw hK
    obtain ⟨hz, hTI, ⟨x0, y0, hTO⟩, h1, h2⟩ := st
    obtain ⟨xs, ys, hqx, hqy, hi1, hi2, hend⟩ := hg
    obtain ⟨its, rv, p, _, g1⟩ := seqB I hqx
    obtain ⟨its2, rv2, p2, _, g2⟩ := seqB I hqy
    have S := D.S a1 a2 l1 l2
    have n1 : a1 ≠ i1 := Nat.ne_of_lt (Nat.lt_of_lt_of_le l1 (D.ge i1 (by simp)))
    have n2 : a2 ≠ i2 := Nat.ne_of_lt (Nat.lt_of_lt_of_le l2 (D.ge i2 (by simp)))
    have e1 := rv.length
    have e2 := rv2.length
    exact wpAny_pyNext_zipD2_end S (drB b1 (show X.A.in1.handled = none from I.ok.hd hc) i1 a1 n1 its.toArray) (drB b2 (show X.A.in1.handled = none from I.ok.hd hc) i2 a2 n2 its2.toArray) hz hTI hTO ⟨h1, p⟩ ⟨h2, p2⟩ (by simp; omega) (by simp; omega) (by simp; omega)
      fun h' tk hk => ⟨rfl, I.turnedL (t' := tk) (ch := [z, TI, TO, i1, i2]) (fun c o hb q => hk c o (fun q' => hb (by simp [q'])) (fun q' => hb (by simp [q'])) (fun q' => hb (by simp [q'])) (fun q' => hb (by simp [q'])) q) hf⟩
  self := fun A i s Q E st h => wpAny_pyIter_zip st.1 h
def zipD (l m : List PyData) : List PyData := (l.zip m).map fun p => .tuple [p.1, p.2]
theorem walk_zip {K : PySem.W.Frag} {H : Hp} {b1 b2 : Bool} {a1 a2 : Addr} {xs ys : List V} {l m : List PyData} (h1 : SqB b1 K H a1 xs) (r1 : Reps K H xs l) (h2 : SqB b2 K H a2 ys) (r2 : Reps K H ys m) (hz : xs.length ≤ sizeLine) : Walk K (ItzB K b1 a1 b2 a2) H (zipD l m) := by
  have hl : (zipD l m).length = min l.length m.length := by simp [zipD]
  have e1 := r1.length
  have e2 := r2.length
  refine ⟨by rw [hl]; omega, fun H' st => ⟨⟨xs, ys, sqB_stb st h1, sqB_stb st h2, by omega, by omega, by omega⟩, fun i d e => ?_⟩⟩
  unfold zipD at e
  rw [List.getElem?_map] at e
  cases q : (l.zip m)[i]? with
  | none => rw [q] at e; cases e
  | some p =>
    rw [q] at e
    cases e
    obtain ⟨p1, p2⟩ := List.getElem?_zip_eq_some.mp q
    obtain ⟨v1, g1, rv1⟩ := (Reps.stb st _ r1).get p1
    obtain ⟨v2, g2, rv2⟩ := (Reps.stb st _ r2).get p2
    refine ⟨⟨xs, ys, v1, v2, sqB_stb st h1, sqB_stb st h2, g1, g2⟩, ?_⟩
    rintro x H'' ⟨T, x1, y1, rfl, hT, rfl, q1, q2⟩
    have := q1 xs (sqB_stb st h1)
    rw [g1] at this; cases this
    have := q2 ys (sqB_stb st h2)
    rw [g2] at this; cases this
    have ex : Ex H' (upd H' T (.tup [v1, v2])) := Ex.new hT
    exact ⟨ex, .tup (.inl upd_same) (.cons (Rep.stb ex.stb _ rv1) (.cons (Rep.stb ex.stb _ rv2) .nil))⟩
end DL

set_option Elab.async false
set_option linter.all false
set_option maxRecDepth 100000
set_option maxHeartbeats 4000000
/-! D7: for .. in zip, enumerate; list(zip(..)). -/
namespace PySem
set_option maxHeartbeats 1000000 in
theorem meets_enumerate_new1 {v : Value} {o : Obj} {H : Heap → Prop} (B : Begins v o H) :
    Meets (Builtin.«enumerate.__new__» ⟨[.type "enumerate", v], []⟩) (fun _ R s => H s.heap ∧
      R (.ok (.ret (.ref (s.heap.push o).objs.size))) { s with heap := (s.heap.push o).push { cls := .type "enumerate", data := .fields #[.none, .bool false, .ref s.heap.objs.size, rawInt 0, .none, .none] } }) :=
  .of_wp fun prog w A R s h => by
    obtain ⟨hp, g, d, tk, os⟩ := s; obtain ⟨h1, h⟩ := h
    have hsub := sub_enumerate
    have q1 : ∀ {A' : Around} {E : Value → Shared → Prop} {Q : Value → Shared → Prop}, Q (.ref hp.objs.size) ⟨hp.push o, g, d, tk, os⟩ → wpAny (model prog w) A' (pyIter v) Q E ⟨hp, g, d, tk, os⟩ :=
      fun q => B.iter prog w _ _ ⟨hp, g, d, tk, os⟩ _ h1 q
    wp_walk using q1
    refine wpAny_stack_any fun st => wpAny_pure ?_
    split
    · rename_i c _ _ _ _ _
      cases (c == Value.type "enumerate")
      · wp_walk using q1
        exact ⟨_, rfl, h⟩
      · wp_walk using q1
        exact ⟨_, rfl, h⟩
    · wp_walk using q1
      exact ⟨_, rfl, h⟩
section
variable {prog : Program} {w : World} {A : Around} {E : Value → Shared → Prop} {s : Shared}
theorem enum_begins1 {v : Value} {o : Obj} {H : Heap → Prop} {Q : Value → Shared → Prop} (B : Begins v o H) (h1 : H s.heap)
    (h : ∀ h', IsEnum h' (s.heap.objs.size + 1) s.heap.objs.size 0 .none → h'.get? s.heap.objs.size = some o → h'.objs.size = s.heap.objs.size + 2 →
      (∀ b o, s.heap.get? b = some o → h'.get? b = some o) → Q (.ref (s.heap.objs.size + 1)) { s with heap := h' }) :
    wpAny (model prog w) A (call (.type "enumerate") [v]) Q E s := by
  refine callType_new F.called_enumerate (by decide) (F.typeCall_enumerate_1 _) (F.newCall_enumerate_1 _) (fun obj => F.args_object_init_2 obj _) F.entry_enumerate_new
    (meets_enumerate_new1 B) ⟨h1, ?_⟩
  have hz : (s.heap.push o).objs.size = s.heap.objs.size + 1 := Heap.size_push ..
  show _ ∧ _
  rw [hz]
  have he : IsEnum ((s.heap.push o).push { cls := .type "enumerate", data := .fields #[.none, .bool false, .ref s.heap.objs.size, rawInt 0, .none, .none] }) (s.heap.objs.size + 1) s.heap.objs.size 0 .none := by
    have := Heap.get?_push_size (s.heap.push o) (o := { cls := .type "enumerate", data := .fields #[.none, .bool false, .ref s.heap.objs.size, rawInt 0, .none, .none] }) rfl
    rw [hz] at this; exact this
  refine ⟨⟨_, he, rfl⟩, h _ he (Heap.get?_push_of_some _ (Heap.get?_push_size _ B.free)) (by rw [Heap.size_push, hz]) fun b o x => Heap.get?_push_of_some _ (Heap.get?_push_of_some _ x)⟩
end
theorem zip_no_len : typeLookup (.type "zip") "__len__" = pure none := am_miss_of_fast (by decide +kernel)
theorem zip_no_hint : typeLookup (.type "zip") "__length_hint__" = pure none := am_miss_of_fast (by decide +kernel)
end PySem
namespace DL
open PySem PySem.Spec PyProof.Rows L2

/-! ### enumerate in a loop -/
def IteB (K : PySem.W.Frag) (b : Bool) (a : Addr) (k : Int) : It :=
  ⟨fun i H => ∃ (xs : List V) (x : V), SqB b K H a xs ∧ xs[i]? = some x, fun i H v H' => ∃ T x, v = .ref T ∧ H T = none ∧ H' = upd H T (.tup [.int (k + (i : Nat)), x]) ∧ ∀ xs, SqB b K H a xs → xs[i]? = some x,
    fun i H => ∃ xs : List V, SqB b K H a xs ∧ xs.length = i⟩
theorem turn_enumB {P : Program} {w : World} {K : PySem.W.Frag} {elts : List Expr} {kk : Nat} {tpos : Pos} {b : Bool} {a e it : Addr} {k0 : Int} {N : Nat} (la : a < N) (he0 : N ≤ e) (hi0 : N ≤ it) (hne : e ≠ it) :
    Turn P w K (.Tuple elts kk tpos) (IteB K b a k0) [e, it] e (fun i h => (∃ old, IsEnum h e it (k0 + (i : Int)) old) ∧ itB b h it a i) where
  mem := by simp
  obj := fun i h st c hc => by
    obtain ⟨⟨old, he⟩, hi⟩ := st
    have e' : c = e ∨ c = it := by simpa using hc
    rcases e' with z | z
    · rw [z]; exact ⟨_, he, fun v q => nomatch q⟩
    · rw [z]; exact itB_obj hi
  keep := fun i h h' st k => let ⟨⟨old, he⟩, hi⟩ := st; ⟨⟨old, k e (by simp) _ he⟩, itB_at hi fun o q => k it (by simp) o q⟩
  item := by
    intro X hP hw hK hc i pins s σ H E I hf st hg
    subst hP hw hK
    obtain ⟨⟨old, he⟩, hit⟩ := st
    obtain ⟨xs, x, hq, hx⟩ := hg
    obtain ⟨its, rv, p, _, g1⟩ := seqB I hq
    have na : a ≠ it := Nat.ne_of_lt (Nat.lt_of_lt_of_le la hi0)
    have nae : a ≠ e := Nat.ne_of_lt (Nat.lt_of_lt_of_le la he0)
    have hlx := (List.getElem?_eq_some_iff.mp hx).1
    have e1 := rv.length
    have hel : e < s.heap.objs.size := Heap.lt_size he
    have hil : it < s.heap.objs.size := by obtain ⟨_, q, _⟩ := itB_obj hit; exact Heap.lt_size q
    refine wpAny_pyNext_enum_itemC (drB b (show X.A.in1.handled = none from I.ok.hd hc) it a na its.toArray) he ⟨hit, p⟩ (by simp; omega) hne (by simp; exact ⟨hne, Ne.symm nae⟩) fun u h' tk hu ho st' hT hsz hk => ?_
    obtain ⟨v1, hv1, ru⟩ := rv.get hx
    have eu : u = v1 := by simpa [hv1] using hu.symm
    subst eu
    refine ⟨_, rfl, wpAny_letOwnedTupleGo_enum (s := { s with heap := h', toks := tk + 1 }) ho fun h'' he' sb => ?_⟩
    have hT2 : h''.get? s.heap.objs.size = some { cls := .type "tuple", data := .seq #[.int (k0 + (i : Int)) tk, u] } := (sb.2 _ (Nat.ne_of_gt hel)).trans hT
    have new : ObjOk X.prog X.w (upd H s.heap.objs.size (.tup [.int (k0 + (i : Nat)), x])) h'' s.heap.objs.size (.tup [.int (k0 + (i : Nat)), x]) :=
      ⟨by show 2 ≤ sizeLine; decide, [.int (k0 + (i : Int)) tk, u], .cons ⟨_, rfl⟩ (.cons ru .nil), ⟨_, hT2, rfl, _, rfl⟩⟩
    have I1 : Inv X pins σ (upd H s.heap.objs.size (.tup [.int (k0 + (i : Nat)), x])) { s with heap := h'', toks := tk + 1 } :=
      I.turnedNew (ch := [e, it]) (fun b ob hb q => (sb.2 b (fun z => hb (by simp [z]))).trans (hk b ob (fun z => hb (by simp [z])) (fun z => hb (by simp [z])) q)) hf (Nat.le_refl _) new
    refine ⟨.ref s.heap.objs.size, _, I1, rfl, ⟨_, x, rfl, I.hok.fresh (Nat.le_refl _), rfl, fun ys hy => by rw [seqB_inj I hy hq]; exact hx⟩, ⟨⟨u, ?_⟩, itB_at st'.1 fun o q => (sb.2 it (Ne.symm hne)).trans q⟩, fun c hcm => ?_⟩
    · have e1 : k0 + ((i + 1 : Nat) : Int) = k0 + (i : Int) + 1 := by omega
      rw [e1]; exact he'
    · have hb' : c < s.heap.objs.size := by
        have e' : c = e ∨ c = it := by simpa using hcm
        rcases e' with z | z
        · rw [z]; exact hel
        · rw [z]; exact hil
      rw [upd_ne (Nat.ne_of_lt hb')]
      exact (hf c hcm).1
  done := by
    intro X hP hw hK hc i pins s σ H E I hf st hg
    subst hP hw hK
    obtain ⟨⟨old, he⟩, hit⟩ := st
    obtain ⟨xs, hq, hx⟩ := hg
    obtain ⟨its, rv, p, _, g1⟩ := seqB I hq
    have na : a ≠ it := Nat.ne_of_lt (Nat.lt_of_lt_of_le la hi0)
    obtain ⟨f0, f1, f2, f3, f4, f5⟩ := hf it (by simp)
    have e1 := rv.length
    have en : i = its.toArray.size := by simp; omega
    subst en
    exact wpAny_pyNext_enum_endD (drB b (show X.A.in1.handled = none from I.ok.hd hc) it a na its.toArray) he ⟨hit, p⟩ fun h' eb => ⟨rfl, I.turned (t' := s.toks) (fun b o hb q => eb b o hb q) f0 f1 f3 f4 f5⟩
  self := fun A i s Q E st h => let ⟨⟨_, he⟩, _⟩ := st; wpAny_pyIter_enum he h
def enumD (k : Int) (l : List PyData) : List PyData := l.zipIdx.map fun p => .tuple [.int (k + (p.2 : Nat)), p.1]
theorem walk_enum {K : PySem.W.Frag} {H : Hp} {b : Bool} {a : Addr} {xs : List V} {l : List PyData} {k : Int} (h1 : SqB b K H a xs) (r1 : Reps K H xs l) (hz : xs.length ≤ sizeLine) : Walk K (IteB K b a k) H (enumD k l) := by
  have hl : (enumD k l).length = l.length := by simp [enumD]
  have e1 := r1.length
  refine ⟨by rw [hl]; omega, fun H' st => ⟨⟨xs, sqB_stb st h1, by omega⟩, fun i d e => ?_⟩⟩
  unfold enumD at e
  rw [List.getElem?_map, List.getElem?_zipIdx] at e
  cases q : l[i]? with
  | none => rw [q] at e; cases e
  | some p =>
    rw [q] at e
    cases e
    obtain ⟨v1, g1, rv1⟩ := (Reps.stb st _ r1).get q
    refine ⟨⟨xs, v1, sqB_stb st h1, g1⟩, ?_⟩
    rintro x H'' ⟨T, x1, rfl, hT, rfl, q1⟩
    have := q1 xs (sqB_stb st h1)
    rw [g1] at this; cases this
    have ex : Ex H' (upd H' T (.tup [.int (k + (i : Nat)), v1])) := Ex.new hT
    refine ⟨ex, .tup (.inl upd_same) (.cons ?_ (.cons (Rep.stb ex.stb _ rv1) .nil))⟩
    simp only [Nat.zero_add]
    exact .int _
def iZip (f : LF) : IF := fun ρ S => (f ρ S).bind fun ws S1 => match ws with
  | [.d x, .d y] => match kindB x with
    | some (_, l) => match kindB y with
      | some (_, m) => .ok (zipD l m) S1
      | none => .bad
    | none => .bad
  | _ => .bad
def iEnum1 (f : LF) : IF := fun ρ S => (f ρ S).bind fun ws S1 => match ws with
  | [.d x] => match kindB x with
    | some (_, l) => .ok (enumD 0 l) S1
    | none => .bad
  | _ => .bad
def startOk (k : Int) : Bool := decide (-(2 ^ 63) ≤ k ∧ k < 2 ^ 63)
def iEnum2 (f : LF) : IF := fun ρ S => (f ρ S).bind fun ws S1 => match ws with
  | [.d x, .d (.int k)] => match kindB x with
    | some (_, l) => if startOk k then .ok (enumD k l) S1 else .bad
    | none => .bad
  | _ => .bad
section
variable {X : Cx} {Wx : WX} {e e2 : Expr} {l : LF} {p pos tpos : Pos} {elts : List Expr} {kk : Nat}
theorem di_zip (hg : Gl X "zip") (hm : X.mg "zip" = none) (ha : DA X Wx [e, e2] l) (hs : starEach [e, e2] X.env = (false, eval e X.env) :: starEach [e2] X.env := by rfl) (hpl : (backTo pos (starEach [e2] X.env)).any (·.1) = false := by rfl) :
    DI X Wx (.Tuple elts kk tpos) (.Call (.Name "zip" p) [e, e2] [] pos) (iZip l) := by
  refine ⟨fun pins s σ H R I ⟨ad, ρ, S, sg, rs, q⟩ => ?_⟩
  refine Call_ (ld_blt I hg hm PyProof.Rows.boot_zip (PyProof.Rows.callWith_type1 (thn (ha.run pos pins s σ H (fun vs H1 => ∃ x y dx dy b1 b2 l1 l2, vs = [x, y] ∧ Rep X.K H1 x dx ∧ Rep X.K H1 y dy ∧ kindB dx = some (b1, l1) ∧ kindB dy = some (b2, l2) ∧ ∀ J, Walk X.K J H1 (zipD l1 l2) → R J H1) I ⟨ad, ρ, S, sg, rs, post_mono (post_bind q) ?_⟩) fun us s1 ⟨vs, H1, I1, r1, q1⟩ => ?_) hs hpl))
  · rintro vs H1 ⟨ad1, ws, S1, fr1, r1, rs1, q1⟩
    split at q1
    · rename_i x y
      cases hx : kindB x with
      | none => rw [hx] at q1; exact q1.elim
      | some bl =>
        rw [hx] at q1
        cases hy : kindB y with
        | none => rw [hy] at q1; exact q1.elim
        | some bm =>
          rw [hy] at q1
          cases r1 with
          | cons ra rr =>
            cases rr with
            | cons rb rr =>
              cases rr
              exact ⟨_, _, x, y, bl.1, bm.1, bl.2, bm.2, rfl, ra, rb, hx, hy, fun J w => q1 J H1 ad1 (Fr.refl _ _) w rs1⟩
    · exact q1.elim
  · obtain ⟨x, y, dx, dy, b1, b2, l1, l2, rfl, rx, ry, kx, ky, q⟩ := q1
    obtain ⟨a1, xs, rfl, sx, rpx⟩ := kind_rep rx kx
    obtain ⟨a2, ys, rfl, sy, rpy⟩ := kind_rep ry ky
    cases r1 with
    | cons r rr =>
      cases rr with
      | cons r' rr =>
        cases rr
        cases r
        cases r'
        obtain ⟨its, rv, p1, z1, g1⟩ := seqB I1 sx
        obtain ⟨its2, rv2, p2, z2, g2⟩ := seqB I1 sy
        refine zip_begins2 (beB b1 a1 its.toArray) (beB b2 a2 its2.toArray) p1 p2 fun h' hz hTI hTO h1 h2 hsz hk => wpAny_pyIter_zip hz ?_
        have I2 : Inv X pins σ H1 { s1 with heap := h' } := I1.kept (t' := s1.toks) hk
        refine ⟨s1.heap.objs.size + 4, [s1.heap.objs.size + 4, s1.heap.objs.size + 2, s1.heap.objs.size + 3, s1.heap.objs.size, s1.heap.objs.size + 1], _, _, H1, rfl, I2, turn_zipB (b1 := b1) (b2 := b2) (a1 := a1) (a2 := a2) (ap_new s1.heap.objs.size) g1 g2,
          ⟨hz, hTI, ⟨_, _, hTO⟩, itB_new h1, itB_new h2⟩, fun c hcm => ?_, q _ (walk_zip sx rpx sy rpy z1)⟩
        have hle := (ap_new s1.heap.objs.size).ge c hcm
        exact I1.fpOk hle (I1.hok.fresh hle)
theorem enum_fin {tg : Expr} {pins : List (Addr × Obj)} {σ : L2.St} {H1 : Hp} {s1 : Shared} {R : It → Hp → Prop} {E : Value → Shared → Prop} {b : Bool} {a : Addr} {xs : List V} {k : Int} {h' : Heap} (I1 : Inv X pins σ H1 s1) (g1 : a < s1.heap.objs.size)
    (he : IsEnum h' (s1.heap.objs.size + 1) s1.heap.objs.size k .none) (hi : h'.get? s1.heap.objs.size = some (obB b a)) (hk : ∀ b o, s1.heap.get? b = some o → h'.get? b = some o) (q : R (IteB X.K b a k) H1) :
    wpAny (model X.prog X.w) X.A (pyIter (.ref (s1.heap.objs.size + 1))) (PIE X pins σ (.Tuple elts kk tpos) R) E { s1 with heap := h' } := by
  refine wpAny_pyIter_enum he ?_
  have I2 : Inv X pins σ H1 { s1 with heap := h' } := I1.kept (t' := s1.toks) hk
  refine ⟨s1.heap.objs.size + 1, [s1.heap.objs.size + 1, s1.heap.objs.size], _, _, H1, rfl, I2, turn_enumB (b := b) (k0 := k) g1 (Nat.le_succ _) (Nat.le_refl _) (Nat.succ_ne_self _), ⟨⟨.none, by simpa using he⟩, itB_new hi⟩, fun c hcm => ?_, q⟩
  have e' : c = s1.heap.objs.size + 1 ∨ c = s1.heap.objs.size := by simpa using hcm
  have hle : s1.heap.objs.size ≤ c := by
    rcases e' with z | z
    · rw [z]; exact Nat.le_add_right _ _
    · rw [z]; exact Nat.le_refl _
  exact I1.fpOk hle (I1.hok.fresh hle)
theorem di_enum (hg : Gl X "enumerate") (hm : X.mg "enumerate" = none) (ha : DA X Wx [e] l) (hs : starEach [e] X.env = [(false, eval e X.env)] := by rfl) :
    DI X Wx (.Tuple elts kk tpos) (.Call (.Name "enumerate" p) [e] [] pos) (iEnum1 l) := by
  refine ⟨fun pins s σ H R I ⟨ad, ρ, S, sg, rs, q⟩ => ?_⟩
  refine Call_ (ld_blt I hg hm boot_enumerate (PyProof.Rows.callWith_type1 (thn (ha.run pos pins s σ H (fun vs H1 => ∃ x dx b1 l1, vs = [x] ∧ Rep X.K H1 x dx ∧ kindB dx = some (b1, l1) ∧ ∀ J, Walk X.K J H1 (enumD 0 l1) → R J H1) I ⟨ad, ρ, S, sg, rs, post_mono (post_bind q) ?_⟩) fun us s1 ⟨vs, H1, I1, r1, q1⟩ => ?_) hs rfl))
  · rintro vs H1 ⟨ad1, ws, S1, fr1, r1, rs1, q1⟩
    split at q1
    · rename_i x
      cases hx : kindB x with
      | none => rw [hx] at q1; exact q1.elim
      | some bl =>
        rw [hx] at q1
        cases r1 with
        | cons ra rr =>
          cases rr
          exact ⟨_, x, bl.1, bl.2, rfl, ra, hx, fun J w => q1 J H1 ad1 (Fr.refl _ _) w rs1⟩
    · exact q1.elim
  · obtain ⟨x, dx, b1, l1, rfl, rx, kx, q⟩ := q1
    obtain ⟨a1, xs, rfl, sx, rpx⟩ := kind_rep rx kx
    cases r1 with
    | cons r rr =>
      cases rr
      cases r
      obtain ⟨its, rv, p1, z1, g1⟩ := seqB I1 sx
      exact enum_begins1 (beB b1 a1 its.toArray) p1 fun h' he hi hsz hk => enum_fin (xs := xs) (tg := e) I1 g1 he hi hk (q _ (walk_enum sx rpx z1))
theorem di_enum2 (hg : Gl X "enumerate") (hm : X.mg "enumerate" = none) (ha : DA X Wx [e, e2] l) (hs : starEach [e, e2] X.env = (false, eval e X.env) :: starEach [e2] X.env := by rfl) (hpl : (backTo pos (starEach [e2] X.env)).any (·.1) = false := by rfl) :
    DI X Wx (.Tuple elts kk tpos) (.Call (.Name "enumerate" p) [e, e2] [] pos) (iEnum2 l) := by
  refine ⟨fun pins s σ H R I ⟨ad, ρ, S, sg, rs, q⟩ => ?_⟩
  refine Call_ (ld_blt I hg hm boot_enumerate (PyProof.Rows.callWith_type1 (thn (ha.run pos pins s σ H (fun vs H1 => ∃ x dx b1 l1 k, vs = [x, .int k] ∧ Rep X.K H1 x dx ∧ kindB dx = some (b1, l1) ∧ startOk k = true ∧ ∀ J, Walk X.K J H1 (enumD k l1) → R J H1) I ⟨ad, ρ, S, sg, rs, post_mono (post_bind q) ?_⟩) fun us s1 ⟨vs, H1, I1, r1, q1⟩ => ?_) hs hpl))
  · rintro vs H1 ⟨ad1, ws, S1, fr1, r1, rs1, q1⟩
    split at q1
    · rename_i x k
      cases hx : kindB x with
      | none => rw [hx] at q1; exact q1.elim
      | some bl =>
        rw [hx] at q1
        dsimp only at q1
        split at q1
        · rename_i hk
          cases r1 with
          | cons ra rr =>
            cases rr with
            | cons rb rr =>
              cases rr
              cases rb
              exact ⟨_, x, bl.1, bl.2, k, rfl, ra, hx, hk, fun J w => q1 J H1 ad1 (Fr.refl _ _) w rs1⟩
        · exact q1.elim
    · exact q1.elim
  · obtain ⟨x, dx, b1, l1, k, rfl, rx, kx, hk0, q⟩ := q1
    obtain ⟨a1, xs, rfl, sx, rpx⟩ := kind_rep rx kx
    cases r1 with
    | cons r rr =>
      cases rr with
      | cons r' rr =>
        cases rr
        cases r
        obtain ⟨t, rfl⟩ := r'
        obtain ⟨its, rv, p1, z1, g1⟩ := seqB I1 sx
        have hb := of_decide_eq_true hk0
        exact enum_begins (beB b1 a1 its.toArray) p1 hb.1 hb.2 fun h' he hi hsz hk => enum_fin (xs := xs) (tg := e) I1 g1 he hi hk (q _ (walk_enum sx rpx z1))
end
end DL

set_option Elab.async false
set_option linter.all false
set_option maxRecDepth 100000
set_option maxHeartbeats 4000000
/-! D8: built-in functions on data, slices, op=, stores into lists, append and extend. -/
namespace DL
open PySem PySem.Spec PyProof.Rows L2

/-! ### built-in functions of data -/
def views (S : Sto) : List Wv → Option (List PyData)
  | [] => some []
  | w :: r => match view S w with
    | some d => (views S r).map (d :: ·)
    | none => none
abbrev RepVs (K : PySem.W.Frag) (H : Hp) : List V → List PyData → Prop := Paired (RepV K H)
theorem views_rep {K : PySem.W.Frag} {ad : List Addr} {H : Hp} {S : Sto} (rs : RS K ad H S) : ∀ {vs : List V} {ws : List Wv} {ds : List PyData}, RepWs K ad H vs ws → views S ws = some ds → RepVs K H vs ds
  | _, _, _, .nil, e => by cases e; exact .nil
  | _, _, ds, .cons (b := w) (l₂ := r) h t, e => by
    unfold views at e
    cases q : view S w with
    | none => rw [q] at e; cases e
    | some d =>
      rw [q] at e
      cases q2 : views S r with
      | none => rw [q2] at e; cases e
      | some l =>
        rw [q2] at e
        cases e
        exact .cons (view_rep h rs q) (views_rep rs t q2)
def rG (K : PySem.W.Frag) (g : List PyData → Option PyData) : List V → Hp → VK → Prop := fun xs H Q => ∃ ds d, RepVs K H xs ds ∧ g ds = some d ∧ ∀ v H', Ex H H' → Rep K H' v d → Q v H'
def CallP (X : Cx) (f : Value) (g : List PyData → Option PyData) : Prop := CallR X f (rG X.K g)
def opN (g : List PyData → Option PyData) (ws : List Wv) (S : Sto) : Rs Wv := match views S ws with
  | some ds => match g ds with
    | some d => .ok (.d d) S
    | none => .bad
  | none => .bad
def eB (g : List PyData → Option PyData) (l : LF) : EF := fun ρ S => (l ρ S).bind (opN g)
section
variable {X : Cx} {Wx : WX} {g : List PyData → Option PyData} {e : Expr} {es : List Expr} {l : LF} {x : Str} {p pos : Pos}
theorem blt_conv {σ : L2.St} {H : Hp} {Q : VK} (q : tD X.K X.mg Wx (eB g l) σ H Q) : tCB (rG X.K g) (tDA X.K X.mg Wx l) σ H Q := by
  obtain ⟨ad, ρ, S, sg, rs, q⟩ := q
  refine ⟨ad, ρ, S, sg, rs, post_mono (post_bind q) ?_⟩
  rintro vs H1 ⟨ad1, ws, S1, fr1, r1, rs1, q1⟩
  unfold opN at q1
  cases e1 : views S1 ws with
  | none => rw [e1] at q1; exact q1.elim
  | some ds =>
    rw [e1] at q1
    dsimp only at q1
    cases e2 : g ds with
    | none => rw [e2] at q1; exact q1.elim
    | some d =>
      rw [e2] at q1
      exact ⟨ds, d, views_rep rs1 r1 e1, e2, fun v H' ex r => q1 v H' ad1 ex.fr r (rs1.ex ex)⟩
theorem de_blt {id : String} (hc : CallP X (.builtin id) g) (hg : Gl X x) (hm : X.mg x = none) (hv : bootBuiltins x = some (.builtin id)) (ha : DA X Wx (e :: es) l) (hn : x ≠ "__name__" := by decide) (hdb : (x == ("__debug__" : Str)) = false := by decide)
    (he : starEach (e :: es) X.env = (false, eval e X.env) :: starEach es X.env := by rfl) (hpl : (backTo pos (starEach es X.env)).any (·.1) = false := by rfl) : DE X Wx (.Call (.Name x p) (e :: es) [] pos) (eB g l) :=
  PE.conv (pe_callB hc hg hm hv ha hn hdb he hpl) fun _ _ _ q => blt_conv q
theorem de_bty {T : String} (hc : CallP X (.type T) g) (hg : Gl X x) (hm : X.mg x = none) (hv : bootBuiltins x = some (.type T)) (ha : DA X Wx (e :: es) l) (hn : x ≠ "__name__" := by decide) (hdb : (x == ("__debug__" : Str)) = false := by decide)
    (he : starEach (e :: es) X.env = (false, eval e X.env) :: starEach es X.env := by rfl) (hpl : (backTo pos (starEach es X.env)).any (·.1) = false := by rfl) : DE X Wx (.Call (.Name x p) (e :: es) [] pos) (eB g l) :=
  PE.conv (pe_callTy hc hg hm hv ha hn hdb he hpl) fun _ _ _ q => blt_conv q
end
/-! the functions -/
def absG : List PyData → Option PyData
  | [.int i] => some (.int (i.natAbs : Nat))
  | _ => none
def intG : List PyData → Option PyData
  | [.int i] => some (.int i)
  | [.bool k] => some (.int (if k then 1 else 0))
  | [.str a] => match PySem.intText? a with
    | some n => if a.length ≤ 640 then some (.int n) else none
    | none => none
  | _ => none
def lenG : List PyData → Option PyData
  | [.list l] => some (.int (l.length : Nat))
  | [.tuple l] => some (.int (l.length : Nat))
  | [.str z] => some (.int (z.length : Nat))
  | _ => none
def tupG : List PyData → Option PyData
  | [.list l] => some (.tuple l)
  | [.tuple l] => some (.tuple l)
  | _ => none
def boolsD : List PyData → Option (List Bool)
  | [] => some []
  | .bool b :: r => (boolsD r).map (b :: ·)
  | _ => none
def strsD : List PyData → Option (List Str)
  | [] => some []
  | .str b :: r => (strsD r).map (b :: ·)
  | _ => none
def allG : List PyData → Option PyData
  | [.list l] => (boolsD l).map fun bs => .bool (bs.all id)
  | _ => none
def anyG : List PyData → Option PyData
  | [.list l] => (boolsD l).map fun bs => .bool (bs.any id)
  | _ => none
def sumG : List PyData → Option PyData
  | [.list l] => (intsD l).map fun bs => .int bs.sum
  | [.tuple l] => (intsD l).map fun bs => .int bs.sum
  | _ => none
def maxG : List PyData → Option PyData
  | [.int i, .int j] => some (.int (if j > i then j else i))
  | _ => none
def minG : List PyData → Option PyData
  | [.int i, .int j] => some (.int (if j < i then j else i))
  | _ => none
def strG1 : List PyData → Option PyData
  | [.int i] => if i.natAbs.log2 < 1920 then some (.str (toString i)) else none
  | [.str x] => some (.str x)
  | _ => none
theorem bools_rep {K : PySem.W.Frag} {H : Hp} : ∀ {vs : List V} {ds : List PyData} {bs : List Bool}, Reps K H vs ds → boolsD ds = some bs → vs = bs.map V.bl
  | _, _, bs, .nil, e => by cases e; rfl
  | _, _, bs, .cons (ds := ds) h t, e => by
    cases h with
    | bl b =>
      unfold boolsD at e
      cases q : boolsD ds with
      | none => rw [q] at e; cases e
      | some l => rw [q] at e; cases e; rw [bools_rep t q]; rfl
    | _ => cases e
theorem ints_rep {K : PySem.W.Frag} {H : Hp} : ∀ {vs : List V} {ds : List PyData} {bs : List Int}, Reps K H vs ds → intsD ds = some bs → vs = bs.map V.int
  | _, _, bs, .nil, e => by cases e; rfl
  | _, _, bs, .cons (ds := ds) h t, e => by
    cases h with
    | int b =>
      unfold intsD at e
      cases q : intsD ds with
      | none => rw [q] at e; cases e
      | some l => rw [q] at e; cases e; rw [ints_rep t q]; rfl
    | _ => cases e
theorem strs_rep {K : PySem.W.Frag} {H : Hp} : ∀ {vs : List V} {ds : List PyData} {bs : List Str}, Reps K H vs ds → strsD ds = some bs → vs = bs.map V.str ∧ ∀ b ∈ bs, strG b = true
  | _, _, bs, .nil, e => by cases e; exact ⟨rfl, fun _ h => by cases h⟩
  | _, _, bs, .cons (ds := ds) h t, e => by
    cases h with
    | str b hb =>
      unfold strsD at e
      cases q : strsD ds with
      | none => rw [q] at e; cases e
      | some l =>
        rw [q] at e; cases e
        obtain ⟨e1, e2⟩ := strs_rep t q
        rw [e1]
        exact ⟨rfl, fun c hc => by
          rcases List.mem_cons.mp hc with z | z
          · rw [z]; exact hb
          · exact e2 c z⟩
    | _ => cases e
section
variable {X : Cx}
theorem repV1 {K : PySem.W.Frag} {H : Hp} {xs : List V} {d : PyData} (h : RepVs K H xs [d]) : ∃ x, xs = [x] ∧ RepV K H x d := by
  cases h with
  | cons r t => cases t; exact ⟨_, rfl, r⟩
theorem repV2 {K : PySem.W.Frag} {H : Hp} {xs : List V} {d e : PyData} (h : RepVs K H xs [d, e]) : ∃ x y, xs = [x, y] ∧ RepV K H x d ∧ RepV K H y e := by
  cases h with
  | cons r t => obtain ⟨y, rfl, r2⟩ := repV1 t; exact ⟨_, _, rfl, r, r2⟩
theorem repV_list {K : PySem.W.Frag} {H : Hp} {x : V} {l : List PyData} (h : RepV K H x (.list l)) : ∃ a vs, x = .ref a ∧ SqL K H a vs ∧ Reps K H vs l := h.lst
theorem cp_abs : CallP X (.builtin "abs") absG := by
  intro pins s σ H xs us Q I r ⟨ds, d, h, e, q⟩
  unfold absG at e
  split at e
  · cases e
    obtain ⟨x, rfl, r1⟩ := repV1 h
    cases r1.int
    refine call_abs pins s σ H _ us Q I r ⟨_, rfl, ?_⟩
    rename_i i
    have : (if i < 0 then -i else i) = ((i.natAbs : Nat) : Int) := by split <;> omega
    rw [this]
    exact q _ H (Ex.refl H) (.int _)
  · cases e
theorem cp_int : CallP X (.type "int") intG := by
  intro pins s σ H xs us Q I r ⟨ds, d, h, e, q⟩
  unfold intG at e
  split at e
  · cases e
    obtain ⟨x, rfl, r1⟩ := repV1 h
    cases r1.int
    exact call_int1 pins s σ H _ us Q I r (.inl ⟨_, rfl, q _ H (Ex.refl H) (.int _)⟩)
  · cases e
    obtain ⟨x, rfl, r1⟩ := repV1 h
    cases r1.bool
    exact call_int1 pins s σ H _ us Q I r (.inr ⟨_, rfl, q _ H (Ex.refl H) (.int _)⟩)
  · split at e
    · split at e
      · rename_i hz
        cases e
        obtain ⟨x, rfl, r1⟩ := repV1 h
        obtain ⟨rfl, z⟩ := r1.str
        exact call_int_str pins s σ H _ us Q I r ⟨_, _, rfl, by assumption, hz, q _ H (Ex.refl H) (.int _)⟩
      · cases e
    · cases e
  · cases e
theorem cp_len : CallP X (.builtin "len") lenG := by
  intro pins s σ H xs us Q I r ⟨ds, d, h, e, q⟩
  unfold lenG at e
  split at e
  · cases e
    obtain ⟨x, rfl, r1⟩ := repV1 h
    obtain ⟨a, vs, rfl, t, rr⟩ := r1.lst
    refine call_len_seq pins s σ H _ us Q I r ⟨_, _, rfl, .inl t, ?_⟩
    rw [rr.length]
    exact q _ H (Ex.refl H) (.int _)
  · cases e
    obtain ⟨x, rfl, r1⟩ := repV1 h
    obtain ⟨a, vs, rfl, t, rr⟩ := r1.tup
    refine call_len_seq pins s σ H _ us Q I r ⟨_, _, rfl, .inr t, ?_⟩
    rw [rr.length]
    exact q _ H (Ex.refl H) (.int _)
  · cases e
    obtain ⟨x, rfl, r1⟩ := repV1 h
    obtain ⟨rfl, z⟩ := r1.str
    exact call_len_str pins s σ H _ us Q I r ⟨_, rfl, strG_len z, q _ H (Ex.refl H) (.int _)⟩
  · cases e
theorem cp_tup : CallP X (.type "tuple") tupG := by
  intro pins s σ H xs us Q I r ⟨ds, d, h, e, q⟩
  unfold tupG at e
  split at e
  · cases e
    obtain ⟨x, rfl, r1⟩ := repV1 h
    obtain ⟨a, vs, rfl, t, rr⟩ := r1.lst
    refine call_tuple_of pins s σ H _ us Q I r ⟨_, _, rfl, .inl ⟨t, fun p hp => ?_⟩⟩
    have ex : Ex H (upd H p (.tup vs)) := Ex.new hp
    exact q _ _ ex (.tup (.inl upd_same) (Reps.stb ex.stb _ rr))
  · cases e
    obtain ⟨x, rfl, r1⟩ := repV1 h
    obtain ⟨a, vs, rfl, t, rr⟩ := r1.tupT
    exact call_tuple_of pins s σ H _ us Q I r ⟨_, _, rfl, .inr ⟨t.sq, q _ H (Ex.refl H) (.tup t rr)⟩⟩
  · cases e
theorem cp_all (hc : X.calm = true) : CallP X (.builtin "all") allG := by
  intro pins s σ H xs us Q I r ⟨ds, d, h, e, q⟩
  unfold allG at e
  split at e
  · rename_i l
    obtain ⟨x, rfl, r1⟩ := repV1 h
    obtain ⟨a, vs, rfl, t, rr⟩ := r1.lst
    cases hb : boolsD l with
    | none => rw [hb] at e; cases e
    | some bs =>
      rw [hb] at e
      cases e
      have := bools_rep rr hb
      subst this
      exact cr_all hc pins s σ H _ us Q I r ⟨_, bs, rfl, t, q _ H (Ex.refl H) (.bl _)⟩
  · cases e
theorem cp_any (hc : X.calm = true) : CallP X (.builtin "any") anyG := by
  intro pins s σ H xs us Q I r ⟨ds, d, h, e, q⟩
  unfold anyG at e
  split at e
  · rename_i l
    obtain ⟨x, rfl, r1⟩ := repV1 h
    obtain ⟨a, vs, rfl, t, rr⟩ := r1.lst
    cases hb : boolsD l with
    | none => rw [hb] at e; cases e
    | some bs =>
      rw [hb] at e
      cases e
      have := bools_rep rr hb
      subst this
      exact cr_any hc pins s σ H _ us Q I r ⟨_, bs, rfl, t, q _ H (Ex.refl H) (.bl _)⟩
  · cases e
theorem sum_rawT {prog : Program} {w : World} {A : Around} {E : Value → Shared → Prop} {s : Shared} {l : Addr} {its : List Value} {ns : List Int} {Q : Value → Shared → Prop} (hh : A.handled = none) (hl : s.heap.IsTuple l its.toArray) (hi : IntsAre its ns)
    (h : ∀ h' tk t', (∀ b o, s.heap.get? b = some o → h'.get? b = some o) → Q (.int ns.sum t') { s with heap := h', toks := tk }) : wpAny (model prog w) A (call (.builtin "sum") [.ref l]) Q E s := by
  obtain ⟨xs, e⟩ := hi.allInts.items
  have hn : numsOf (intItems xs).toList = ns := by rw [← e]; exact hi.numsOf
  rw [nums_intItems] at hn
  rw [e] at hl
  refine PySem.W.ktm_sumG hh hl fun h' tk t' hk => ?_
  have := h h' tk t' hk
  rw [preSum_eq, List.take_of_length_le (by simp), hn]; exact this
theorem cr_sumT (hc : X.calm = true) : CallR X (.builtin "sum") (fun vs H Q => ∃ (a : Addr) (ns : List Int), vs = [V.ref a] ∧ SqT X.K H a (ns.map V.int) ∧ Q (.int ns.sum) H) := by
  intro pins s σ H vs us Q I r h
  obtain ⟨a, ns, rfl, hs, q⟩ := h
  obtain ⟨its, rv, hl, _⟩ := I.tuple hs
  rw [Vals.ref1 r]
  exact sum_rawT (I.ok.hd hc) hl rv.ints fun h' tk t' hk => ⟨.int _, H, I.kept hk, ⟨_, rfl⟩, q⟩
theorem cp_sum (hc : X.calm = true) : CallP X (.builtin "sum") sumG := by
  intro pins s σ H xs us Q I r ⟨ds, d, h, e, q⟩
  unfold sumG at e
  split at e
  · rename_i l
    obtain ⟨x, rfl, r1⟩ := repV1 h
    obtain ⟨a, vs, rfl, t, rr⟩ := r1.lst
    cases hb : intsD l with
    | none => rw [hb] at e; cases e
    | some bs =>
      rw [hb] at e
      cases e
      have := ints_rep rr hb
      subst this
      exact cr_sum hc pins s σ H _ us Q I r ⟨_, bs, rfl, t, q _ H (Ex.refl H) (.int _)⟩
  · rename_i l
    obtain ⟨x, rfl, r1⟩ := repV1 h
    obtain ⟨a, vs, rfl, t, rr⟩ := r1.tup
    cases hb : intsD l with
    | none => rw [hb] at e; cases e
    | some bs =>
      rw [hb] at e
      cases e
      have := ints_rep rr hb
      subst this
      exact cr_sumT hc pins s σ H _ us Q I r ⟨_, bs, rfl, t, q _ H (Ex.refl H) (.int _)⟩
  · cases e
theorem cp_max (hc : X.calm = true) : CallP X (.builtin "max") maxG := by
  intro pins s σ H xs us Q I r ⟨ds, d, h, e, q⟩
  unfold maxG at e
  split at e
  · cases e
    obtain ⟨x, y, rfl, r1, r2⟩ := repV2 h
    cases r1.int; cases r2.int
    exact call_max2 hc pins s σ H _ us Q I r ⟨_, _, rfl, q _ H (Ex.refl H) (.int _)⟩
  · cases e
theorem cp_min (hc : X.calm = true) : CallP X (.builtin "min") minG := by
  intro pins s σ H xs us Q I r ⟨ds, d, h, e, q⟩
  unfold minG at e
  split at e
  · cases e
    obtain ⟨x, y, rfl, r1, r2⟩ := repV2 h
    cases r1.int; cases r2.int
    exact call_min2 hc pins s σ H _ us Q I r ⟨_, _, rfl, q _ H (Ex.refl H) (.int _)⟩
  · cases e
def negG : List PyData → Option PyData
  | [.int i] => some (.int (-i))
  | _ => none
theorem un_negD {Wx : WX} {a : Expr} {f : EF} {pos : Pos} (ha : DE X Wx a f) : DE X Wx (.UnaryOp .USub a pos) (eB negG (lCons f lNil)) := PE.conv (pe_un un_neg ha) fun σ H Q ⟨ad, ρ, S, sg, rs, q⟩ => by
  have q : post X.K X.mg Wx σ ad H (RepW X.K) ((f ρ S).bind fun x S1 => opN negG [x] S1) Q := by
    revert q
    unfold eB lCons lNil
    cases f ρ S with
    | bad => exact id
    | exc x S1 => exact id
    | ok w S1 => exact id
  refine ⟨ad, ρ, S, sg, rs, post_mono (post_bind q) ?_⟩
  rintro x H1 ⟨ad1, w, S1, fr1, r1, rs1, q1⟩
  unfold opN views views negG at q1
  cases e1 : view S1 w with
  | none => rw [e1] at q1; exact q1.elim
  | some d =>
    rw [e1] at q1
    cases d with
    | int i =>
      have rv := view_rep r1 rs1 e1
      cases rv.int
      exact ⟨_, rfl, q1 _ H1 ad1 (Fr.refl _ _) (.int _) rs1⟩
    | _ => exact q1.elim
end
end DL

set_option Elab.async false
set_option linter.all false
set_option maxRecDepth 100000
set_option maxHeartbeats 4000000
/-! D9: list(zip(a, b)). -/
namespace DL
open PySem PySem.Spec PyProof.Rows L2

def ZSt (h : Heap) (z TI TO i1 i2 : Addr) (b1 b2 : Bool) (a1 a2 : Addr) (i : Nat) : Prop :=
  (IsZip h z TI TO .none ∨ ∃ T f oT, IsZipHeld h z TI TO T f ∧ h.get? T = some oT ∧ T ∉ [z, TI, TO, i1, i2] ∧ oT.cls = .type "tuple") ∧ IsTupOf2 h TI (.ref i1) (.ref i2) ∧ (∃ x y, IsTupOf2 h TO x y) ∧ itB b1 h i1 a1 i ∧ itB b2 h i2 a2 i
section
variable {h h' : Heap} {z TI TO i1 i2 : Addr} {b1 b2 : Bool} {a1 a2 : Addr} {i : Nat}
theorem ZSt.ty (st : ZSt h z TI TO i1 i2 b1 b2 a1 a2 i) : ∃ o, h.get? z = some o ∧ o.cls = .type "zip" := by
  rcases st.1 with q | ⟨_, _, _, q, _⟩
  · exact ⟨_, q, rfl⟩
  · exact ⟨_, q, rfl⟩
theorem ZSt.at (st : ZSt h z TI TO i1 i2 b1 b2 a1 a2 i) {q : Addr} (hc : ∀ o, h.get? q = some o → o.cls ≠ .type "tuple") (hn : q ∉ [z, TI, TO, i1, i2]) (k : ∀ b o, b ≠ q → h.get? b = some o → h'.get? b = some o) : ZSt h' z TI TO i1 i2 b1 b2 a1 a2 i := by
  have ne : ∀ c ∈ [z, TI, TO, i1, i2], c ≠ q := fun c hc e => hn (e ▸ hc)
  obtain ⟨hz, hTI, ⟨x, y, hTO⟩, h1, h2⟩ := st
  refine ⟨?_, k TI _ (ne _ (by simp)) hTI, ⟨x, y, k TO _ (ne _ (by simp)) hTO⟩, itB_at h1 fun o e => k i1 o (ne _ (by simp)) e, itB_at h2 fun o e => k i2 o (ne _ (by simp)) e⟩
  rcases hz with e1 | ⟨T, f, oT, e1, e2, e3, e5⟩
  · exact .inl (k z _ (ne _ (by simp)) e1)
  · refine .inr ⟨T, f, oT, k z _ (ne _ (by simp)) e1, k T _ (fun z => ?_) e2, e3, e5⟩
    subst z
    exact hc _ e2 e5
end
theorem FpOk.upd {X : Cx} {pins : List (Addr × Obj)} {H : Hp} {c p : Addr} {o : HO} (f : FpOk X pins H c) (h : c ≠ p) : FpOk X pins (upd H p o) c := ⟨by rw [upd_ne h]; exact f.1, f.2⟩
section
variable {X : Cx} {pins : List (Addr × Obj)} {σ : L2.St} {A1 : Around} {z TI TO i1 i2 : Addr} {b1 b2 : Bool} {a1 a2 q : Addr} {N : Nat} {H0 : Hp} {xs ys : List V} {l m : List PyData}
theorem zl_loop {Rs : Result → Shared → Prop} (D : Ap z TI TO i1 i2 N) (g1 : a1 < N) (g2 : a2 < N) (hh : A1.in1.in1.handled = none) (hq0 : H0 q = none) (s1 : SqB b1 X.K H0 a1 xs) (r1 : Reps X.K H0 xs l) (s2 : SqB b2 X.K H0 a2 ys) (r2 : Reps X.K H0 ys m)
    (hdone : ∀ H s accV, Inv X pins σ H s → Ex H0 H → H q = some (.lst accV) → Reps X.K H accV (zipD l m) → Rs (.ok (.ret .none)) s) :
    ∀ (k i : Nat) (accV : List V) (H : Hp) (s : Shared), (zipD l m).length - i = k → i ≤ (zipD l m).length → Inv X pins σ H s → Ex H0 H → H q = some (.lst accV) → Reps X.K H accV ((zipD l m).take i) →
      ZSt s.heap z TI TO i1 i2 b1 b2 a1 a2 i → (∀ c ∈ [z, TI, TO, i1, i2], FpOk X pins H c) → codeAny (model X.prog X.w) A1 (.builtin "list.extend.loop" ⟨[.ref q, .ref z, .none], []⟩) Rs s := by
  have S := D.S a1 a2 g1 g2
  have n1 : a1 ≠ i1 := Nat.ne_of_lt (Nat.lt_of_lt_of_le g1 (D.ge i1 (by simp)))
  have n2 : a2 ≠ i2 := Nat.ne_of_lt (Nat.lt_of_lt_of_le g2 (D.ge i2 (by simp)))
  have hl : (zipD l m).length = min l.length m.length := by simp [zipD]
  intro k
  induction k with
  | zero =>
    intro i accV H s hk hi I ex hq rp st fp
    have hin : i = (zipD l m).length := by omega
    refine codeAny_builtin PySem.F.entry_extend_loop ?_
    rw [Around.under_plainId PySem.F.plain_extend_loop _]
    show wpAny _ A1.in1 (pyNext (.ref z) >>= _) _ _ s
    have x1 := sqB_stb ex.stb s1
    have x2 := sqB_stb ex.stb s2
    obtain ⟨its, rv, p, _, _⟩ := seqB I x1
    obtain ⟨its2, rv2, p2, _, _⟩ := seqB I x2
    have e1 := rv.length
    have e2 := rv2.length
    have e3 := r1.length
    have e4 := r2.length
    have fin : ∀ h' tk, (∀ c o, c ∉ [z, TI, TO, i1, i2] → s.heap.get? c = some o → h'.get? c = some o) → Rs (.ok (.ret .none)) { s with heap := h', toks := tk } := fun h' tk hk => by
      refine hdone H _ accV (I.turnedL (t' := tk) (ch := [z, TI, TO, i1, i2]) (fun b o hb e => hk b o hb e) fp) ex hq ?_
      rw [hin, List.take_length] at rp
      exact rp
    obtain ⟨hz, hTI, ⟨x0, y0, hTO⟩, h1, h2⟩ := st
    rcases hz with hz | ⟨T, f, oT, hz, hT, _⟩
    · refine wpAny_bind (wpAny_pyNext_zipD2_end S (drB b1 hh i1 a1 n1 its.toArray) (drB b2 hh i2 a2 n2 its2.toArray) hz hTI hTO ⟨h1, p⟩ ⟨h2, p2⟩ (by simp; omega) (by simp; omega) (by simp; omega) fun h' tk hk => ?_)
      exact wpAny_pure (fin h' tk fun c o hb e => hk c o (fun q' => hb (by simp [q'])) (fun q' => hb (by simp [q'])) (fun q' => hb (by simp [q'])) (fun q' => hb (by simp [q'])) e)
    · refine wpAny_bind (pyNext_zipH_end S (drB b1 hh i1 a1 n1 its.toArray) (drB b2 hh i2 a2 n2 its2.toArray) hz hT hTI ⟨h1, p⟩ ⟨h2, p2⟩ (by simp; omega) (by simp; omega) (by simp; omega) fun h' tk hk => ?_)
      exact wpAny_pure (fin h' tk fun c o hb e => hk c o (fun q' => hb (by simp [q'])) (fun q' => hb (by simp [q'])) (fun q' => hb (by simp [q'])) e)
  | succ k ih =>
    intro i accV H s hk hi I ex hq rp st fp
    have hlt : i < (zipD l m).length := by omega
    refine codeAny_builtin PySem.F.entry_extend_loop ?_
    rw [Around.under_plainId PySem.F.plain_extend_loop _]
    show wpAny _ A1.in1 (pyNext (.ref z) >>= _) _ _ s
    have x1 := sqB_stb ex.stb s1
    have x2 := sqB_stb ex.stb s2
    obtain ⟨its, rv, p, zl, _⟩ := seqB I x1
    obtain ⟨its2, rv2, p2, zl2, _⟩ := seqB I x2
    have e1 := rv.length
    have e2 := rv2.length
    have e3 := r1.length
    have e4 := r2.length
    have hqc : q ∉ [z, TI, TO, i1, i2] := fun hm => by
      have := (fp q hm).1
      rw [hq] at this; cases this
    obtain ⟨hz, hTI, ⟨x0, y0, hTO⟩, h1, h2⟩ := id st
    have hcell : ∀ c ∈ [z, TI, TO, i1, i2], c < s.heap.objs.size := fun c hcm => by
      have e' : c = z ∨ c = TI ∨ c = TO ∨ c = i1 ∨ c = i2 := by simpa using hcm
      rcases e' with q | q | q | q | q
      · rw [q]; obtain ⟨o, e, _⟩ := st.ty; exact Heap.lt_size e
      · rw [q]; exact Heap.lt_size hTI
      · rw [q]; exact Heap.lt_size hTO
      · rw [q]; obtain ⟨_, e1, _⟩ := itB_obj h1; exact Heap.lt_size e1
      · rw [q]; obtain ⟨_, e2, _⟩ := itB_obj h2; exact Heap.lt_size e2
    have ix : i < xs.length := by omega
    have iy : i < ys.length := by omega
    obtain ⟨d1, gd1, rd1⟩ := r1.getV (i := i) (v := xs[i]) (by simp [ix])
    obtain ⟨d2, gd2, rd2⟩ := r2.getV (i := i) (v := ys[i]) (by simp [iy])
    have hz1 : (zipD l m)[i]? = some (.tuple [d1, d2]) := by
      unfold zipD
      have hp : (l.zip m)[i]? = some (d1, d2) := List.getElem?_zip_eq_some.mpr ⟨gd1, gd2⟩
      rw [List.getElem?_map, hp]
      rfl
    -- what the turn does, whichever way the tuple comes
    have go : ∀ (u u2 : Value) (h' : Heap) (tk : Nat), its.toArray[i]? = some u → its2.toArray[i]? = some u2 → (IsZip h' z TI TO (rawInt s.heap.objs.size) ∨ IsZipHeld h' z TI TO s.heap.objs.size true ∨ ∃ T f oT, IsZipHeld h' z TI TO T f ∧ h'.get? T = some oT ∧ T ∉ [z, TI, TO, i1, i2] ∧ oT.cls = .type "tuple") → (∃ x y, IsTupOf2 h' TO x y) → itB b1 h' i1 a1 (i + 1) → itB b2 h' i2 a2 (i + 1) →
        IsTupOf2 h' s.heap.objs.size u u2 → h'.objs.size = s.heap.objs.size + 1 → (∀ c o, c ∉ [z, TO, i1, i2] → s.heap.get? c = some o → h'.get? c = some o) →
        wpAny (model X.prog X.w) A1.in1 (updateSeq q (·.push (.ref s.heap.objs.size)) >>= fun _ => again (.builtin "list.extend.loop" ⟨[.ref q, .ref z, .none], []⟩)) (fun fin s' => match fin with | .done f => Rs (.ok f) s' | .again c' => c'.quiet = true ∧ codeAny (model X.prog X.w) A1 c' Rs s') (fun e s' => Rs (.error e) s') { s with heap := h', toks := tk } := by
      intro u u2 h' tk hu hu2 hz' hTO' h1' h2' hT hsz hkp
      obtain ⟨v1, hv1, ru⟩ := rv.get (i := i) (x := xs[i]) (by simp [ix])
      obtain ⟨v2, hv2, ru2⟩ := rv2.get (i := i) (x := ys[i]) (by simp [iy])
      have eu : u = v1 := by simpa [hv1] using hu.symm
      have eu2 : u2 = v2 := by simpa [hv2] using hu2.symm
      subst eu eu2
      have new : ObjOk X.prog X.w (upd H s.heap.objs.size (.tup [xs[i], ys[i]])) h' s.heap.objs.size (.tup [xs[i], ys[i]]) :=
        ⟨by show 2 ≤ sizeLine; decide, [u, u2], .cons ru (.cons ru2 .nil), ⟨_, hT, rfl, _, rfl⟩⟩
      have I1 : Inv X pins σ (upd H s.heap.objs.size (.tup [xs[i], ys[i]])) { s with heap := h', toks := tk } :=
        I.turnedNew (t' := tk) (ch := [z, TI, TO, i1, i2]) (fun c o hb q => hkp c o (fun q' => hb (by
          rcases List.mem_cons.mp q' with r | r
          · rw [r]; simp
          · exact List.mem_cons_of_mem _ (List.mem_cons_of_mem _ r))) q) fp (Nat.le_refl _) new
      have exT : Ex H (upd H s.heap.objs.size (.tup [xs[i], ys[i]])) := Ex.new (I.hok.fresh (Nat.le_refl _))
      have hq1 := exT _ _ hq
      obtain ⟨zz, its3, n3, rv3, hl3, e3'⟩ := I1.lstM hq1
      have hacc : accV.length = i := by
        rw [rp.length, List.length_take]; omega
      refine wpAny_bind (wpAny_updateSeq e3' rfl (wpAny_pure ⟨plainId_quiet PySem.F.plain_extend_loop _, ?_⟩) (by rw [List.size_toArray]; omega) (by show (its3.toArray.push _).size ≤ sizeLine + 1; rw [Array.size_push, List.size_toArray]; omega))
      have I2 := I1.lset (its' := its3 ++ [.ref s.heap.objs.size]) (ys := accV ++ [.ref s.heap.objs.size]) (f := (·.push (.ref s.heap.objs.size))) (t' := tk) hq1 e3' (by simp) (rv3.append (show Vals [V.ref s.heap.objs.size] [Value.ref s.heap.objs.size] from .cons rfl .nil)) (by rw [List.length_append, List.length_singleton]; omega)
      refine ih (i + 1) (accV ++ [.ref s.heap.objs.size]) _ _ (by omega) hlt I2 ((ex.trans exT).upd2 hq0) upd_same ?_ ?_ fun c hcm => ?_
      · have st1 : Stb (upd H s.heap.objs.size (.tup [xs[i], ys[i]])) (upd (upd H s.heap.objs.size (.tup [xs[i], ys[i]])) q (.lst (accV ++ [.ref s.heap.objs.size]))) := stb_upd hq1
        have st2 := exT.stb.trans st1
        rw [List.take_add_one, hz1]
        refine Reps.append (Reps.stb st2 _ rp) (.cons ?_ .nil)
        have hTn : (upd (upd H s.heap.objs.size (.tup [xs[i], ys[i]])) q (.lst (accV ++ [.ref s.heap.objs.size]))) s.heap.objs.size = some (.tup [xs[i], ys[i]]) := by
          rw [upd_ne (ne_of_none hq (I.hok.fresh (Nat.le_refl _))).symm, upd_same]
        exact .tup (.inl hTn) (.cons (Rep.stb (ex.stb.trans st2) _ rd1) (.cons (Rep.stb (ex.stb.trans st2) _ rd2) .nil))
      · refine ZSt.at (q := q) (h := h') (i := i + 1) ⟨?_, hkp TI _ (by
            simp only [List.mem_cons, List.not_mem_nil, or_false, not_or]
            exact ⟨S.TIz, S.TITO, S.TIi1, S.TIi2⟩) hTI, hTO', h1', h2'⟩ (fun o e => by
          have : h'.get? q = some _ := e3'
          rw [this] at e; cases e
          exact fun z => absurd (Value.type.inj z) (by decide)) hqc fun b o hb e => (Heap.get?_update_other _ _ (Ne.symm hb)).trans e
        have hTc : s.heap.objs.size ∉ [z, TI, TO, i1, i2] := fun hm => Nat.lt_irrefl _ (hcell _ hm)
        rcases hz' with e | e | e
        · exact .inr ⟨s.heap.objs.size, false, _, e, hT, hTc, rfl⟩
        · exact .inr ⟨s.heap.objs.size, true, _, e, hT, hTc, rfl⟩
        · exact .inr e
      · exact FpOk.upd (FpOk.upd (fp c hcm) (Nat.ne_of_lt (hcell c hcm))) (fun e => hqc (e ▸ hcm))
    rcases hz with hz | ⟨T, f, oT, hz, hT, hTc, hTt⟩
    · refine wpAny_bind (wpAny_pyNext_zipD2_item S (drB b1 hh i1 a1 n1 its.toArray) (drB b2 hh i2 a2 n2 its2.toArray) hz hTI hTO ⟨h1, p⟩ ⟨h2, p2⟩ (by simp; omega) (by simp; omega) fun u u2 h' tk hu hu2 z' TO' st1' st2' hT hsz hk => ?_)
      exact go u u2 h' tk hu hu2 (.inl z') ⟨_, _, TO'⟩ st1'.1 st2'.1 hT hsz fun c o hb e => hk c o (fun q' => hb (by simp [q'])) (fun q' => hb (by simp [q'])) (fun q' => hb (by simp [q'])) (fun q' => hb (by simp [q'])) e
    · refine wpAny_bind (pyNext_zipH_item S (drB b1 hh i1 a1 n1 its.toArray) (drB b2 hh i2 a2 n2 its2.toArray) hz hT hTI ⟨h1, p⟩ ⟨h2, p2⟩ (by simp; omega) (by simp; omega) fun u u2 h' tk hu hu2 z' st1' st2' hT' hsz hk => ?_)
      refine go u u2 h' tk hu hu2 (.inr (.inr ⟨T, true, oT, z', hk T oT (fun e => hTc (by simp [e])) (fun e => hTc (by simp [e])) (fun e => hTc (by simp [e])) hT, hTc, hTt⟩)) ⟨x0, y0, hk TO _ S.TOz S.Ti1 S.Ti2 hTO⟩ st1'.1 st2'.1 hT' hsz fun c o hb e => hk c o (fun q' => hb (by simp [q'])) (fun q' => hb (by simp [q'])) (fun q' => hb (by simp [q'])) e
/-- list(z) of a zip just made -/
theorem zl_call {Q : VK} {s : Shared} (D : Ap z TI TO i1 i2 N) (g1 : a1 < N) (g2 : a2 < N) (hh : X.A.in1.in1.in1.in1.handled = none) (I : Inv X pins σ H0 s) (s1 : SqB b1 X.K H0 a1 xs) (r1 : Reps X.K H0 xs l) (s2 : SqB b2 X.K H0 a2 ys) (r2 : Reps X.K H0 ys m)
    (st : ZSt s.heap z TI TO i1 i2 b1 b2 a1 a2 0) (fp : ∀ c ∈ [z, TI, TO, i1, i2], FpOk X pins H0 c)
    (q : ∀ p H accV, H0 p = none → Ex H0 H → H p = some (.lst accV) → Reps X.K H accV (zipD l m) → Q (.ref p) H) : wpAny (model X.prog X.w) X.A (call (.type "list") [.ref z]) (EP X pins σ Q) X.xe s := by
  refine callType_codes (Q₁ := fun obj s₁ => obj = .ref s.heap.objs.size ∧ s₁ = { s with heap := s.heap.push { cls := .type "list", data := .seq #[] } }) PySem.F.called_list (PySem.F.typeCall_list_1 _) PySem.F.entry_list_init
    (code_list_new _ ⟨rfl, rfl⟩) fun obj s₁ h₁ => ?_
  obtain ⟨rfl, rfl⟩ := h₁
  have hS : (s.heap.push { cls := .type "list", data := .seq #[] }).get? s.heap.objs.size = some { cls := .type "list", data := .seq #[] } := Heap.get?_push_size _ rfl
  refine ⟨⟨_, hS, rfl⟩, PySem.F.args_list_init_2 _ _, ?_⟩
  have fr : H0 s.heap.objs.size = none := I.hok.fresh (Nat.le_refl _)
  have I1 : Inv X pins σ (upd H0 s.heap.objs.size (.lst [])) { s with heap := s.heap.push { cls := .type "list", data := .seq #[] } } := I.lnew (its := []) (t' := s.toks) .nil (Nat.zero_le _)
  obtain ⟨hz, hTI, ⟨x0, y0, hTO⟩, h1, h2⟩ := id st
  have hcell : ∀ c ∈ [z, TI, TO, i1, i2], c < s.heap.objs.size := fun c hcm => by
    have e' : c = z ∨ c = TI ∨ c = TO ∨ c = i1 ∨ c = i2 := by simpa using hcm
    rcases e' with q | q | q | q | q
    · rw [q]; obtain ⟨o, e, _⟩ := st.ty; exact Heap.lt_size e
    · rw [q]; exact Heap.lt_size hTI
    · rw [q]; exact Heap.lt_size hTO
    · rw [q]; obtain ⟨_, e1, _⟩ := itB_obj h1; exact Heap.lt_size e1
    · rw [q]; obtain ⟨_, e2, _⟩ := itB_obj h2; exact Heap.lt_size e2
  have hqc : s.heap.objs.size ∉ [z, TI, TO, i1, i2] := fun hm => Nat.lt_irrefl _ (hcell _ hm)
  have st1 : ZSt (s.heap.push { cls := .type "list", data := .seq #[] }) z TI TO i1 i2 b1 b2 a1 a2 0 := st.at (q := s.heap.objs.size) (fun o e => absurd (Heap.lt_size e) (Nat.lt_irrefl _)) hqc fun b o _ e => Heap.get?_push_of_some _ e
  show wpAny _ _ (do let old ← Builtin.List.listItems (.ref s.heap.objs.size); Builtin.List.listUpdate (.ref s.heap.objs.size) (fun _ => #[]); letGo old.toList.reverse; Builtin.List.listExtendWith (.ref s.heap.objs.size) (.ref z) .none) _ _ _
  refine wpAny_bind ?_
  unfold Builtin.List.listItems
  refine wpAny_bind (wpAny_seqItems hS rfl (wpAny_pure ?_))
  show wpAny _ _ (updateSeq s.heap.objs.size (fun _ => #[]) >>= fun _ => letGo (#[] : Array Value).toList.reverse >>= fun _ => Builtin.List.listExtendWith (.ref s.heap.objs.size) (.ref z) .none) _ _ _
  refine wpAny_bind (wpAny_updateSeq hS rfl ?_)
  have I2 := I1.lset (f := fun _ => #[]) (its := []) (its' := []) (ys := []) (t' := s.toks) upd_same hS rfl .nil (Nat.zero_le _)
  rw [upd_upd] at I2
  have nt : ∀ {h : Heap}, (∃ n, h.get? s.heap.objs.size = some { cls := .type "list", data := .seq #[] n }) → ∀ o, h.get? s.heap.objs.size = some o → o.cls ≠ .type "tuple" := fun ⟨n, e⟩ o e2 => by
    rw [e] at e2; cases e2; exact fun z => absurd (Value.type.inj z) (by decide)
  have st2 : ZSt ((s.heap.push { cls := .type "list", data := .seq #[] }).update s.heap.objs.size (Obj.mapSeq fun _ => #[])) z TI TO i1 i2 b1 b2 a1 a2 0 := st1.at (q := s.heap.objs.size) (nt ⟨0, hS⟩) hqc fun b o hb e => (Heap.get?_update_other _ _ (Ne.symm hb)).trans e
  refine wpAny_bind (wpAny_letGo ?_)
  have hne : s.heap.objs.size ≠ z := fun e => hqc (by rw [e]; simp)
  obtain ⟨oz, hoz, hzc⟩ := st2.ty
  have tz : Shared.TypeIs { s with heap := (s.heap.push { cls := .type "list", data := .seq #[] }).update s.heap.objs.size (Obj.mapSeq fun _ => #[]) } (.ref z) "zip" := ⟨oz, hoz, hzc⟩
  unfold Builtin.List.listExtendWith
  refine wpAny_bind (wpAny_typeOf tz ?_)
  have h1 : Builtin.List.listSameRef (.ref s.heap.objs.size) (.ref z) = false := by simp [Builtin.List.listSameRef, hne]
  have h2 : (Value.type "zip" == Value.type "list") = false := by decide
  have h3 : (Value.type "zip" == Value.type "tuple") = false := by decide
  simp only [h1, h2, h3, Bool.or_false, Bool.false_eq_true, if_false]
  have self : ∀ {Q' : Value → Shared → Prop} {E : Value → Shared → Prop} {A' : Around} {s' : Shared}, ZSt s'.heap z TI TO i1 i2 b1 b2 a1 a2 0 → Q' (.ref z) s' → wpAny (model X.prog X.w) A' (pyIter (.ref z)) Q' E s' := fun st' h => by
    rcases st'.1 with e | ⟨T, f, oT, e, _⟩
    · exact wpAny_pyIter_zip e h
    · have hT : Shared.TypeIs _ (.ref z) "zip" := ⟨_, e, rfl⟩
      refine wpAny_pyIter_slot hT PySem.F.slot_zip_iter (wpAny_call_entry PySem.F.slot_zip_iter hT PySem.F.entry_zip_iter ?_ (PySem.F.args_zip_iter_1 _))
      exact wpAny_pure ⟨_, rfl, "zip", _, hT, PySem.F.slot_zip_next.lookup, h⟩
  refine wpAny_bind (self st2 ?_)
  refine wpAny_bind (wpAny_holding ?_)
  unfold Builtin.List.listLengthHint
  refine wpAny_bind (wpAny_specialOf tz zip_no_len ?_)
  show wpAny _ _ (specialOf (Value.ref z) (Str.ofString "__length_hint__") >>= _) _ _ _
  refine wpAny_bind (wpAny_specialOf tz zip_no_hint ?_)
  refine wpAny_pure ?_
  show wpAny _ _ (rule "list.extend.makes-room" >>= fun _ => Builtin.List.listTouch (.ref s.heap.objs.size) >>= fun _ =>
    again (.builtin "list.extend.loop" ⟨[.ref s.heap.objs.size, .ref z, .none], []⟩)) _ _ _
  refine wpAny_bind (wpAny_rule ?_)
  refine wpAny_bind ?_
  obtain ⟨zz, its, k, r3, hl3, e3⟩ := I2.lstM upd_same
  cases r3
  show wpAny _ _ (updateSeq s.heap.objs.size (·.push .none) >>= fun _ => updateSeq s.heap.objs.size (·.pop)) _ _ _
  refine wpAny_bind (wpAny_updateSeq e3 rfl ?_)
  have I3 := I2.lset (f := (·.push Value.none)) (its' := [Value.none]) (ys := [.non]) (t' := s.toks) upd_same e3 (by simp) (.cons rfl .nil) (by rw [List.length_singleton, sizeLine_eq]; decide)
  have st3 := st2.at (q := s.heap.objs.size) (h' := Heap.update _ s.heap.objs.size (Obj.mapSeq (·.push Value.none))) (nt ⟨k, e3⟩) hqc fun b o hb e => (Heap.get?_update_other _ _ (Ne.symm hb)).trans e
  obtain ⟨z4, its4, k4, r4, hl4, e4⟩ := I3.lstM upd_same
  obtain ⟨u4, rfl, ru4⟩ := r4.one
  refine wpAny_updateSeq e4 rfl ?_ (by show 1 ≤ sizeLine; rw [sizeLine_eq]; decide) (by show 0 ≤ sizeLine + 1; exact Nat.zero_le _)
  have I4 := I3.lset (f := (·.pop)) (its := [u4]) (its' := []) (ys := []) (t' := s.toks) upd_same e4 (by rfl) .nil (Nat.zero_le _)
  have st4 := st3.at (q := s.heap.objs.size) (h' := Heap.update _ s.heap.objs.size (Obj.mapSeq (·.pop))) (fun o e => by
    have e' := e4.symm.trans e
    cases e'; exact fun z => absurd (Value.type.inj z) (by decide)) hqc fun b o hb e => (Heap.get?_update_other _ _ (Ne.symm hb)).trans e
  rw [upd_upd, upd_upd] at I4
  refine wpAny_pure ⟨plainId_quiet PySem.F.plain_extend_loop _, ?_⟩
  refine zl_loop (A1 := X.A.in1) (Rs := wants (fun r s₂ => r = .none ∧ EP X pins σ Q (.ref s.heap.objs.size) s₂) X.xe) D g1 g2 hh fr s1 r1 s2 r2 (fun H s' accV I' ex hq' rp => ?_) _ 0 [] _ _ rfl (Nat.zero_le _) I4 (Ex.new fr) upd_same .nil st4 fun c hcm => FpOk.upd (fp c hcm) (fun e => hqc (e ▸ hcm))
  exact ⟨rfl, .ref s.heap.objs.size, H, I', rfl, q _ H accV fr ex hq' rp⟩
end
def mZip (f : LF) : MF := fun ρ S => (f ρ S).bind fun ws S1 => match ws with
  | [.d x, .d y] => match kindB x with
    | some (_, l) => match kindB y with
      | some (_, m) => .ok (zipD l m) S1
      | none => .bad
    | none => .bad
  | _ => .bad
theorem dm_listzip {X : Cx} {Wx : WX} {e e2 : Expr} {l : LF} {p pos p2 pos2 : Pos} (hc : X.calm = true) (hgl : Gl X "list") (hml : X.mg "list" = none) (hg : Gl X "zip") (hm : X.mg "zip" = none) (ha : DA X Wx [e, e2] l) (hs : starEach [e, e2] X.env = (false, eval e X.env) :: starEach [e2] X.env := by rfl) (hpl : (backTo pos (starEach [e2] X.env)).any (·.1) = false := by rfl)
    (he : starEach [.Call (.Name "zip" p) [e, e2] [] pos] X.env = (false, eval (.Call (.Name "zip" p) [e, e2] [] pos) X.env) :: starEach [] X.env := by rfl) :
    DM X Wx (.Call (.Name "list" p2) [.Call (.Name "zip" p) [e, e2] [] pos] [] pos2) (mZip l) := by
  refine ⟨fun pins s σ H Q I ⟨ad, ρ, S, sg, rs, q⟩ => ?_⟩
  refine wpAny_Call_Name_kw (ld_blt I hgl hml PyProof.Rows.boot_list ?_)
  refine PyProof.Rows.callWith_type1 ?_ he rfl
  rw [he]
  show wpAny _ _ (spliced ((false, eval (.Call (.Name "zip" p) [e, e2] [] pos) X.env) :: backTo pos2 (starEach [] X.env))) _ _ s
  refine Calls.spliced_cons ?_
  refine Call_ (ld_blt I hg hm PyProof.Rows.boot_zip (PyProof.Rows.callWith_type1 (thn (ha.run pos pins s σ H (fun vs H1 => ∃ x y dx dy b1 b2 l1 l2, vs = [x, y] ∧ Rep X.K H1 x dx ∧ Rep X.K H1 y dy ∧ kindB dx = some (b1, l1) ∧ kindB dy = some (b2, l2) ∧
    ∀ p H' accV, H1 p = none → Ex H1 H' → H' p = some (.lst accV) → Reps X.K H' accV (zipD l1 l2) → Q (.ref p) H') I ⟨ad, ρ, S, sg, rs, ?_⟩) fun us s1 ⟨vs, H1, I1, r1, q1⟩ => ?_) hs hpl))
  · revert q
    unfold mZip
    cases l ρ S with
    | bad => exact fun z => z
    | exc x S' => exact fun z => z
    | ok ws S1 =>
      intro q vs H1 ad1 fr1 r1 rs1
      simp only [Rs.bind] at q
      split at q
      · rename_i x y
        cases hx : kindB x with
        | none => rw [hx] at q; exact q.elim
        | some bl =>
          rw [hx] at q
          dsimp only at q
          cases hy : kindB y with
          | none => rw [hy] at q; exact q.elim
          | some bm =>
            rw [hy] at q
            cases r1 with
            | cons ra rr =>
              cases rr with
              | cons rb rr =>
                cases rr
                refine ⟨_, _, x, y, bl.1, bm.1, bl.2, bm.2, rfl, ra, rb, hx, hy, fun p H' accV hp ex hq rp => ?_⟩
                obtain ⟨h0, hn⟩ := fr1.back rs1 hp
                exact q _ H' ad1 (fr1.trans ex.fr) ⟨p, accV, rfl, h0, hn, hq, rp⟩ (rs1.ex ex)
      · exact q.elim
  · obtain ⟨x, y, dx, dy, b1, b2, l1, l2, rfl, rx, ry, kx, ky, q⟩ := q1
    obtain ⟨a1, xs, rfl, sx, rpx⟩ := kind_rep rx kx
    obtain ⟨a2, ys, rfl, sy, rpy⟩ := kind_rep ry ky
    cases r1 with
    | cons r rr =>
      cases rr with
      | cons r' rr =>
        cases rr
        cases r
        cases r'
        obtain ⟨its, rv, p1, z1, g1⟩ := seqB I1 sx
        obtain ⟨its2, rv2, p2, z2, g2⟩ := seqB I1 sy
        refine zip_begins2 (beB b1 a1 its.toArray) (beB b2 a2 its2.toArray) p1 p2 fun h' hz hTI hTO h1 h2 hsz hk => ?_
        have I2 : Inv X pins σ H1 { s1 with heap := h' } := I1.kept (t' := s1.toks) hk
        refine Calls.spliced_nil ?_
        refine zl_call (ap_new s1.heap.objs.size) g1 g2 (show _ = none from I.ok.hd hc) I2 sx rpx sy rpy ⟨.inl hz, hTI, ⟨_, _, hTO⟩, itB_new h1, itB_new h2⟩ (fun c hcm => ?_) q
        have hle := (ap_new s1.heap.objs.size).ge c hcm
        exact I1.fpOk hle (I1.hok.fresh hle)
end DL

set_option Elab.async false
set_option linter.all false
set_option maxRecDepth 100000
set_option maxHeartbeats 4000000
/-! D10: slices, isinstance, op=, stores into lists, append, extend, list(x), n * list, the empty dict. -/
namespace DL
open PySem PySem.Spec PyProof.Rows L2

/-! ### slices -/
def cutD (l : List PyData) (lo hi : Option Int) : List PyData := (l.drop (HT.sIx l.length 0 lo)).take (HT.sIx l.length l.length hi - HT.sIx l.length 0 lo)
def slD : PyData → Option Int → Option Int → Option PyData
  | .list l, lo, hi => some (.list (cutD l lo hi))
  | .tuple l, lo, hi => some (.tuple (cutD l lo hi))
  | .str z, lo, hi => some (.str (cutS z lo hi))
  | _, _, _ => none
theorem SlR.freeze {X : Cx} {r : V → Option Int → Option Int → Hp → VK → Prop} (h : SlR X r) : SlR X (fun x lo hi H Q => r x lo hi H fun v H' => ∃ a vs, v = .ref a ∧ H' a = some (.lst vs) ∧ ∀ o, Q v (upd H' a (.frz o (.lst vs)))) :=
  fun pins s σ H x v vl vu lo hi sl Q I rx hs pl pu q => by
    obtain ⟨T, id, h1, h2, h3⟩ := h pins s σ H x v vl vu lo hi sl _ I rx hs pl pu q
    exact ⟨T, id, h1, h2, thn h3 fun _ _ z => EP.freeze z⟩
def rSlD (K : PySem.W.Frag) : V → Option Int → Option Int → Hp → VK → Prop := fun x lo hi H Q => ∃ dx d, RepV K H x dx ∧ slD dx lo hi = some d ∧ ∀ v H', Ex H H' → Rep K H' v d → Q v H'
theorem cut_rep {K : PySem.W.Frag} {H : Hp} {vs : List V} {ds : List PyData} {lo hi : Option Int} (r : Reps K H vs ds) : Reps K H (cutV vs lo hi) (cutD ds lo hi) := by
  unfold cutV cutD
  rw [r.length]
  exact Reps.take _ (Reps.drop _ r)
theorem strOk_of {z : Str} {l : List Nat} (h : PyData.strOk z = true) (m : ∀ c ∈ l, c ∈ z.cps.toList) : PyData.strOk ⟨l.toArray⟩ = true := by
  unfold PyData.strOk at *
  rw [← Array.all_toList, List.all_eq_true] at *
  exact fun c hc => h c (m c (by simpa using hc))
theorem cutS_G {z : Str} {lo hi : Option Int} (h : strG z = true) : strG (cutS z lo hi) = true :=
  strG_mk (Nat.le_trans (cutS_length z lo hi) (strG_len h)) (strOk_of (strG_ok h) fun c hc => List.mem_of_mem_drop (List.mem_of_mem_take hc))
theorem sl_D {X : Cx} : SlR X (rSlD X.K) := by
  intro pins s σ H x v vl vu lo hi sl Q I rx hs pl pu ⟨dx, d, h, e, q⟩
  unfold slD at e
  split at e
  · cases e
    obtain ⟨a, vs, rfl, t, r⟩ := h.lst
    refine SlR.freeze sl_list pins s σ H _ v vl vu lo hi sl Q I rx hs pl pu ⟨a, vs, rfl, t, fun p hp => ⟨p, _, rfl, upd_same, fun o => ?_⟩⟩
    have ex : Ex H (upd (upd H p (.lst (cutV vs lo hi))) p (.frz o (.lst (cutV vs lo hi)))) := (Ex.new hp).upd2 hp
    exact q _ _ ex (.lst (.inl ⟨o, upd_same⟩) (Reps.stb ex.stb _ (cut_rep r)))
  · cases e
    obtain ⟨a, vs, rfl, t, r⟩ := h.tupT
    refine sl_tupA pins s σ H _ v vl vu lo hi sl Q I rx hs pl pu ⟨a, vs, rfl, t.sq, fun hw => ?_, fun _ p hp => ?_⟩
    · rename_i l0
      have ed : cutD l0 lo hi = l0 := by
        unfold cutD
        rw [← r.length, hw.1, hw.2]
        rw [r.length]
        simp
      refine q _ H (Ex.refl H) (.tup (by rw [ed]; exact t) ?_)
      have := cut_rep (lo := lo) (hi := hi) r
      have e2 : cutV vs lo hi = vs := by
        unfold cutV
        rw [hw.1, hw.2]
        simp
      rw [e2] at this
      exact this
    · have ex : Ex H (upd H p (.tup (cutV vs lo hi))) := Ex.new hp
      exact q _ _ ex (.tup (.inl upd_same) (Reps.stb ex.stb _ (cut_rep r)))
  · cases e
    obtain ⟨rfl, z⟩ := h.str
    exact sl_str pins s σ H _ v vl vu lo hi sl Q I rx hs pl pu ⟨_, rfl, strG_len z, q _ H (Ex.refl H) (.str _ (cutS_G z))⟩
  · cases e
abbrev OF := Rho → Sto → Rs (Option Int)
def tDO (K : PySem.W.Frag) (mg : Str → Option Value) (Wx : WX) (f : OF) : TO := fun σ H Q => ∃ ad ρ S, Sig K ad H σ ρ ∧ RS K ad H S ∧ post K mg Wx σ ad H (fun _ _ v b => v = b) (f ρ S) Q
abbrev DO (X : Cx) (Wx : WX) (e : Option Expr) (f : OF) : Prop := PO X e (tDO X.K X.mg Wx f)
theorem PO.conv {X : Cx} {e : Option Expr} {t t' : TO} (h : PO X e t) (c : ∀ σ H Q, t' σ H Q → t σ H Q) : PO X e t' := ⟨fun pins s σ H Q I q => h.run pins s σ H Q I (c _ _ _ q)⟩
def oNon : OF := fun _ S => .ok none S
def oSom (f : EF) : OF := fun ρ S => (f ρ S).bind fun w S1 => match w with
  | .d (.int i) => .ok (some i) S1
  | _ => .bad
def eSl (f : EF) (lo hi : OF) : EF := fun ρ S => (f ρ S).bind fun w S1 => (lo ρ S1).bind fun l S2 => (hi ρ S2).bind fun h S3 => match view S3 w with
  | some d => match slD d l h with
    | some r => .ok (.d r) S3
    | none => .bad
  | none => .bad
section
variable {X : Cx} {Wx : WX} {a b c e : Expr} {f g h : EF} {pos p2 : Pos}
theorem do_non : DO X Wx none oNon := PO.conv po_none fun σ H Q ⟨ad, ρ, S, sg, rs, q⟩ => q _ H ad (Fr.refl _ _) rfl rs
theorem do_som (ha : DE X Wx a f) : DO X Wx (some a) (oSom f) := PO.conv (po_some ha) fun σ H Q ⟨ad, ρ, S, sg, rs, q⟩ => by
  refine ⟨ad, ρ, S, sg, rs, post_mono (post_bind q) ?_⟩
  rintro x H1 ⟨ad1, w, S1, fr1, r1, rs1, q1⟩
  split at q1
  · cases r1
    exact ⟨_, rfl, q1 _ H1 ad1 (Fr.refl _ _) rfl rs1⟩
  · exact q1.elim
theorem de_sl {lo hi : Option Expr} {fl fh : OF} (ha : DE X Wx a f) (hl : DO X Wx lo fl) (hh : DO X Wx hi fh) : DE X Wx (.Subscript a (.Slice lo hi none p2) pos) (eSl f fl fh) := PE.conv (pe_slice sl_D ha hl hh) fun σ H Q ⟨ad, ρ, S, sg, rs, q⟩ => by
  refine ⟨ad, ρ, S, sg, rs, post_mono (post_bind q) ?_⟩
  rintro x H1 ⟨ad1, w, S1, fr1, r1, rs1, q1⟩
  refine ⟨ad1, ρ, S1, sg.fr fr1, rs1, post_mono (post_bind (Rel1 := fun _ _ v b => v = b) q1) ?_⟩
  rintro l H2 ⟨ad2, l2, S2, fr2, e2, rs2, q2⟩
  subst e2
  refine ⟨ad2, ρ, S2, (sg.fr fr1).fr fr2, rs2, post_mono (post_bind (Rel1 := fun _ _ v b => v = b) q2) ?_⟩
  rintro u H3 ⟨ad3, u2, S3, fr3, e3, rs3, q3⟩
  subst e3
  cases e1 : view S3 w with
  | none => rw [e1] at q3; exact q3.elim
  | some d =>
    rw [e1] at q3
    dsimp only at q3
    cases e4 : slD d l u with
    | none => rw [e4] at q3; exact q3.elim
    | some r =>
      rw [e4] at q3
      exact ⟨d, r, view_rep ((r1.fr fr2).fr fr3) rs3 e1, e4, fun v H' ex rv => q3 v H' ad3 ex.fr rv (rs3.ex ex)⟩

/-! ### isinstance -/
def tyD : PyData → String
  | .none => "NoneType"
  | .bool _ => "bool"
  | .int _ => "int"
  | .str _ => "str"
  | .list _ => "list"
  | .tuple _ => "tuple"
  | .dict _ => "dict"
def subT (t c : String) : Bool := t == c || (t == "bool" && c == "int")
def isTys : List String := ["bool", "int", "str", "list", "tuple", "dict"]
theorem kit_pure (K : PySem.W.Frag) (t c : String) : PySem.W.kitOne K (.type t) (.type c) = (if (Value.type t == Value.type c) = true then some true else if PySem.W.kitMeta c = true then (fastBuiltinMro t).map (·.contains (.type c)) else none) := rfl
theorem kit_ty (K : PySem.W.Frag) (d : PyData) {c : String} (hc : c ∈ isTys) : PySem.W.kitOne K (.type (tyD d)) (.type c) = some (subT (tyD d) c) := by
  have : ∀ t ∈ ["NoneType", "bool", "int", "str", "list", "tuple", "dict"], ∀ c ∈ isTys, PySem.W.kitOne K (.type t) (.type c) = some (subT t c) := by
    intro t ht c hc
    simp only [isTys, List.mem_cons, List.not_mem_nil, or_false] at ht hc
    rcases ht with rfl | rfl | rfl | rfl | rfl | rfl | rfl <;> rcases hc with rfl | rfl | rfl | rfl | rfl | rfl <;> (rw [kit_pure]; decide +kernel)
  exact this _ (by cases d <;> simp [tyD]) _ hc
/-- a dict with tuples as keys is asked nothing here -/
def isiOk : PyData → Bool
  | .dict l => l.all fun p => match p.1 with
    | .tuple _ => false
    | _ => true
  | _ => true
theorem RepV.tyX {K : PySem.W.Frag} {H : Hp} {v : V} {d : PyData} (h : RepV K H v d) (ok : isiOk d = true) : TyX K H v (.type (tyD d)) := by
  rcases h with h | ⟨a, e1, e2⟩
  · cases h with
    | non => exact .base .non
    | bl b => exact .base (.bl b)
    | int b => exact .base (.int b)
    | str b => exact .base (.str b)
    | lst t r =>
      rcases t with ⟨o, t⟩ | ⟨o, its, n, t1, t2, _⟩
      · exact .base (.frz t)
      · exact .kList t1 t2
    | tup t r =>
      rcases t.sq with (t | ⟨o, t⟩) | ⟨o, its, n, t1, t2, _⟩
      · exact .base (.tup t)
      · exact .fTuple t
      · exact .kTuple t1 t2
    | dic t r => exact .fDict t
    | dicT t r z =>
      cases r with
      | nil => exact absurd rfl z
      | cons _ _ => simp [isiOk] at ok
  · subst e1
    cases d with
    | list l =>
      obtain ⟨vs, e3, e4⟩ := e2
      exact .base (.lst e3)
    | dict l =>
      rcases e2 with ⟨ps, e3, _⟩ | ⟨ps, e3, _⟩
      · exact .base (.dK e3)
      · exact .base (.dT e3)
    | _ => exact e2.elim
def isiW (cs : List String) (w : Wv) (S : Sto) : Rs Wv := match view S w with
  | some d => if isiOk d = true then .ok (.d (.bool (cs.any fun c => subT (tyD d) c))) S else .bad
  | none => .bad
def eIsi (cs : List String) (f : EF) : EF := fun ρ S => (f ρ S).bind (isiW cs)
theorem pe_ty {T : String} {x : Str} {p : Pos} (hg : Gl X x) (hm : X.mg x = none) (hv : bootBuiltins x = some (.type T)) (hn : x ≠ "__name__" := by decide) (hd : (x == ("__debug__" : Str)) = false := by decide) : PE X (.Name x p) (tC (.ty T)) := pe_bltn hg hm hv rfl hn hd
theorem boot_isi : bootBuiltins "isinstance" = some (.builtin "isinstance") := by decide +kernel
theorem de_isi {T : String} {x : Str} {p p1 : Pos} (hgi : Gl X "isinstance") (hmi : X.mg "isinstance" = none) (ha : DE X Wx a f) (hT : T ∈ isTys) (ht : PE X (.Name x p1) (tC (.ty T)))
    (h0 : starEach [a, .Name x p1] X.env = (false, eval a X.env) :: starEach [.Name x p1] X.env := by rfl) (h1 : starEach [.Name x p1] X.env = (false, eval (.Name x p1) X.env) :: starEach [] X.env := by rfl)
    (hpl : (backTo pos (starEach [.Name x p1] X.env)).any (·.1) = false := by rfl) : DE X Wx (.Call (.Name "isinstance" p) [a, .Name x p1] [] pos) (eIsi [T] f) :=
  PE.conv (pe_callB call_isi hgi hmi boot_isi (pa_cons ha (pa_cons ht pa_nil h1) h0) (by decide) (by decide) h0 hpl) fun σ H Q ⟨ad, ρ, S, sg, rs, q⟩ => by
    refine ⟨ad, ρ, S, sg, rs, post_mono (post_bind q) ?_⟩
    rintro v H1 ⟨ad1, w, S1, fr1, r1, rs1, q1⟩
    unfold isiW at q1
    cases e : view S1 w with
    | none => rw [e] at q1; exact q1.elim
    | some d =>
      rw [e] at q1
      dsimp only at q1
      split at q1
      case isFalse => exact q1.elim
      rename_i hok
      refine ⟨v, .ty T, _, _, _, rfl, .ty T, (view_rep r1 rs1 e).tyX hok, kit_ty X.K d hT, ?_⟩
      have q1 := q1 (.bl _) H1 ad1 (Fr.refl _ _) (.bl _) rs1
      rw [List.any_cons, List.any_nil, Bool.or_false] at q1
      exact q1
theorem de_isi2 {T T' : String} {x x' : Str} {p p1 p2 tp : Pos} {kt : Nat} (hgi : Gl X "isinstance") (hmi : X.mg "isinstance" = none) (ha : DE X Wx a f) (hT : T ∈ isTys) (hT' : T' ∈ isTys) (ht : PE X (.Name x p1) (tC (.ty T))) (ht' : PE X (.Name x' p2) (tC (.ty T')))
    (h0 : starEach [a, .Tuple [.Name x p1, .Name x' p2] kt tp] X.env = (false, eval a X.env) :: starEach [.Tuple [.Name x p1, .Name x' p2] kt tp] X.env := by rfl)
    (h1 : starEach [.Tuple [.Name x p1, .Name x' p2] kt tp] X.env = (false, eval (.Tuple [.Name x p1, .Name x' p2] kt tp) X.env) :: starEach [] X.env := by rfl)
    (h2 : starEach [.Name x p1, .Name x' p2] X.env = (false, eval (.Name x p1) X.env) :: starEach [.Name x' p2] X.env := by rfl) (h3 : starEach [.Name x' p2] X.env = (false, eval (.Name x' p2) X.env) :: starEach [] X.env := by rfl)
    (hpl : (backTo pos (starEach [.Tuple [.Name x p1, .Name x' p2] kt tp] X.env)).any (·.1) = false := by rfl) : DE X Wx (.Call (.Name "isinstance" p) [a, .Tuple [.Name x p1, .Name x' p2] kt tp] [] pos) (eIsi [T, T'] f) :=
  PE.conv (pe_callB call_isiT hgi hmi boot_isi (pa_cons ha (pa_cons (pe_tup (pa_cons ht (pa_cons ht' pa_nil h3) h2)) pa_nil h1) h0) (by decide) (by decide) h0 hpl) fun σ H Q ⟨ad, ρ, S, sg, rs, q⟩ => by
    refine ⟨ad, ρ, S, sg, rs, post_mono (post_bind q) ?_⟩
    rintro v H1 ⟨ad1, w, S1, fr1, r1, rs1, q1⟩
    unfold isiW at q1
    cases e : view S1 w with
    | none => rw [e] at q1; exact q1.elim
    | some d =>
      rw [e] at q1
      dsimp only at q1
      split at q1
      case isFalse => exact q1.elim
      rename_i hok
      refine ⟨by show 2 ≤ sizeLine; decide, fun tp htp => ?_⟩
      have ex : Ex H1 (upd H1 tp (.tup [.ty T, .ty T'])) := Ex.new htp
      refine ⟨v, tp, [.ty T, .ty T'], _, [.type T, .type T'], ([T, T'].any fun c => subT (tyD d) c), rfl, upd_same, .cons (.ty T) (.cons (.ty T') .nil), ((view_rep r1 rs1 e).ex ex).tyX hok, ?_, q1 _ _ ad1 ex.fr (.bl _) (rs1.ex ex)⟩
      unfold PySem.W.kitAny
      rw [kit_ty X.K d hT]
      cases h5 : subT (tyD d) T with
      | true => simp [h5]
      | false =>
        unfold PySem.W.kitAny
        dsimp only
        rw [kit_ty X.K d hT']
        cases h6 : subT (tyD d) T' <;> simp [PySem.W.kitAny, h5, h6]

/-! ### name op= e -/
def OpI (X : Cx) (op : Operator) (g : PyData → PyData → Option PyData) : Prop := PIp X op (rP2 X.K g)
def iaddD : PyData → PyData → Option PyData
  | .int i, .int j => some (.int (i + j))
  | _, _ => none
theorem ipd_iadd : OpI X .Add iaddD := by
  intro pins s σ H x y v u Q I rx ry ⟨dx, dy, d, h1, h2, e, q⟩
  unfold iaddD at e
  split at e
  · cases e
    cases h1.int; cases h2.int
    exact ip_add pins s σ H _ _ v u Q I rx ry ⟨_, _, rfl, rfl, q _ H (Ex.refl H) (.int _)⟩
  · cases e
theorem ipd_sub : OpI X .Sub subD := by
  intro pins s σ H x y v u Q I rx ry ⟨dx, dy, d, h1, h2, e, q⟩
  unfold subD at e
  split at e
  · cases e
    cases h1.int; cases h2.int
    exact ip_sub pins s σ H _ _ v u Q I rx ry ⟨_, _, rfl, rfl, q _ H (Ex.refl H) (.int _)⟩
  · cases e
def sAug (i : Nat) (g : PyData → PyData → Option PyData) (f : EF) : SF := fun ρ S => match ρ[i]? with
  | some (some w) => bindS ((f ρ S).bind fun y S1 => op2 g w y S1) ρ fun z S2 => .fl (.nx (ρ.set i (some z))) S2
  | _ => .bad
theorem ds_aug {op : Operator} {g0 : PyData → PyData → Option PyData} {i : Nat} {x : Str} {pos' : Pos} (hN : X.N.Nodup) (hi : X.N[i]? = some x) (hx : Loc X.env.scope x) (he : DE X Wx e f) (ho : OpI X op g0) (hf : X.fn x = true ∨ X.env.scope.names.lookup x = some .local := by first | exact .inl rfl | exact .inr rfl | assumption) :
    DS X Wx (.AugAssign (.Name x pos') op e pos) (sAug i g0 f) := PS.conv (ps_aug hN hi hx he ho hf) fun D σ H ⟨ad, ρ, S, sg, rs, q⟩ => by
  unfold sAug at q
  cases e0 : ρ[i]? with
  | none => rw [e0] at q; exact q.elim
  | some o =>
    rw [e0] at q
    cases o with
    | none => exact q.elim
    | some w =>
      obtain ⟨v, e1, r⟩ := sg.sl i w e0
      refine ⟨v, e1, ad, ρ, S, sg, rs, ?_⟩
      dsimp only at q
      refine post_mono (post_bind (Rel2 := RepW X.K) (k := fun y S1 => op2 g0 w y S1) (Q := fun z H2 => D.nx (σ.set i (some z)) H2) ?_) ?_
      · refine post_mono (bindS_post (Rel := RepW X.K) sg q) ?_
        rintro z H2 ⟨ad2, w2, S2, fr2, r2, rs2, q2⟩
        exact q2 _ H2 ad2 (Fr.refl _ _) ((sg.fr fr2).set i r2) rs2
      · rintro y H1 ⟨ad1, w1, S1, fr1, r1, rs1, q1⟩
        exact op2_post q1 (r.fr fr1) r1 rs1

/-! ### a changing list is changed -/
def ownL (S : Sto) (w : Wv) : Option (Nat × List PyData) := match w with
  | .own k => match S[k]? with
    | some (.lst l) => some (k, l)
    | _ => none
  | _ => none
theorem ownL_rep {K : PySem.W.Frag} {ad : List Addr} {H : Hp} {S : Sto} {v : V} {w : Wv} {k : Nat} {l : List PyData} (r : RepW K ad H v w) (rs : RS K ad H S) (e : ownL S w = some (k, l)) :
    ∃ a vs, v = .ref a ∧ ad[k]? = some a ∧ H a = some (.lst vs) ∧ Reps K H vs l := by
  unfold ownL at e
  split at e
  · rename_i j
    split at e
    · rename_i l' hk
      cases e
      obtain ⟨a, ha, rfl⟩ := r
      obtain ⟨a', ha', vs, h1, h2⟩ := rs.ob _ _ hk
      rw [ha] at ha'; cases ha'
      exact ⟨a, vs, rfl, ha, h1, h2⟩
    · cases e
  · cases e
/-- the list at k is written anew -/
theorem put_own {K : PySem.W.Frag} {ad : List Addr} {H : Hp} {S : Sto} {a : Addr} {vs us : List V} {k : Nat} {m : List PyData} (rs : RS K ad H S) (ha : ad[k]? = some a) (e : H a = some (.lst vs)) (r : Reps K H us m) :
    Fr ad H ad (upd H a (.lst us)) ∧ RS K ad (upd H a (.lst us)) (S.set k (.lst m)) := by
  refine ⟨⟨⟨[], by simp⟩, fun b u q hb => ?_, fun _ h h' => absurd h h', stb_upd e⟩, rs_set rs ha e ⟨us, upd_same, Reps.stb (stb_upd e) _ r⟩⟩
  have : b ≠ a := fun z => hb (z ▸ List.mem_of_getElem? ha)
  rw [upd_ne this]; exact .of q
def ixSet (l : List PyData) (i : Int) (x : PyData) : Option (List PyData) := (ixN l.length i).map fun j => l.set j x
/-- o[i] = e, o a changing list -/
def sPut (fo fi fe : EF) : SF := fun ρ S => bindS ((fe ρ S).bind frzW) ρ fun x S1 => bindS (fo ρ S1) ρ fun o S2 => bindS (fi ρ S2) ρ fun i S3 => match ownL S3 o with
  | some (k, l) => match i with
    | .d (.int j) => match x with
      | .d d => match ixSet l j d with
        | some l' => .fl (.nx ρ) (S3.set k (.lst l'))
        | none => .bad
      | _ => .bad
    | _ => .bad
  | none => .bad
theorem ds_put (ho : DE X Wx a f) (hi : DE X Wx b g) (he : DE X Wx e h) (hs : swapsWithSole [.Subscript a b p2] e pos.line X.env = pure false := by rfl) (hw : swappedStores [.Subscript a b p2] e X.env = pure none := by rfl)
    (h1 : (assignEach [.Subscript a b p2] X.env).map (·.2) = [assign (.Subscript a b p2) X.env] := by rfl)
    (hh : ∀ v, assign (.Subscript a b p2) X.env v = (do
      let ov ← holding [v] (eval a X.env)
      let iv ← holding [v, ov] (eval b X.env)
      standAt p2
      holding [v, ov, iv] (setItem ov iv v)
      release [v, ov, iv] []) := by intro _; rfl) : DS X Wx (.Assign [.Subscript a b p2] e pos) (sPut f g h) := PS.conv (ps_asg (de_frz he) (pg_sub ho hi set_list hh) hs hw h1) fun D σ H ⟨ad, ρ, S, sg, rs, q⟩ => by
  refine ⟨ad, ρ, S, sg, rs, post_mono (bindS_post (Rel := RepW X.K) sg q) ?_⟩
  rintro x H1 ⟨ad1, wx, S1, fr1, r1, rs1, q1⟩
  refine ⟨ad1, ρ, S1, sg.fr fr1, rs1, post_mono (bindS_post (Rel := RepW X.K) (sg.fr fr1) q1) ?_⟩
  rintro o H2 ⟨ad2, wo, S2, fr2, r2, rs2, q2⟩
  refine ⟨ad2, ρ, S2, (sg.fr fr1).fr fr2, rs2, post_mono (bindS_post (Rel := RepW X.K) ((sg.fr fr1).fr fr2) q2) ?_⟩
  rintro i H3 ⟨ad3, wi, S3, fr3, r3, rs3, q3⟩
  cases e1 : ownL S3 wo with
  | none => rw [e1] at q3; exact q3.elim
  | some kl =>
    obtain ⟨k, l⟩ := kl
    rw [e1] at q3
    dsimp only at q3
    split at q3
    · split at q3
      · rename_i j _ d
        cases e2 : ixSet l j d with
        | none => rw [e2] at q3; exact q3.elim
        | some l' =>
          rw [e2] at q3
          unfold ixSet at e2
          cases e3 : ixN l.length j with
          | none => rw [e3] at e2; cases e2
          | some n =>
            rw [e3] at e2
            cases e2
            obtain ⟨p, vs, rfl, ha, hl, rp⟩ := ownL_rep (r2.fr fr3) rs3 e1
            cases r3
            have rx : RepW X.K ad3 H3 x (.d d) := (r1.fr fr2).fr fr3
            obtain ⟨f1, f2⟩ := put_own (m := l.set n d) rs3 ha hl (Reps.set n rp rx)
            exact ⟨p, vs, j, n, rfl, rfl, hl, by rw [rp.length]; exact e3, q3 σ _ ad3 f1 ((((sg.fr fr1).fr fr2).fr fr3).fr f1) f2⟩
      · exact q3.elim
    · exact q3.elim
theorem get_list : PGet X (fun o i H Q => ∃ p xs k x, o = .ref p ∧ i = .int k ∧ SqL X.K H p xs ∧ atI xs k = some x ∧ Q x H) := by
  intro pins s σ H o i ov iv Q I ro ri ⟨p, xs, k, z, h1, h2, hq, he, q⟩
  subst h1 h2
  cases ro
  obtain ⟨t, rfl⟩ := ri
  obtain ⟨its, r, pl, hz⟩ := I.list hq
  obtain ⟨j, h1, h2, h3, h4, h5⟩ := atI_get he
  obtain ⟨w, ew, rw'⟩ := r.get h2
  have hl := r.length
  have hn := line63
  have fin : EP X pins σ Q w s := ⟨z, H, I, rw', q⟩
  by_cases h0 : 0 ≤ k
  · have hj : k.toNat = j := by
      rw [seqIndex_of h0 h5] at h1
      exact Option.some.inj h1
    exact wpAny_getItem_list pl.isList h0 (by omega) (by rw [hj]; simpa using ew) fin
  · have hj : (k + (its.toArray.size : Int)).toNat = j := by
      rw [seqIndex_neg (by omega) h4] at h1
      rw [List.size_toArray, ← hl]
      exact Option.some.inj h1
    exact wpAny_getItem_list_neg pl.isList (by omega) (by rw [List.size_toArray] <;> omega) (by omega) (by rw [hj]; simpa using ew) fin
/-- o[i] op= e, o a changing list -/
def sAugI (g0 : PyData → PyData → Option PyData) (fo fi fe : EF) : SF := fun ρ S => bindS (fo ρ S) ρ fun o S1 => bindS (fi ρ S1) ρ fun i S2 => match i with
  | .d (.int j) => match ownL S2 o with
    | some (_, l) => match atI l j with
      | some x => bindS (fe ρ S2) ρ fun y S3 => match view S3 y with
        | some dy => match g0 x dy with
          | some z => match ownL S3 o with
            | some (k, l') => match ixSet l' j z with
              | some l2 => .fl (.nx ρ) (S3.set k (.lst l2))
              | none => .bad
            | none => .bad
          | none => .bad
        | none => .bad
      | none => .bad
    | none => .bad
  | _ => .bad
theorem ds_augI {op : Operator} {g0 : PyData → PyData → Option PyData} (ho : DE X Wx a f) (hi : DE X Wx b g) (he : DE X Wx e h) (hop : OpI X op g0)
    (ha : ∀ ov iv new, augStore b ov iv new = (do holding [new, ov, iv] (setItem ov iv new); release [new, ov, iv] []; pure .next) := by intros; rfl) : DS X Wx (.AugAssign (.Subscript a b p2) op e pos) (sAugI g0 f g h) := PS.conv (ps_augS ho hi get_list he hop set_list ha) fun D σ H ⟨ad, ρ, S, sg, rs, q⟩ => by
  refine ⟨ad, ρ, S, sg, rs, post_mono (bindS_post (Rel := RepW X.K) sg q) ?_⟩
  rintro o H1 ⟨ad1, wo, S1, fr1, r1, rs1, q1⟩
  refine ⟨ad1, ρ, S1, sg.fr fr1, rs1, post_mono (bindS_post (Rel := RepW X.K) (sg.fr fr1) q1) ?_⟩
  rintro i H2 ⟨ad2, wi, S2, fr2, r2, rs2, q2⟩
  have sg2 := (sg.fr fr1).fr fr2
  split at q2
  · rename_i j
    cases e1 : ownL S2 wo with
    | none => rw [e1] at q2; exact q2.elim
    | some kl =>
      obtain ⟨k, l⟩ := kl
      rw [e1] at q2
      dsimp only at q2
      cases e2 : atI l j with
      | none => rw [e2] at q2; exact q2.elim
      | some x =>
        rw [e2] at q2
        dsimp only at q2
        obtain ⟨p, vs, rfl, ha, hl, rp⟩ := ownL_rep (r1.fr fr2) rs2 e1
        cases r2
        obtain ⟨xv, ex1, ex2⟩ := atI_rep rp e2
        refine ⟨p, vs, j, xv, rfl, rfl, SqL.of hl, ex1, ad2, ρ, S2, sg2, rs2, post_mono (bindS_post (Rel := RepW X.K) sg2 q2) ?_⟩
        rintro y H3 ⟨ad3, wy, S3, fr3, r3, rs3, q3⟩
        cases e3 : view S3 wy with
        | none => rw [e3] at q3; exact q3.elim
        | some dy =>
          rw [e3] at q3
          dsimp only at q3
          cases e4 : g0 x dy with
          | none => rw [e4] at q3; exact q3.elim
          | some z =>
            rw [e4] at q3
            dsimp only at q3
            cases e5 : ownL S3 wo with
            | none => rw [e5] at q3; exact q3.elim
            | some kl2 =>
              obtain ⟨k2, l2⟩ := kl2
              rw [e5] at q3
              dsimp only at q3
              cases e6 : ixSet l2 j z with
              | none => rw [e6] at q3; exact q3.elim
              | some l3 =>
                rw [e6] at q3
                refine ⟨x, dy, z, .inl (Rep.stb fr3.stb _ ex2), view_rep r3 rs3 e3, e4, fun zv H4 ex rz => ?_⟩
                have fr4 : Fr ad3 H3 ad3 H4 := ex.fr
                have rs4 := rs3.ex ex
                obtain ⟨p2, vs2, ep, ha2, hl2, rp2⟩ := ownL_rep (((r1.fr fr2).fr fr3).fr fr4) rs4 e5
                cases ep
                unfold ixSet at e6
                cases e7 : ixN l2.length j with
                | none => rw [e7] at e6; cases e6
                | some n =>
                  rw [e7] at e6
                  cases e6
                  obtain ⟨f1, f2⟩ := put_own (m := l2.set n z) rs4 ha2 hl2 (Reps.set n rp2 rz)
                  exact ⟨p, vs2, j, n, rfl, rfl, hl2, by rw [rp2.length]; exact e7, q3 σ _ ad3 (fr4.trans f1) (((sg2.fr fr3).fr fr4).fr f1) f2⟩
  · exact q2.elim
end
end DL

set_option Elab.async false
set_option linter.all false
set_option maxRecDepth 100000
set_option maxHeartbeats 4000000
/-! D11: append, extend, pop; new lists; n * list; the empty dict; starred items. -/
namespace DL
open PySem PySem.Spec PyProof.Rows L2
section
variable {X : Cx} {Wx : WX} {o e : Expr} {es : List Expr} {f g : EF} {m : MF} {apos cpos pos p2 : Pos}

def noTab (S : Sto) (k : Nat) : Bool := match S[k]? with
  | some (.tab _ _) => false
  | some (.dct _) => false
  | some (.fdc _) => false
  | _ => true
def eApp (fo fe : EF) : EF := fun ρ S => (fo ρ S).bind fun w S1 => match w with
  | .own k => if noTab S1 k = false then .bad else (fe ρ S1).bind fun x S2 => match ownL S2 (.own k) with
    | some (k, l) => match x with
      | .d d => if l.length < sizeLine then .ok (.d .none) (S2.set k (.lst (l ++ [d]))) else .bad
      | _ => .bad
    | none => .bad
  | _ => .bad
theorem ty_own {K : PySem.W.Frag} {H : Hp} {a : Addr} {vs : List V} (h : H a = some (.lst vs)) : tyV K "list" (.ref a) H := .inl ⟨rfl, vs, SqL.of h⟩
/-- what stands in the store is a list, before its arguments come -/
theorem own_ty {K : PySem.W.Frag} {ad : List Addr} {H : Hp} {S : Sto} {v : V} {k : Nat} (nt : ¬ noTab S k = false) (r : RepW K ad H v (.own k)) (rs : RS K ad H S) : tyV K "list" v H := by
  obtain ⟨a, ha, rfl⟩ := r
  have hk : k < S.length := by rw [← rs.len]; exact (List.getElem?_eq_some_iff.mp ha).1
  obtain ⟨a', e1, e2⟩ := rs.ob k S[k] (by simp [hk])
  rw [ha] at e1; cases e1
  have hnt : noTab S k = match S[k] with | .tab _ _ => false | .dct _ => false | .fdc _ => false | _ => true := by
    unfold noTab
    rw [List.getElem?_eq_getElem hk]
    cases S[k] <;> rfl
  rw [hnt] at nt
  revert e2 nt
  cases S[k] with
  | tab P q => exact fun nt => absurd rfl nt
  | dct l => exact fun nt => absurd rfl nt
  | fdc l => exact fun nt => absurd rfl nt
  | lst l => exact fun _ ⟨vs, h, _⟩ => .inl ⟨rfl, vs, SqL.of h⟩
  | frz l => exact fun _ ⟨vs, o, h, _⟩ => .inl ⟨rfl, vs, .inl (.inr ⟨o, h⟩)⟩
theorem de_append (ho : DE X Wx o f) (he : DE X Wx e g) (hbase : attributeBase o "append" X.env (eval o X.env) = eval o X.env := by rfl)
    (hfew : ((backTo cpos (starEach [e] X.env)).all (fun x => !x.1) && (backToKw cpos (keywordEach [] X.env)).all (fun x => x.1.isSome)
      && decide ([e].length + ([] : List Keyword).length + (if ([] : List Keyword).isEmpty then 0 else 1) < 30)) = true := by rfl)
    (hline : (apos.endLine == cpos.line) = true := by rfl) (hs : starEach [e] X.env = (false, eval e X.env) :: starEach [] X.env := by rfl) : DE X Wx (.Call (.Attribute o "append" apos) [e] [] cpos) (eApp f (eFrz g)) :=
  PE.conv (pe_bm PySem.F.plainAttrs_list PySem.F.slot_list_append PySem.F.type_list_append mt_append ho (pa_cons (de_frz he) pa_nil hs) hbase hfew hline hs rfl) fun σ H Q ⟨ad, ρ, S, sg, rs, q⟩ => by
    refine ⟨ad, ρ, S, sg, rs, post_mono (post_bind q) ?_⟩
    rintro x H1 ⟨ad1, w, S1, fr1, r1, rs1, q1⟩
    cases w with
    | d _ => exact q1.elim
    | fn _ _ _ => exact q1.elim
    | own k0 =>
    dsimp only at q1
    split at q1
    · exact q1.elim
    rename_i nt
    refine ⟨own_ty nt r1 rs1, ad1, ρ, S1, sg.fr fr1, rs1, post_mono (post_bind q1) ?_⟩
    rintro y H2 ⟨ad2, wy, S2, fr2, r2, rs2, q2⟩
    cases e1 : ownL S2 (.own k0) with
    | none => rw [e1] at q2; exact q2.elim
    | some kl =>
      obtain ⟨k, l⟩ := kl
      rw [e1] at q2
      dsimp only at q2
      split at q2
      · split at q2
        · rename_i d hz
          obtain ⟨a, vs, rfl, ha, hl, rp⟩ := ownL_rep (r1.fr fr2) rs2 e1
          obtain ⟨f1, f2⟩ := put_own (m := l ++ [d]) rs2 ha hl (Reps.append rp (.cons r2 .nil))
          exact ⟨a, vs, y, rfl, rfl, hl, by rw [rp.length]; exact hz, q2 _ _ ad2 f1 .non f2⟩
        · exact q2.elim
      · exact q2.elim
def eExt (fo : EF) (m : MF) : EF := fun ρ S => (fo ρ S).bind fun w S1 => match w with
  | .own k => if noTab S1 k = false then .bad else (m ρ S1).bind fun x S2 => match ownL S2 (.own k) with
    | some (k, l) => if l.length + x.length ≤ sizeLine then .ok (.d .none) (S2.set k (.lst (l ++ x))) else .bad
    | none => .bad
  | _ => .bad
theorem de_extend (ho : DE X Wx o f) (he : DM X Wx e m) (hbase : attributeBase o "extend" X.env (eval o X.env) = eval o X.env := by rfl)
    (hfew : ((backTo cpos (starEach [e] X.env)).all (fun x => !x.1) && (backToKw cpos (keywordEach [] X.env)).all (fun x => x.1.isSome)
      && decide ([e].length + ([] : List Keyword).length + (if ([] : List Keyword).isEmpty then 0 else 1) < 30)) = true := by rfl)
    (hline : (apos.endLine == cpos.line) = true := by rfl) (hs : starEach [e] X.env = (false, eval e X.env) :: starEach [] X.env := by rfl) : DE X Wx (.Call (.Attribute o "extend" apos) [e] [] cpos) (eExt f m) :=
  PE.conv (pe_bm PySem.F.plainAttrs_list PySem.F.slot_list_extend PySem.F.type_list_extend mt_extend ho (pa_cons he pa_nil hs) hbase hfew hline hs rfl) fun σ H Q ⟨ad, ρ, S, sg, rs, q⟩ => by
    refine ⟨ad, ρ, S, sg, rs, post_mono (post_bind q) ?_⟩
    rintro x H1 ⟨ad1, w, S1, fr1, r1, rs1, q1⟩
    cases w with
    | d _ => exact q1.elim
    | fn _ _ _ => exact q1.elim
    | own k0 =>
    dsimp only at q1
    split at q1
    · exact q1.elim
    rename_i nt
    refine ⟨own_ty nt r1 rs1, ad1, ρ, S1, sg.fr fr1, rs1, ?_⟩
    revert q1
    cases m ρ S1 with
    | bad => exact fun z => z
    | exc x S2 => exact fun z => z
    | ok xs S2 =>
      rintro q1 y H2 ad2 fr2 ⟨p, us, rfl, h0, hn, hp, rpx⟩ rs2
      simp only [Rs.bind] at q1
      cases e1 : ownL S2 (.own k0) with
      | none => rw [e1] at q1; exact q1.elim
      | some kl =>
        obtain ⟨k, l⟩ := kl
        rw [e1] at q1
        dsimp only at q1
        split at q1
        · rename_i hz
          obtain ⟨a, vs, rfl, ha, hl, rp⟩ := ownL_rep (r1.fr fr2) rs2 e1
          obtain ⟨f1, f2⟩ := put_own (m := l ++ xs) rs2 ha hl (Reps.append rp rpx)
          exact ⟨a, p, vs, us, rfl, rfl, hl, hp, by rw [rp.length, rpx.length]; exact hz, q1 _ _ ad2 (fr2.trans f1) .non f2⟩
        · exact q1.elim

/-! ### new lists -/
/-- list(x), x a list or a tuple -/
def mLstOf (l : LF) : MF := fun ρ S => (l ρ S).bind fun ws S1 => match ws with
  | [w] => match view S1 w with
    | some (.list l) => .ok l S1
    | some (.tuple l) => .ok l S1
    | _ => .bad
  | _ => .bad
theorem dm_listof {l : LF} {p : Pos} (hg : Gl X "list") (hm : X.mg "list" = none) (ha : DA X Wx (e :: es) l)
    (he : starEach (e :: es) X.env = (false, eval e X.env) :: starEach es X.env := by rfl) (hpl : (backTo pos (starEach es X.env)).any (·.1) = false := by rfl) : DM X Wx (.Call (.Name "list" p) (e :: es) [] pos) (mLstOf l) :=
  PE.conv (pe_callTy call_list_of hg hm PyProof.Rows.boot_list ha (by decide) (by decide) he hpl) fun σ H Q ⟨ad, ρ, S, sg, rs, q⟩ => by
    refine ⟨ad, ρ, S, sg, rs, ?_⟩
    unfold mLstOf at q
    revert q
    cases l ρ S with
    | bad => exact fun z => z
    | exc x S2 => exact fun z => z
    | ok ws S1 =>
      rintro q vs H1 ad1 fr1 r1 rs1
      simp only [Rs.bind] at q
      split at q
      · cases r1 with
        | cons r rr =>
          cases rr
          split at q
          · rename_i l0 e0
            obtain ⟨a, us, rfl, t, rp⟩ := (view_rep r rs1 e0).lst
            refine ⟨a, us, rfl, .inl t, fun p hp => ?_⟩
            obtain ⟨h0, hn⟩ := fr1.back rs1 hp
            have ex : Ex H1 (upd H1 p (.lst us)) := Ex.new hp
            exact q _ _ ad1 (fr1.trans ex.fr) ⟨p, us, rfl, h0, hn, upd_same, Reps.stb ex.stb _ rp⟩ (rs1.ex ex)
          · rename_i l0 e0
            obtain ⟨a, us, rfl, t, rp⟩ := (view_rep r rs1 e0).tup
            refine ⟨a, us, rfl, .inr t, fun p hp => ?_⟩
            obtain ⟨h0, hn⟩ := fr1.back rs1 hp
            have ex : Ex H1 (upd H1 p (.lst us)) := Ex.new hp
            exact q _ _ ad1 (fr1.trans ex.fr) ⟨p, us, rfl, h0, hn, upd_same, Reps.stb ex.stb _ rp⟩ (rs1.ex ex)
          · exact q.elim
      · exact q.elim
/-- a new list times an int -/
def mRep (m : MF) (f : EF) : MF := fun ρ S => (m ρ S).bind fun l S1 => (f ρ S1).bind fun w S2 => match w with
  | .d (.int k) => if k ≤ 1000 ∧ 0 ≤ k ∧ l.length ≤ 1000 then .ok (List.replicate k.toNat l).flatten S2 else .bad
  | _ => .bad
theorem Reps.rep {K : PySem.W.Frag} {H : Hp} {vs : List V} {l : List PyData} (r : Reps K H vs l) : ∀ n, Reps K H (List.replicate n vs).flatten (List.replicate n l).flatten
  | 0 => .nil
  | n + 1 => by
    rw [List.replicate_succ, List.replicate_succ, List.flatten_cons, List.flatten_cons]
    exact Reps.append r (Reps.rep r n)
theorem dm_rep {k : Nat} {i : Int} (he : DM X Wx o m) : DM X Wx (.BinOp o .Mult (.Constant (.int i) k p2) pos) (mRep m (eC (.int i))) := PE.conv (pe_op op_rep he (pe_int (i := i))) fun σ H Q ⟨ad, ρ, S, sg, rs, q⟩ => by
  refine ⟨ad, ρ, S, sg, rs, ?_⟩
  unfold mRep eC at q
  revert q
  cases m ρ S with
  | bad => exact fun z => z
  | exc x S2 => exact fun z => z
  | ok xs S1 =>
    rintro q y H1 ad1 fr1 ⟨p, us, rfl, h0, hn, hp, rp⟩ rs1
    simp only [Rs.bind] at q
    split at q
    · rename_i hz
      obtain ⟨z1, z2, z3⟩ := hz
      have h9 : xs.length * i.toNat ≤ 1000 * 1000 := Nat.mul_le_mul z3 (by omega)
      have h8 : (1000 * 1000 : Nat) ≤ sizeLine := by decide
      refine ⟨p, i, us, rfl, rfl, hp, by omega, by omega, by rw [rp.length]; omega, fun p2 hp2 => ?_⟩
      obtain ⟨h02, hn2⟩ := fr1.back rs1 hp2
      have ex : Ex H1 (upd H1 p2 (.lst (List.replicate i.toNat us).flatten)) := Ex.new hp2
      exact q _ _ ad1 (fr1.trans ex.fr) ⟨p2, _, rfl, h02, hn2, upd_same, Reps.stb ex.stb _ (Reps.rep rp _)⟩ (rs1.ex ex)
    · exact q.elim

/-! ### the empty dict -/
theorem freezeK {pins : List (Addr × Obj)} {σ : L2.St} {H : Hp} {s : Shared} {a : Addr} {kvs : List (Key × V)} (I : Inv X pins σ H s) (h : H a = some (.dK kvs)) :
    ∃ o, Inv X pins σ (upd H a (.frz o (.dK kvs))) s := by
  have ok := I.hok a _ h
  obtain ⟨z, hd, vs, kv, o, es, ep, e, ex⟩ := id ok
  refine ⟨o, ?_⟩
  have ne : ∀ {b : Addr} {o : HO}, H b = some o → (∀ xs, o ≠ .dK xs) → b ≠ a := fun {b o} hb hn z => by
    subst z
    rw [h] at hb
    cases hb
    exact hn _ rfl
  have un : Un X.fs [] H (upd H a (.frz o (.dK kvs))) s.heap s.heap := by
    refine ⟨fun b o q _ _ _ => q, fun b o q _ _ _ => ⟨o.slots, q⟩, fun b o q hn _ => ?_, fun b o q _ => ⟨o, q⟩, fun b xs q => ?_, fun b o u q => ?_, fun b ps q => ⟨#[], ?_⟩⟩
    · have : b ≠ a := fun z => by subst z; rw [h] at hn; cases hn
      rw [upd_ne this]; exact hn
    · rw [upd_ne (ne q fun _ z => nomatch z)]; exact q
    · rw [upd_ne (ne q fun _ z => nomatch z)]; exact q
    · rw [upd_ne (ne q fun _ z => nomatch z), q]; simp
  have hok : HOk X.prog X.w (upd H a (.frz o (.dK kvs))) s.heap := fun b u q => by
    by_cases hb : b = a
    · subst hb
      rw [upd_same] at q; cases q
      exact ⟨e, ok⟩
    · rw [upd_ne hb] at q
      refine (I.hok b u q).stay (fun c v _ r => r) (fun c r => ?_) fun c xs r => ?_
      · rw [upd_ne (ne r fun _ z => nomatch z)]; exact r
      · rw [upd_ne (ne r fun _ z => nomatch z)]; exact r
  have := I.un (h' := s.heap) (t' := s.toks) un hok
  exact this
theorem de_dic0 : DE X Wx (.Dict [] [] pos) (eC (.dict [])) := by
  have p : PE X (.Dict [] [] pos) (fun σ H Q => ∀ p, H p = none → ∀ o, Q (.ref p) (upd (upd H p (.dK [])) p (.frz o (.dK [])))) := ⟨fun pins s σ H Q I q => by
    refine thn (pe_dnewK.run pins s σ H (fun v H' => ∃ p, v = .ref p ∧ H p = none ∧ H' = upd H p (.dK [])) I fun p hp => ⟨p, rfl, hp, rfl⟩) fun v s1 ⟨x, H1, I1, r1, p, e1, hp, e2⟩ => ?_
    subst e1 e2
    obtain ⟨o, I2⟩ := freezeK I1 upd_same
    exact ⟨_, _, I2, r1, q p hp o⟩⟩
  refine PE.conv p fun σ H Q ⟨ad, ρ, S, sg, rs, q⟩ p hp o => ?_
  have ex : Ex H (upd (upd H p (.dK [])) p (.frz o (.dK []))) := (Ex.new hp).upd2 hp
  exact q _ _ ad ex.fr (.dic upd_same .nil) (rs.ex ex)

/-! ### starred items -/
def lStar (f : EF) (l : LF) : LF := fun ρ S => ((f ρ S).bind frzW).bind fun w S1 => match w with
  | .d (.list xs) => (l ρ S1).bind fun ys S2 => .ok (xs.map Wv.d ++ ys) S2
  | .d (.tuple xs) => (l ρ S1).bind fun ys S2 => .ok (xs.map Wv.d ++ ys) S2
  | _ => .bad
end
end DL

set_option Elab.async false
set_option linter.all false
set_option maxRecDepth 100000
set_option maxHeartbeats 4000000
/-! D12: methods of texts; list(text); starred items. -/
namespace DL
open PySem PySem.Spec PyProof.Rows L2

/-! ### methods of texts, by data -/
def rMP (K : PySem.W.Frag) (g : Str → List PyData → Option PyData) : V → List V → Hp → VK → Prop := fun x vs H Q => ∃ z ds d, x = .str z ∧ RepVs K H vs ds ∧ g z ds = some d ∧ strG z = true ∧ ∀ v H', Ex H H' → Rep K H' v d → Q v H'
def MtP (X : Cx) (id : String) (g : Str → List PyData → Option PyData) : Prop := MtR X id (rMP X.K g)
def eMet (g : Str → List PyData → Option PyData) (fo : EF) (l : LF) : EF := fun ρ S => (fo ρ S).bind fun w S1 => match w with
  | .d (.str z) => (l ρ S1).bind fun ws S2 => match views S2 ws with
    | some ds => match g z ds with
      | some d => .ok (.d d) S2
      | none => .bad
    | none => .bad
  | _ => .bad
section
variable {X : Cx} {Wx : WX} {o e : Expr} {es : List Expr} {f : EF} {l : LF} {g : Str → List PyData → Option PyData} {name : Str} {id : String} {apos cpos : Pos}
theorem de_met (slot : Slot "str" name id) (hty : typeOf (.builtin id) = pure (.type "method_descriptor")) (hm : MtP X id g) (ho : DE X Wx o f) (ha : DA X Wx (e :: es) l)
    (hbase : attributeBase o name X.env (eval o X.env) = eval o X.env := by rfl)
    (hfew : ((backTo cpos (starEach (e :: es) X.env)).all (fun x => !x.1) && (backToKw cpos (keywordEach [] X.env)).all (fun x => x.1.isSome)
      && decide ((e :: es).length + ([] : List Keyword).length + (if ([] : List Keyword).isEmpty then 0 else 1) < 30)) = true := by rfl)
    (hline : (apos.endLine == cpos.line) = true := by rfl) (hs : starEach (e :: es) X.env = (false, eval e X.env) :: starEach es X.env := by rfl) (hplain : (backTo cpos (starEach es X.env)).any (·.1) = false := by rfl) :
    DE X Wx (.Call (.Attribute o name apos) (e :: es) [] cpos) (eMet g f l) :=
  PE.conv (pe_bm PySem.F.plainAttrs_str slot hty hm ho ha hbase hfew hline hs hplain) fun σ H Q ⟨ad, ρ, S, sg, rs, q⟩ => by
    refine ⟨ad, ρ, S, sg, rs, post_mono (post_bind q) ?_⟩
    rintro x H1 ⟨ad1, w, S1, fr1, r1, rs1, q1⟩
    split at q1
    · rename_i z
      obtain ⟨rfl, hz⟩ : x = .str z ∧ strG z = true := by cases r1 with | str _ h => exact ⟨rfl, h⟩
      refine ⟨rfl, ad1, ρ, S1, sg.fr fr1, rs1, post_mono (post_bind q1) ?_⟩
      rintro vs H2 ⟨ad2, ws, S2, fr2, r2, rs2, q2⟩
      cases e1 : views S2 ws with
      | none => rw [e1] at q2; exact q2.elim
      | some ds =>
        rw [e1] at q2
        dsimp only at q2
        cases e2 : g z ds with
        | none => rw [e2] at q2; exact q2.elim
        | some d =>
          rw [e2] at q2
          exact ⟨z, ds, d, rfl, views_rep rs2 r2 e1, e2, hz, fun v H' ex r => q2 v H' ad2 ex.fr r (rs2.ex ex)⟩
    · exact q1.elim
theorem de_met0 (slot : Slot "str" name id) (hty : typeOf (.builtin id) = pure (.type "method_descriptor")) (hm : MtP X id g) (ho : DE X Wx o f)
    (hbase : attributeBase o name X.env (eval o X.env) = eval o X.env := by rfl) (hline : (apos.endLine == cpos.line) = true := by rfl) :
    DE X Wx (.Call (.Attribute o name apos) [] [] cpos) (eMet g f lNil) :=
  PE.conv (pe_bm0 PySem.F.plainAttrs_str slot hty hm ho hbase hline) fun σ H Q ⟨ad, ρ, S, sg, rs, q⟩ => by
    refine ⟨ad, ρ, S, sg, rs, post_mono (post_bind q) ?_⟩
    rintro x H1 ⟨ad1, w, S1, fr1, r1, rs1, q1⟩
    split at q1
    · rename_i z
      obtain ⟨rfl, hz⟩ : x = .str z ∧ strG z = true := by cases r1 with | str _ h => exact ⟨rfl, h⟩
      refine ⟨rfl, ?_⟩
      simp only [lNil, Rs.bind, views] at q1
      cases e2 : g z [] with
      | none => rw [e2] at q1; exact q1.elim
      | some d =>
        rw [e2] at q1
        exact ⟨z, [], d, rfl, .nil, e2, hz, fun v H' ex r => q1 v H' ad1 ex.fr r (rs1.ex ex)⟩
    · exact q1.elim
end
theorem MtR.freeze {X : Cx} {id : String} {r : V → List V → Hp → VK → Prop} (h : MtR X id r) : MtR X id (fun x xs H Q => r x xs H fun v H' => ∃ a vs, v = .ref a ∧ H' a = some (.lst vs) ∧ ∀ o, Q v (upd H' a (.frz o (.lst vs)))) :=
  fun pins s σ H x xs v us Q I rx rs q => thn (h pins s σ H x xs v us _ I rx rs q) fun _ _ z => EP.freeze z
def splitG : Str → List PyData → Option PyData
  | a, [.str b] => if (b.length == 0) = false ∧ a.length + 2 ≤ sizeLine ∧ ((Txt.split a b).all strG) = true then some (.list ((Txt.split a b).map PyData.str)) else none
  | _, _ => none
theorem strsReps {K : PySem.W.Frag} {H : Hp} : ∀ {ys : List Str}, ys.all strG = true → Reps K H (ys.map V.str) (ys.map PyData.str)
  | [], _ => .nil
  | y :: ys, h => by
    rw [List.all_cons, Bool.and_eq_true] at h
    exact .cons (.str _ h.1) (strsReps h.2)
section
variable {X : Cx}
theorem mp_split : MtP X "str.split" splitG := by
  intro pins s σ H x xs v us Q I rx rs ⟨z, ds, d, ex, h, e, hz, q⟩
  subst ex
  unfold splitG at e
  split at e
  · rename_i b
    split at e
    · rename_i hc
      cases e
      obtain ⟨y, rfl, r1⟩ := repV1 h
      obtain ⟨rfl, z1⟩ := r1.str
      refine MtR.freeze mt_split pins s σ H _ _ v us Q I rx rs ⟨_, _, rfl, rfl, hc.1, hc.2.1, fun p hp => ⟨p, _, rfl, upd_same, fun o => ?_⟩⟩
      have ex : Ex H (upd (upd H p (.lst ((Txt.split z b).map V.str))) p (.frz o (.lst ((Txt.split z b).map V.str)))) := (Ex.new hp).upd2 hp
      exact q _ _ ex (.lst (.inl ⟨o, upd_same⟩) (strsReps hc.2.2))
    · cases e
  · cases e
def joinG : Str → List PyData → Option PyData
  | a, [.list l] => match strsD l with
    | some ys => if (ys.map (·.length)).sum + ys.length * a.length ≤ 16777216 ∧ strG (Txt.join a ys) = true then some (.str (Txt.join a ys)) else none
    | none => none
  | _, _ => none
theorem mp_join : MtP X "str.join" joinG := by
  intro pins s σ H x xs v us Q I rx rs ⟨z, ds, d, ex, h, e, hz, q⟩
  subst ex
  unfold joinG at e
  split at e
  · rename_i l
    cases hs : strsD l with
    | none => rw [hs] at e; cases e
    | some ys =>
      rw [hs] at e
      dsimp only at e
      split at e
      · rename_i hc
        cases e
        obtain ⟨y, rfl, r1⟩ := repV1 h
        obtain ⟨a, vs, rfl, t, rr⟩ := r1.lst
        obtain ⟨e1, e2⟩ := strs_rep rr hs
        subst e1
        exact mt_join pins s σ H _ _ v us Q I rx rs ⟨_, _, ys, rfl, rfl, .inl t, hc.1, q _ H (Ex.refl H) (.str _ hc.2)⟩
      · cases e
  · cases e
def indexG : Str → List PyData → Option PyData
  | a, [.str b] => match Builtin.Str.occurrences a b 0 a.length 1 with
    | i :: _ => some (.int (i : Nat))
    | [] => none
  | _, _ => none
theorem mp_index : MtP X "str.index" indexG := by
  intro pins s σ H x xs v us Q I rx rs ⟨z, ds, d, ex, h, e, hz, q⟩
  subst ex
  unfold indexG at e
  split at e
  · split at e
    · rename_i i r ho
      cases e
      obtain ⟨y, rfl, r1⟩ := repV1 h
      obtain ⟨rfl, z1⟩ := r1.str
      exact mt_sindex pins s σ H _ _ v us Q I rx rs ⟨_, _, i, r, rfl, rfl, ho, q _ H (Ex.refl H) (.int _)⟩
    · cases e
  · cases e
end
def strGG : List PyData → Option PyData := fun ds => match ds with
    | [.int i] => if i.natAbs.log2 < 1920 ∧ strG (toString i) = true then some (.str (toString i)) else none
    | [.str x] => some (.str x)
    | _ => none
theorem cp_str {X : Cx} : CallP X (.type "str") strGG := by
  intro pins s σ H xs us Q I r ⟨ds, d, h, e, q⟩
  unfold strGG at e
  split at e
  · split at e
    · rename_i hc
      cases e
      obtain ⟨x, rfl, r1⟩ := repV1 h
      cases r1.int
      exact call_str_int pins s σ H _ us Q I r ⟨_, rfl, hc.1, q _ H (Ex.refl H) (.str _ hc.2)⟩
    · cases e
  · cases e
    obtain ⟨x, rfl, r1⟩ := repV1 h
    obtain ⟨rfl, z⟩ := r1.str
    exact SkE.call_str_str pins s σ H _ us Q I r ⟨_, rfl, q _ H (Ex.refl H) (.str _ z)⟩
  · cases e
/-! ### starred items -/
section
variable {X : Cx} {Wx : WX} {e : Expr} {es : List Expr} {f : EF} {l : LF} {p : Pos}
theorem reps_ws {K : PySem.W.Frag} {ad : List Addr} {H : Hp} : ∀ {vs : List V} {xs : List PyData}, Reps K H vs xs → RepWs K ad H vs (xs.map Wv.d)
  | _, _, .nil => .nil
  | _, _, .cons h t => .cons h (reps_ws t)
theorem repWs_append {K : PySem.W.Frag} {ad : List Addr} {H : Hp} : ∀ {vs us : List V} {ws xs : List Wv}, RepWs K ad H vs ws → RepWs K ad H us xs → RepWs K ad H (vs ++ us) (ws ++ xs)
  | _, _, _, _, .nil, h => h
  | _, _, _, _, .cons r t, h => .cons r (repWs_append t h)
theorem da_star (ha : DE X Wx e f) (hb : DA X Wx es l) (hs : starEach (.Starred e p :: es) X.env = (true, eval e X.env) :: starEach es X.env := by rfl) : DA X Wx (.Starred e p :: es) (lStar f l) := PA.conv (StX.pa_star (de_frz ha) hb hs) fun σ H Q ⟨ad, ρ, S, sg, rs, q⟩ => by
  refine ⟨ad, ρ, S, sg, rs, post_mono (post_bind q) ?_⟩
  rintro x H1 ⟨ad1, w, S1, fr1, r1, rs1, q1⟩
  split at q1
  · rename_i xs
    cases r1 with
    | lst t rp =>
      refine ⟨_, _, rfl, .inr t.sq, ad1, ρ, S1, sg.fr fr1, rs1, post_mono (post_bind (Rel1 := RepWs X.K) q1) ?_⟩
      rintro ys H2 ⟨ad2, ws, S2, fr2, r2, rs2, q2⟩
      exact q2 _ H2 ad2 (Fr.refl _ _) (repWs_append (reps_ws (Reps.stb fr2.stb _ rp)) r2) rs2
  · rename_i xs
    cases r1 with
    | tup t rp =>
      refine ⟨_, _, rfl, .inl t.sq, ad1, ρ, S1, sg.fr fr1, rs1, post_mono (post_bind (Rel1 := RepWs X.K) q1) ?_⟩
      rintro ys H2 ⟨ad2, ws, S2, fr2, r2, rs2, q2⟩
      exact q2 _ H2 ad2 (Fr.refl _ _) (repWs_append (reps_ws (Reps.stb fr2.stb _ rp)) r2) rs2
  · exact q1.elim

/-! ### list(a text) -/
def mSigns (l : LF) : MF := fun ρ S => (l ρ S).bind fun ws S1 => match ws with
  | [.d (.str z)] => .ok (signsD z) S1
  | _ => .bad
theorem call_signs (hc : X.calm = true) : CallR X (.type "list") (fun xs H Q => ∃ z, xs = [.str z] ∧ strG z = true ∧ ∀ p, H p = none → Q (.ref p) (upd H p (.lst (z.cps.toList.map fun c => V.str ⟨#[c]⟩)))) := by
  intro pins s σ H xs us Q I r ⟨z, e, hz, q⟩
  subst e
  obtain ⟨u, rfl, t, rfl⟩ := r.one
  refine call_list_str (hn := strG_len hz) (I.ok.hd hc) z t fun h' tk acc c hk hS ha => ?_
  have hacc : Vals (z.cps.toList.map fun c => V.str ⟨#[c]⟩) acc.toList := by
    obtain ⟨hsz, hat⟩ := ha
    have key : ∀ (cs : List Nat) (vs : List Value), cs.length = vs.length → (∀ (j : Nat) (c : Nat) (v : Value), cs[j]? = some c → vs[j]? = some v → ∃ u, v = .str ⟨#[c]⟩ u) → Vals (cs.map fun c => V.str ⟨#[c]⟩) vs := by
      intro cs
      induction cs with
      | nil => intro vs hl _; cases vs with
        | nil => exact .nil
        | cons _ _ => simp at hl
      | cons c cs ih =>
        intro vs hl h
        cases vs with
        | nil => simp at hl
        | cons v vs =>
          obtain ⟨u, e⟩ := h 0 c v rfl rfl
          exact .cons ⟨u, e⟩ (ih vs (by simpa using hl) fun j c' v' h1 h2 => h (j + 1) c' v' (by simpa using h1) (by simpa using h2))
    refine key _ _ (by simp [hsz]) fun j c v h1 h2 => ?_
    obtain ⟨c', u, e1, e2⟩ := hat j v (by rw [← Array.getElem?_toList]; exact h2)
    rw [Array.getElem?_toList, e1] at h1
    cases h1
    exact ⟨u, e2⟩
  refine ⟨.ref s.heap.objs.size, _, I.laid (t' := tk) (o := .lst (z.cps.toList.map fun c => V.str ⟨#[c]⟩)) hk (Nat.le_refl _) ⟨?_, acc.toList, c, hacc, ?_⟩, rfl, q _ I.fresh⟩
  · rw [List.length_map, Array.length_toList]; exact strG_len hz
  · exact hS
theorem dm_signs {p pos : Pos} (hc : X.calm = true) (hg : Gl X "list") (hm : X.mg "list" = none) (ha : DA X Wx [e] l)
    (he : starEach [e] X.env = (false, eval e X.env) :: starEach [] X.env := by rfl) : DM X Wx (.Call (.Name "list" p) [e] [] pos) (mSigns l) :=
  PE.conv (pe_callTy (call_signs hc) hg hm PyProof.Rows.boot_list ha (by decide) (by decide) he rfl) fun σ H Q ⟨ad, ρ, S, sg, rs, q⟩ => by
    refine ⟨ad, ρ, S, sg, rs, ?_⟩
    unfold mSigns at q
    revert q
    cases l ρ S with
    | bad => exact fun z => z
    | exc x S2 => exact fun z => z
    | ok ws S1 =>
      rintro q vs H1 ad1 fr1 r1 rs1
      simp only [Rs.bind] at q
      split at q
      · rename_i z
        cases r1 with
        | cons r rr =>
          cases rr
          cases r with
          | str _ hz =>
            refine ⟨z, rfl, hz, fun p hp => ?_⟩
            obtain ⟨h0, hn⟩ := fr1.back rs1 hp
            have ex : Ex H1 (upd H1 p (.lst (z.cps.toList.map fun c => V.str ⟨#[c]⟩))) := Ex.new hp
            refine q _ _ ad1 (fr1.trans ex.fr) ⟨p, _, rfl, h0, hn, upd_same, ?_⟩ (rs1.ex ex)
            have : ∀ cs : List Nat, (∀ c ∈ cs, c ∈ z.cps.toList) → Reps X.K (upd H1 p (.lst (z.cps.toList.map fun c => V.str ⟨#[c]⟩))) (cs.map fun c => V.str ⟨#[c]⟩) (cs.map fun c => PyData.str ⟨#[c]⟩) := by
              intro cs
              induction cs with
              | nil => exact fun _ => .nil
              | cons c cs ih => exact fun h => .cons (.str _ (sign_G hz (h c (by simp)))) (ih fun d hd => h d (by simp [hd]))
            exact this _ fun _ h => h
      · exact q.elim
end
end DL

set_option Elab.async false
set_option linter.all false
set_option maxRecDepth 100000
set_option maxHeartbeats 4000000
/-! D13: the ends: constants of the module, the law's own promise. -/
namespace DL
open PySem PySem.Spec PyProof.Rows L2
theorem Fn.mono {P : Program} {w : World} {K : PySem.W.Frag} {mg : Str → Option Value} {base : Heap} {j k : Nat} {x : Str} {n : Nat} {sem : FD} (F : Fn P w K mg base j x n sem) (h : j ≤ k) : Fn P w K mg base k x n sem := by
  obtain ⟨f, fd, ps, F1, r⟩ := F.ex
  exact ⟨f, fd, ps, F1.mono h, r⟩
theorem gv_str {K : PySem.W.Frag} {mg : Str → Option Value} {x z : Str} {t : Tok} (h : mg x = some (.str z t)) (g : strG z = true := by decide +kernel) : Gv K mg x (.str z) := ⟨_, .str z, h, ⟨t, rfl⟩, fun _ => .str z g⟩
theorem gv_int {K : PySem.W.Frag} {mg : Str → Option Value} {x : Str} {i : Int} {t : Tok} (h : mg x = some (.int i t)) : Gv K mg x (.int i) := ⟨_, .int i, h, ⟨t, rfl⟩, fun _ => .int i⟩
theorem gv_tup {K : PySem.W.Frag} {mg : Str → Option Value} {x : Str} {a : Addr} {od : Option Addr} {its : Array Value} {n : Nat} {sl : Array (Option Value)} {vs : List V} {ds : List PyData} (h : mg x = some (.ref a)) (l : K.lookup a = some ⟨.type "tuple", od, .seq its n, sl⟩)
    (hz : its.size ≤ sizeLine) (hv : Vals vs its.toList) (hr : ∀ H, Reps K H vs ds) (hk : kst ds = true := by rfl) : Gv K mg x (.tuple ds) := ⟨_, .ref a, h, rfl, fun H => .tup (.inr ⟨hk, .inr ⟨_, its, n, l, rfl, rfl, hz, hv⟩⟩) (hr H)⟩
/-- what the law's def promises -/
def spLawD (K : PySem.W.Frag) : Sp := fun vs H Q _ => ∃ (a : Addr) (ns : List Int), vs = [.ref a] ∧ FzL K H a (ns.map V.int) ∧ ns.length ≤ 63 ∧ (∀ z ∈ ns, Builtin.Int.intBits z ≤ 1048576) ∧ ∀ H', Q (.bl true) H'
theorem reps_ints {K : PySem.W.Frag} {H : Hp} : ∀ ns : List Int, Reps K H (ns.map V.int) (ns.map PyData.int)
  | [] => .nil
  | n :: ns => .cons (.int n) (reps_ints ns)
theorem law_fn {P : Program} {w : World} {K : PySem.W.Frag} {mg : Str → Option Value} {base : Heap} {k : Nat} {f : Addr} {fd : FuncData} {ps : List Str} {sem : FD} (F : FnOk P w K mg base (L2.CX P w) k f fd ps (spD K mg 1 sem))
    (hl : ∀ ns : List Int, ns.length ≤ 63 → (∀ z ∈ ns, Builtin.Int.intBits z ≤ 1048576) → sem [.d (.list (ns.map PyData.int))] [] = .ok (.d (.bool true)) []) : FnOk P w K mg base (L2.CX P w) k f fd ps (spLawD K) := F.imp fun vs H Q E h => by
  obtain ⟨a, ns, rfl, hf, hn, hb, q⟩ := h
  refine ⟨rfl, [], [.d (.list (ns.map PyData.int))], [], .cons (.lst hf (reps_ints ns)) .nil, ⟨rfl, List.nodup_nil, fun k o e => by simp at e⟩, ?_⟩
  rw [hl ns hn hb]
  intro v H' ad' fr r rs
  cases r
  exact q H'
theorem only_fz {K : PySem.W.Frag} {H : Hp} {a : Addr} {xs : List V} (o : Only H) (h : SqL K H a xs) : FzL K H a xs := by
  rcases h with (h | h) | h
  · rcases o a with z | ⟨_, _, z⟩
    · rw [z] at h; cases h
    · rw [z] at h; cases h
  · exact .inl h
  · exact .inr h
theorem noCX {P : Program} {w : World} {H : Hp} {s : Shared} {e : Value} {s' : Shared} (h : L2.CX P w [] H s (fun _ _ _ => False) e s') : False := by
  obtain ⟨_, _, _, _, _, _, _, _, _, _, _, _, z⟩ := h
  exact z.elim
theorem walkD {l : PySem.W.OpenLaw} {k : Nat} {q : Program} {loose : List Str} {XP : (Str → Option Value) → Heap → Prop} {YP : World → Heap → Prop} {d : DefRec} {K : Params → PySem.W.Frag} (hn : l.most = some 63) (hdf : d.params.defaults = []) (hr : Room k callerA)
    (hY : ∀ (w : World) (h : Heap), YP w h → (K w.params).In h)
    (F : ∀ (w : World) (mg : Str → Option Value) (fa : Addr) (h : Heap), (K w.params).In h → h.Ns mainGlobals mg → mg d.name = some (.ref fa) →
      ∃ fd : FuncData, (∀ (s : Shared) (u : Value), BindsTo s fd ⟨[u], []⟩ [("script", u)]) ∧ ∀ base : Heap, (K w.params).In base → base.Ns mainGlobals mg → FnOk l.prog w (K w.params) mg base (L2.CX l.prog w) k fa fd ["script"] (spLawD (K w.params))) :
    PySem.W.WalkO q loose XP YP l.row.toRowW d [] (fun f vs => PySem.call f vs) :=
  L2.walk_ofB (n := 63) (k := k) (x := "script") (CX := fun w => L2.CX l.prog w) (sp := fun w => spLawD (K w.params)) hn (by decide) hdf hr hY F (fun _ _ a ns hl hb ho hS => ⟨a, ns, rfl, only_fz ho hS, hl, hb, fun _ => rfl⟩) fun _ _ _ _ _ z => noCX z
end DL

set_option Elab.async false
set_option linter.all false
set_option maxRecDepth 100000
set_option maxHeartbeats 4000000
/-! D14: changing dicts ({}, d[k] = v, d[k] op= v, get), pop of lists. -/
namespace DL
open PySem PySem.Spec PyProof.Rows L2

/-! ### a new thing in the store -/
theorem store_new {K : PySem.W.Frag} {ad : List Addr} {H : Hp} {S : Sto} {p : Addr} {u : HO} {m : MO} (rs : RS K ad H S) (h0 : H p = none) (ob : ObR K (upd H p u) p m) :
    Fr ad H (ad ++ [p]) (upd H p u) ∧ RepW K (ad ++ [p]) (upd H p u) (.ref p) (.own S.length) ∧ RS K (ad ++ [p]) (upd H p u) (S ++ [m]) := by
  have ex : Ex H (upd H p u) := Ex.new h0
  have hp : p ∉ ad := fun hm => by
    obtain ⟨w, e⟩ := rs.here hm
    rw [h0] at e; cases e
  have hl := rs.len
  refine ⟨⟨⟨[p], rfl⟩, fun a o e hn => .of (ex a o e), fun a ha hn => ?_, ex.stb⟩, ⟨p, by rw [← hl]; simp, rfl⟩, ⟨by simp [hl], ?_, fun (k : Nat) (o : MO) z => ?_⟩⟩
  · rcases List.mem_append.mp ha with z | z
    · exact absurd z hn
    · have : a = p := by simpa using z
      rw [this]; exact h0
  · rw [List.nodup_append]
    exact ⟨rs.nd, by simp, fun a ha b hb z => by
      have : b = p := by simpa using hb
      subst z this
      exact hp ha⟩
  · by_cases hk : k < S.length
    · rw [List.getElem?_append_left hk] at z
      obtain ⟨a, z1, z2⟩ := rs.ob k o z
      exact ⟨a, by rw [List.getElem?_append_left (by rw [hl]; exact hk)]; exact z1, z2.ex ex⟩
    · rw [List.getElem?_append_right (by omega)] at z
      have hk2 : k - S.length = 0 := by
        by_cases hh : k - S.length = 0
        · exact hh
        · rw [List.getElem?_eq_none (by simp; omega)] at z; cases z
      rw [hk2] at z
      simp at z
      subst z
      refine ⟨p, ?_, ob⟩
      rw [List.getElem?_append_right (by omega), hl, hk2]; rfl
/-- {} that will be changed -/
def eDNew : EF := fun _ S => .ok (.own S.length) (S ++ [.dct []])
theorem de_dnew {X : Cx} {Wx : WX} {pos : Pos} : DE X Wx (.Dict [] [] pos) eDNew := PE.conv pe_dnewK fun σ H Q ⟨ad, ρ, S, sg, rs, q⟩ => by
  intro p hp
  obtain ⟨a1, a2, a3⟩ := store_new (u := .dK []) (m := .dct []) rs hp (.inl ⟨[], upd_same, .nil⟩)
  exact q _ _ _ a1 a2 a3

/-! ### an empty dict turns into one of tuples -/
def tConv (te : TE) : TE := fun σ H Q => te σ H fun v H' => Q v H' ∨ ∃ a, H' a = some (.dK []) ∧ Q v (upd H' a (.dT []))
theorem dT_ok {X : Cx} {H : Hp} {h : Heap} {a : Addr} (ok : ObjOk X.prog X.w H h a (.dK [])) : ObjOk X.prog X.w H h a (.dT []) := by
  obtain ⟨_, hd, vs, rel, o, es, ep, h1, h2, h3, _, h5, _⟩ := ok
  cases rel
  refine ⟨Nat.zero_le _, hd, [], .nil, o, es, ep, h1, h2, h3, ?_, List.nodup_nil⟩
  have := PySem.Pairs.length h5
  exact List.eq_nil_of_length_eq_zero (by simpa using this)
theorem pe_conv {X : Cx} {e : Expr} {te : TE} (h : PE X e te) : PE X e (tConv te) := ⟨fun pins s σ H Q I q => thn (h.run pins s σ H _ I q) fun _ _ ⟨v, H', I', r, z⟩ => by
  rcases z with z | ⟨a, e, z⟩
  · exact ⟨v, H', I', r, z⟩
  · exact ⟨v, _, changeU (u' := .dT []) I' e trivial trivial (dT_ok (I'.hok a _ e)), r, z⟩⟩

/-! ### d[k] = v -/
def ownD (S : Sto) (w : Wv) : Option (Nat × List (PyData × PyData)) := match w with
  | .own k => match S[k]? with
    | some (.dct l) => some (k, l)
    | _ => none
  | _ => none
theorem ownD_rep {K : PySem.W.Frag} {ad : List Addr} {H : Hp} {S : Sto} {v : V} {w : Wv} {k : Nat} {l : List (PyData × PyData)} (r : RepW K ad H v w) (rs : RS K ad H S) (e : ownD S w = some (k, l)) :
    ∃ a, v = .ref a ∧ ad[k]? = some a ∧ S[k]? = some (.dct l) ∧ ObD K H a l := by
  unfold ownD at e
  split at e
  · rename_i j
    split at e
    · rename_i l' hk
      cases e
      obtain ⟨a, ha, rfl⟩ := r
      obtain ⟨a', ha', ob⟩ := rs.ob _ _ hk
      rw [ha] at ha'; cases ha'
      exact ⟨a, rfl, ha, hk, ob⟩
    · cases e
  · cases e
def dputOk (l : List (PyData × PyData)) (k : PyData) : Bool := kindOk l k && keyOk k && decide (l.length < sizeLine)
theorem putD_ne {l : List (PyData × PyData)} {k v : PyData} : putD l k v ≠ [] := by
  unfold putD
  split
  · rename_i h
    intro z
    rw [List.map_eq_nil_iff] at z
    subst z
    simp at h
  · simp
/-- the dict at k is written anew -/
theorem put_dic {K : PySem.W.Frag} {ad : List Addr} {H : Hp} {S : Sto} {a : Addr} {u u' : HO} {k : Nat} {m : List (PyData × PyData)} (rs : RS K ad H S) (ha : ad[k]? = some a) (e : H a = some u) (c : Chg u) (ob : ObD K (upd H a u') a m) :
    Fr ad H ad (upd H a u') ∧ RS K ad (upd H a u') (S.set k (.dct m)) := by
  refine ⟨⟨⟨[], by simp⟩, fun b w q hb => ?_, fun _ h h' => absurd h h', stb_upd e c⟩, rs_set rs ha e ob c⟩
  have : b ≠ a := fun z => hb (z ▸ List.mem_of_getElem? ha)
  rw [upd_ne this]; exact .of q
/-- the ways to put -/
theorem dic_put {K : PySem.W.Frag} {ad : List Addr} {H : Hp} {S : Sto} {a : Addr} {l : List (PyData × PyData)} {k : Nat} {y v : V} {i x : PyData} (rs : RS K ad H S) (ha : ad[k]? = some a) (ob : ObD K H a l) (ok : dputOk l i = true) (ry : Rep K H y i) (rv : Rep K H v x) :
    (∃ H4, DPut H a y v H4 ∧ Fr ad H ad H4 ∧ RS K ad H4 (S.set k (.dct (putD l i x)))) ∨
    (H a = some (.dK []) ∧ ∃ H4, DPut (upd H a (.dT [])) a y v H4 ∧ Fr ad H ad H4 ∧ RS K ad H4 (S.set k (.dct (putD l i x)))) := by
  unfold dputOk at ok
  rw [Bool.and_eq_true, Bool.and_eq_true] at ok
  obtain ⟨⟨hk, hko⟩, hz⟩ := ok
  have hz := of_decide_eq_true hz
  unfold kindOk at hk
  rw [Bool.and_eq_true] at hk
  obtain ⟨kk, ek⟩ := Option.isSome_iff_exists.mp hk.1
  have hall := List.all_eq_true.mp hk.2
  rcases key_val (.inl ry) ek hko with ⟨c, rfl, rfl, rfl⟩ | ⟨b, c, rfl, rfl, rfl, hc⟩
  · rcases ob with ⟨ps, h1, h2⟩ | ⟨ps, h1, h2, h3⟩
    · have st := stb_upd (o := HO.dK (putK ps c v)) h1
      obtain ⟨f1, f2⟩ := put_dic (m := putD l (kD c) x) (u' := .dK (putK ps c v)) rs ha h1 trivial (.inl ⟨_, upd_same, RepKV.put c (Rep.stb st _ rv) (RepKV.stb st _ h2)⟩)
      exact .inl ⟨_, .inl ⟨ps, c, h1, rfl, by rw [RepKV.length h2]; exact hz, rfl⟩, f1, f2⟩
    · exfalso
      cases h2 with
      | nil => exact h3 rfl
      | cons h t =>
        have := hall _ (List.mem_cons_self ..)
        cases c <;> simp [isTupD, kD] at this
  · rcases ob with ⟨ps, h1, h2⟩ | ⟨ps, h1, h2, h3⟩
    · cases h2 with
      | nil =>
        have hne : c ≠ a := fun z => by rw [z, h1] at hc; cases hc
        have st := stb_upd (o := HO.dT (putK [] (b.map Sum.inl) v)) h1
        obtain ⟨f1, f2⟩ := put_dic (m := putD [] (.tuple (b.map PyData.int)) x) (u' := .dT (putK [] (b.map Sum.inl) v)) rs ha h1 trivial (.inr ⟨_, upd_same, RepTV.put b (Rep.stb st _ rv) .nil, putD_ne⟩)
        refine .inr ⟨h1, _, .inr ⟨[], _, c, upd_same, rfl, by rw [upd_ne hne]; exact hc, by show 0 < sizeLine; decide, rfl⟩, ?_, ?_⟩
        · rw [upd_upd]; exact f1
        · rw [upd_upd]; exact f2
      | @cons k' v' vs d ds h t =>
        exfalso
        have := hall _ (List.mem_cons_self ..)
        cases k' <;> simp [isTupD, kD] at this
    · have st := stb_upd (o := HO.dT (putK ps (b.map Sum.inl) v)) h1
      obtain ⟨f1, f2⟩ := put_dic (m := putD l (.tuple (b.map PyData.int)) x) (u' := .dT (putK ps (b.map Sum.inl) v)) rs ha h1 trivial (.inr ⟨_, upd_same, RepTV.put b (Rep.stb st _ rv) (RepTV.stb st _ h2), putD_ne⟩)
      exact .inl ⟨_, .inr ⟨ps, _, c, h1, rfl, hc, by rw [RepTV.length h2]; exact hz, rfl⟩, f1, f2⟩
def sDput (fo fi fe : EF) : SF := fun ρ S => bindS ((fe ρ S).bind frzW) ρ fun x S1 => bindS (fo ρ S1) ρ fun o S2 => bindS (fi ρ S2) ρ fun i S3 => match ownD S3 o with
  | some (k, l) => match i with
    | .d j => match x with
      | .d d => if dputOk l j = true then .fl (.nx ρ) (S3.set k (.dct (putD l j d))) else .bad
      | _ => .bad
    | _ => .bad
  | none => .bad
section
variable {X : Cx} {Wx : WX} {a b e : Expr} {f g h : EF} {pos p2 : Pos}
theorem ds_dput (hu : X.A.units + 64 < cLine) (ho : DE X Wx a f) (hi : DE X Wx b g) (he : DE X Wx e h) (hs : swapsWith e (some (.Subscript a b p2)) pos.line X.env = pure false := by rfl) :
    DS X Wx (.Assign [.Subscript a b p2] e pos) (sDput f g h) := PS.conv (ps_dput (by omega) ho (pe_conv hi) (de_frz he) hs) fun D σ H ⟨ad, ρ, S, sg, rs, q⟩ => by
  refine ⟨ad, ρ, S, sg, rs, post_mono (bindS_post sg q) ?_⟩
  rintro v H1 ⟨ad1, wx, S1, fr1, r1, rs1, q1⟩
  refine ⟨ad1, ρ, S1, sg.fr fr1, rs1, post_mono (bindS_post (sg.fr fr1) q1) ?_⟩
  rintro x H2 ⟨ad2, wo, S2, fr2, r2, rs2, q2⟩
  refine ⟨ad2, ρ, S2, (sg.fr fr1).fr fr2, rs2, post_mono (bindS_post ((sg.fr fr1).fr fr2) q2) ?_⟩
  rintro y H3 ⟨ad3, wi, S3, fr3, r3, rs3, q3⟩
  cases e1 : ownD S3 wo with
  | none => rw [e1] at q3; exact q3.elim
  | some kl =>
    obtain ⟨k, l⟩ := kl
    rw [e1] at q3
    dsimp only at q3
    cases wi with
    | own _ => exact q3.elim
    | fn _ _ _ => exact q3.elim
    | d j =>
      cases wx with
      | own _ => exact q3.elim
      | fn _ _ _ => exact q3.elim
      | d d =>
        dsimp only at q3
        split at q3
        · rename_i ok
          obtain ⟨a0, rfl, ha, hk, ob⟩ := ownD_rep (r2.fr fr3) rs3 e1
          have r1' := (r1.fr fr2).fr fr3
          rcases dic_put rs3 ha ob ok r3 r1' with ⟨H4, dp, f1, f2⟩ | ⟨h0, H4, dp, f1, f2⟩
          · exact .inl ⟨a0, H4, rfl, dp, q3 _ H4 ad3 f1 (((sg.fr fr1).fr fr2).fr fr3 |>.fr f1) f2⟩
          · exact .inr ⟨a0, h0, a0, H4, rfl, dp, q3 _ H4 ad3 f1 (((sg.fr fr1).fr fr2).fr fr3 |>.fr f1) f2⟩
        · exact q3.elim
end
end DL

set_option Elab.async false
set_option linter.all false
set_option maxRecDepth 100000
set_option maxHeartbeats 4000000
/-! D15: x[::-1]. -/
namespace DL
open PySem PySem.Spec PyProof.Rows L2 HT

section
variable {prog : Program} {w : World} {A : Around} {E : Value → Shared → Prop} {s : Shared}
theorem slr_neg {sl : Addr} {vs : Value} {n : Nat} {Q : Int × Int × Nat → Shared → Prop} (hs : s.heap.IsSliceOf sl .none .none vs) (ps : IsPart vs (some (-1)))
    (h : Q ((n : Int) - 1, -1, n) s) : wpAny (model prog w) A (Builtin.Slice.sliceApplied (.ref sl) (pure (n : Int))) Q E s := by
  obtain ⟨os, hos, hcs, hds⟩ := id hs
  unfold Builtin.Slice.sliceApplied Builtin.Slice.sliceFields
  refine wpAny_bind (wpAny_bind (wpAny_field hos hds (x := .none) rfl (wpAny_bind (wpAny_field hos hds (x := .none) rfl (wpAny_bind (wpAny_field hos hds (x := vs) rfl (wpAny_pure ?_)))))))
  refine wpAny_bind (slicePart_ ps ?_)
  show wpAny _ _ (if ((-1 : Int) == 0) = true then _ else _) _ _ s
  rw [if_neg (by decide)]
  refine wpAny_bind (slicePart_none (wpAny_bind (slicePart_none (wpAny_bind (wpAny_pure ?_)))))
  show wpAny _ _ (match Builtin.Slice.sliceAdjust none none (-1) (n : Int) with | (lo, hi) => pure (lo, (-1 : Int), Builtin.Slice.slicePlaces lo hi (-1))) _ _ s
  have e1 : Builtin.Slice.sliceAdjust none none (-1) (n : Int) = ((n : Int) - 1, -1) := by
    unfold Builtin.Slice.sliceAdjust
    rfl
  rw [e1]
  show wpAny _ _ (pure ((n : Int) - 1, (-1 : Int), Builtin.Slice.slicePlaces ((n : Int) - 1) (-1) (-1))) _ _ s
  have e2 : Builtin.Slice.slicePlaces ((n : Int) - 1) (-1) (-1) = n := by
    unfold Builtin.Slice.slicePlaces
    rw [if_neg (by decide)]
    simp only [Int.neg_neg, Int.ediv_one]
    split <;> omega
  rw [e2]
  exact wpAny_pure h
theorem fm_congr {α β : Type} {f g : α → Option β} : ∀ l : List α, (∀ x ∈ l, f x = g x) → l.filterMap f = l.filterMap g
  | [], _ => rfl
  | a :: l, h => by
    rw [List.filterMap_cons, List.filterMap_cons, h a (by simp), fm_congr l fun x hx => h x (by simp [hx])]
theorem pick_rev (xs : Array Value) : ((List.range xs.size).filterMap fun (m : Nat) => xs[((xs.size : Int) - 1 + (m : Int) * (-1)).toNat]?).toArray = xs.toList.reverse.toArray := by
  congr 1
  have e : (List.range xs.size).filterMap (fun (m : Nat) => xs[((xs.size : Int) - 1 + (m : Int) * (-1)).toNat]?) = ((List.range xs.size).map fun k => xs.size - 1 - k).filterMap (xs[·]?) := by
    rw [List.filterMap_map]
    refine fm_congr _ fun m hm => ?_
    have : m < xs.size := List.mem_range.mp hm
    have e : ((xs.size : Int) - 1 + (m : Int) * (-1)).toNat = xs.size - 1 - m := by omega
    rw [e]
    rfl
  rw [e, PySem.W.krv_range, List.filterMap_reverse, PySem.W.krv_all]
theorem getItem_tuple_rev {t sl : Addr} {items : Array Value} {vs : Value} {Q : Value → Shared → Prop} (ht : IsTup s.heap t items) (hs : s.heap.IsSliceOf sl .none .none vs) (ps : IsPart vs (some (-1)))
    (h : Q (.ref s.heap.objs.size) { s with heap := s.heap.push { cls := .type "tuple", data := .seq items.toList.reverse.toArray } })
    (hsz : items.size ≤ sizeLine) : wpAny (model prog w) A (getItem (.ref t) (.ref sl)) Q E s := by
  have htake : sizeOk (.seq items.toList.reverse.toArray) := by
    show items.toList.reverse.toArray.size ≤ sizeLine
    rw [List.size_toArray, List.length_reverse, Array.length_toList]
    omega
  obtain ⟨os, hos, hcs, hds⟩ := id hs
  have hTs : s.TypeIs (.ref sl) "slice" := ⟨os, hos, hcs⟩
  unfold getItem
  try with_reducible refine wpAny_holding ?_
  first | refine wpAny_bind (wpAny_pure ?_) | skip
  refine wpAny_bind (wpAny_sequenceKey ht.typeIs (by decide) ?_)
  refine wpAny_bind (wpAny_callSpecial?_slot (name := Str.ofString "__getitem__") ht.typeIs PyProof.Rows.slot_tuple_getitem
    (wpAny_call_entry PyProof.Rows.slot_tuple_getitem ht.typeIs entry_tuple_getitem ?_ (args_tuple_getitem _ _)))
  show wpAny _ _ (Builtin.Tuple.tupleItemsOf (.ref t) >>= _) _ _ s
  refine wpAny_bind (tupleItemsOf_ ht ?_)
  refine wpAny_bind (wpAny_typeOf hTs ?_)
  rw [if_pos (by decide)]
  refine wpAny_bind (slr_neg hs ps ?_)
  have hno : ¬ ((((items.size : Int) - 1) == 0 && (-1 : Int) == 1 && items.size == items.size) = true) := by
    have : ((-1 : Int) == 1) = false := by decide
    rw [this, Bool.and_false, Bool.false_and]
    exact Bool.false_ne_true
  show wpAny _ _ (if (((items.size : Int) - 1) == 0 && (-1 : Int) == 1 && items.size == items.size) = true then _ else _) _ _ s
  rw [if_neg hno, pick_rev]
  first
    | exact wpAny_bind (m := Builtin.Tuple.tupleExact _) (wpAny_newObj_type (wpAny_pure ⟨_, rfl, wpAny_pure h⟩) htake)
    | exact wpAny_bind (m := Builtin.Tuple.tupleExact _) (wpAny_newObj_type (wpAny_bind (wpAny_pure (wpAny_pure ⟨_, rfl, wpAny_pure h⟩))) htake)
    | exact wpAny_bind (wpAny_bind (m := Builtin.Tuple.tupleExact _) (wpAny_newObj_type (wpAny_pure (wpAny_pure ⟨_, rfl, wpAny_pure h⟩)) htake))
    | exact wpAny_bind (wpAny_bind (m := Builtin.Tuple.tupleExact _) (wpAny_newObj_type (wpAny_pure ⟨_, rfl, wpAny_pure h⟩) htake))
end
/-- x[::-1] of a list, a tuple -/
def tRev (K : PySem.W.Frag) (te : TE) : TE := fun σ H Q => te σ H fun x H1 => ∃ a xs, x = .ref a ∧ ((SqL K H1 a xs ∧ ∀ p, H1 p = none → Q (.ref p) (upd H1 p (.lst xs.reverse))) ∨ (SqT K H1 a xs ∧ ∀ p, H1 p = none → Q (.ref p) (upd H1 p (.tup xs.reverse))))
theorem pe_rev {X : Cx} {e : Expr} {te : TE} {k : Nat} {p1 p2 p3 pos : Pos} (he : PE X e te) : PE X (.Subscript e (.Slice none none (some (.UnaryOp .USub (.Constant (.int 1) k p1) p2)) p3) pos) (tRev X.K te) := by
  refine ⟨fun pins s σ H Q I h => ?_⟩
  refine Subscript_ (thn (he.run pins s σ H _ I h) fun v s1 ⟨x, H1, I1, r1, q1⟩ => ?_)
  obtain ⟨a, xs, ex, q⟩ := q1
  subst ex
  cases r1
  have hst : PO X (some (.UnaryOp .USub (.Constant (.int 1) k p1) p2)) (tPart (tUn (rU fun i => .int (-i)) (tC (.int 1)))) := po_some (pe_un un_neg pe_int)
  refine wpAny_Slice (thn (po_none.run pins s1 σ H1 (fun o H2 => o = none ∧ H2 = H1) I1 ⟨rfl, rfl⟩) fun vl s2 ⟨l, H2, I2, pl, el, e2⟩ => ?_)
  subst el e2
  refine thn (po_none.run pins s2 σ H2 (fun o H3 => o = none ∧ H3 = H2) I2 ⟨rfl, rfl⟩) fun vu s3 ⟨u, H3, I3, pu, eu, e3⟩ => ?_
  subst eu e3
  refine thn (hst.run pins s3 σ H3 (fun o H4 => o = some (-1) ∧ H4 = H3) I3 ⟨1, rfl, -1, rfl, rfl, rfl⟩) fun vs s4 ⟨o, H4, I4, ps, eo, e4⟩ => ?_
  subst eo e4
  have I5 : Inv X pins σ H4 { s4 with heap := s4.heap.push { cls := .type "slice", data := .fields #[vl, vu, vs] } } := I4.kept (t' := s4.toks) fun b ob q => Heap.get?_push_of_some _ q
  have hvl : vl = .none := by cases pl; rfl
  have hvu : vu = .none := by cases pu; rfl
  subst hvl hvu
  show wpAny (model X.prog X.w) X.A (subscriptTail e (.Slice none none (some (.UnaryOp .USub (.Constant (.int 1) k p1) p2)) p3) (.ref a) (.ref s4.heap.objs.size)) (EP X pins σ Q) X.xe { s4 with heap := s4.heap.push { cls := .type "slice", data := .fields #[.none, .none, vs] } }
  rcases q with ⟨hx, q⟩ | ⟨hx, q⟩
  · obtain ⟨its, r, ht, hz⟩ := I5.list hx
    have hlen := r.length
    refine tail_any (ops := [.ref a, .ref s4.heap.objs.size]) ht.isList.typeIs (PySem.slot_list_getitem.lookup) ?_ (by with_unfolding_all rfl)
    refine wpAny_getItem_list_slice ht.isList (Heap.IsSliceOf.new _ _ _ vs) pl pu ps (by decide) ?_ (by rw [List.size_toArray]; omega)
    rw [PySem.W.krv_pick]
    refine ⟨.ref _, _, I5.laid (t' := s4.toks) (o := .lst xs.reverse) (fun b ob q => Heap.get?_push_of_some _ q) (Nat.le_refl _) ?_, rfl, q _ (I5.hok.fresh (Nat.le_refl _))⟩
    exact ⟨by rw [List.length_reverse]; exact hz, _, 0, r.reverse, Heap.get?_push_size _ rfl⟩
  · obtain ⟨its, r, ht, hz⟩ := I5.tuple hx
    have hlen := r.length
    refine tail_any (ops := [.ref a, .ref s4.heap.objs.size]) ht.typeIs (PyProof.Rows.slot_tuple_getitem.lookup) ?_ (by with_unfolding_all rfl)
    refine getItem_tuple_rev ht (Heap.IsSliceOf.new _ _ _ vs) ps ?_ (by rw [List.size_toArray]; omega)
    refine ⟨.ref _, _, I5.laid (t' := s4.toks) (o := .tup xs.reverse) (fun b ob q => Heap.get?_push_of_some _ q) (Nat.le_refl _) ?_, rfl, q _ (I5.hok.fresh (Nat.le_refl _))⟩
    exact ⟨by rw [List.length_reverse]; exact hz, _, r.reverse, IsTup.new _ _⟩
def revD : PyData → Option PyData
  | .list l => some (.list l.reverse)
  | .tuple l => some (.tuple l.reverse)
  | _ => none
def eRev (f : EF) : EF := fun ρ S => (f ρ S).bind fun w S1 => match view S1 w with
  | some x => match revD x with
    | some d => .ok (.d d) S1
    | none => .bad
  | none => .bad
theorem de_rev {X : Cx} {Wx : WX} {e : Expr} {f : EF} {k : Nat} {p1 p2 p3 pos : Pos} (he : DE X Wx e f) : DE X Wx (.Subscript e (.Slice none none (some (.UnaryOp .USub (.Constant (.int 1) k p1) p2)) p3) pos) (eRev f) :=
  PE.conv (pe_frzIf (pe_rev he)) fun σ H Q ⟨ad, ρ, S, sg, rs, q⟩ => by
    refine ⟨ad, ρ, S, sg, rs, post_mono (post_bind q) ?_⟩
    rintro v H1 ⟨ad1, w, S1, fr1, r1, rs1, q1⟩
    cases e0 : view S1 w with
    | none => rw [e0] at q1; exact q1.elim
    | some x =>
      rw [e0] at q1
      dsimp only at q1
      have rv := view_rep r1 rs1 e0
      cases x with
      | list l =>
        obtain ⟨a, vs, rfl, t, r⟩ := rv.lst
        refine ⟨a, vs, rfl, .inl ⟨t, fun p hp => .inr ⟨p, .lst vs.reverse, rfl, trivial, upd_same, fun o => ?_⟩⟩⟩
        have ex : Ex H1 (upd (upd H1 p (.lst vs.reverse)) p (.frz o (.lst vs.reverse))) := (Ex.new hp).upd2 hp
        exact q1 _ _ ad1 ex.fr (.lst (.inl ⟨o, upd_same⟩) (Reps.stb ex.stb _ (Reps.reverse r))) (rs1.ex ex)
      | tuple l =>
        obtain ⟨a, vs, rfl, t, r⟩ := rv.tup
        refine ⟨a, vs, rfl, .inr ⟨t, fun p hp => .inl ?_⟩⟩
        have ex : Ex H1 (upd H1 p (.tup vs.reverse)) := Ex.new hp
        exact q1 _ _ ad1 ex.fr (.tup (.inl upd_same) (Reps.stb ex.stb _ (Reps.reverse r))) (rs1.ex ex)
      | _ => exact q1.elim
end DL

set_option Elab.async false
set_option linter.all false
set_option maxRecDepth 100000
set_option maxHeartbeats 4000000
/-! D16: dict(zip(a, b)), keys tuples of ints. -/
namespace DL
open PySem PySem.Spec PyProof.Rows L2

/-- a zip over two sequences while a dict at d is filled -/
def PSt (z TI TO i1 i2 d : Addr) (b1 b2 : Bool) (a1 a2 : Addr) (xs ys : Array Value) (i : Nat) (h : Heap) : Prop :=
  (IsZip h z TI TO .none ∨ ∃ T f oT, IsZipHeld h z TI TO T f ∧ h.get? T = some oT ∧ T ∉ [z, TI, TO, i1, i2] ∧ T ≠ d) ∧ IsTupOf2 h TI (.ref i1) (.ref i2) ∧ (∃ x y, IsTupOf2 h TO x y) ∧ itB b1 h i1 a1 i ∧ itB b2 h i2 a2 i ∧ coB b1 h a1 xs ∧ coB b2 h a2 ys
def POk (z TI TO i1 i2 : Addr) (b1 b2 : Bool) (a1 a2 : Addr) (xs ys : Array Value) (h : Heap) : Prop :=
  IsZip h z TI TO .none ∧ IsTupOf2 h TI (.ref i1) (.ref i2) ∧ (∃ x y, IsTupOf2 h TO x y) ∧ itB b1 h i1 a1 0 ∧ itB b2 h i2 a2 0 ∧ coB b1 h a1 xs ∧ coB b2 h a2 ys
theorem coB_at {b : Bool} {h h' : Heap} {a : Addr} {its : Array Value} (x : coB b h a its) (k : ∀ o, h.get? a = some o → h'.get? a = some o) : coB b h' a its := by
  cases b with
  | true => exact Heap.IsTuple.at x fun o e => k o e
  | false => exact Heap.IsList.at x fun o e => k o e
theorem coB_lt {b : Bool} {h : Heap} {a : Addr} {its : Array Value} (x : coB b h a its) : ∃ o, h.get? a = some o := by
  cases b with
  | true => exact ⟨_, x.choose_spec.1⟩
  | false => exact ⟨_, x.choose_spec.1⟩
theorem pair_arg {prog : Program} {w : World} {z TI TO i1 i2 : Addr} {b1 b2 : Bool} {a1 a2 : Addr} {N : Nat} (D : Ap z TI TO i1 i2 N) (g1 : a1 < N) (g2 : a2 < N) (xs ys : Array Value) :
    PairArg prog w "zip" z [z, TI, TO, i1, i2, a1, a2] [z, TO, i1, i2] (min xs.size ys.size) (fun i k v => xs[i]? = some k ∧ ys[i]? = some v) (POk z TI TO i1 i2 b1 b2 a1 a2 xs ys) where
  type := fun s ok => ⟨_, ok.1, rfl⟩
  notDict := by decide
  keep := fun h h' ok hk => by
    obtain ⟨hz, hTI, ⟨a, b, hTO⟩, h1, h2, hl1, hl2⟩ := ok
    exact ⟨hk _ _ hz, hk _ _ hTI, ⟨a, b, hk _ _ hTO⟩, itB_at h1 fun o e => hk _ o e, itB_at h2 fun o e => hk _ o e, coB_at hl1 fun o e => hk _ o e, coB_at hl2 fun o e => hk _ o e⟩
  there := fun h ok b hb => by
    obtain ⟨hz, hTI, ⟨a, c, hTO⟩, h1, h2, hl1, hl2⟩ := ok
    obtain ⟨o1, e1, _⟩ := itB_obj h1
    obtain ⟨o2, e2, _⟩ := itB_obj h2
    obtain ⟨o3, e3⟩ := coB_lt hl1
    obtain ⟨o4, e4⟩ := coB_lt hl2
    simp only [List.mem_cons, List.not_mem_nil, or_false] at hb
    rcases hb with rfl | rfl | rfl | rfl | rfl | rfl | rfl
    all_goals first | exact ⟨_, hz⟩ | exact ⟨_, hTI⟩ | exact ⟨_, hTO⟩ | exact ⟨_, e1⟩ | exact ⟨_, e2⟩ | exact ⟨_, e3⟩ | exact ⟨_, e4⟩
  sub := fun b hb => by simp at hb ⊢; rcases hb with rfl | rfl | rfl | rfl <;> simp
  noKeys := fun A s Q E hA ok h => getAttrOr_miss_zip ok.1 rfl rfl rfl zip_no_keys (by decide +kernel) hA h
  iter := fun A s d Q E hA ok hd hdf h => by
    have S := D.S a1 a2 g1 g2
    have n1 : a1 ≠ i1 := Nat.ne_of_lt (Nat.lt_of_lt_of_le g1 (D.ge i1 (by simp)))
    have n2 : a2 ≠ i2 := Nat.ne_of_lt (Nat.lt_of_lt_of_le g2 (D.ge i2 (by simp)))
    have la : ∀ c ∈ [z, TI, TO, i1, i2], a1 ≠ c ∧ a2 ≠ c := fun c hc => ⟨Nat.ne_of_lt (Nat.lt_of_lt_of_le g1 (D.ge c hc)), Nat.ne_of_lt (Nat.lt_of_lt_of_le g2 (D.ge c hc))⟩
    obtain ⟨hz, hTI, hTO, h1, h2, hl1, hl2⟩ := ok
    simp only [List.mem_cons, List.not_mem_nil, or_false, not_or] at hdf
    obtain ⟨dz, dTI, dTO, di1, di2, dl1, dl2⟩ := hdf
    refine wpAny_pyIter_zip hz (h z [z, TO, i1, i2] (PSt z TI TO i1 i2 d b1 b2 a1 a2 xs ys) s.heap s.toks ?_ ⟨.inl hz, hTI, hTO, h1, h2, hl1, hl2⟩ (fun _ _ e => e) fun b hb => .inl hb)
    exact {
      off := fun hm => by
        simp only [List.mem_cons, List.not_mem_nil, or_false] at hm
        rcases hm with e | e | e | e
        · exact dz e
        · exact dTO e
        · exact di1 e
        · exact di2 e
      frame := fun i h₁ h₂ st hk => by
        obtain ⟨hz, hTI, ⟨a, b, hTO⟩, h1, h2, hl1, hl2⟩ := st
        refine ⟨?_, hk _ _ (Ne.symm dTI) hTI, ⟨a, b, hk _ _ (Ne.symm dTO) hTO⟩, itB_at h1 fun o e => hk _ o (Ne.symm di1) e, itB_at h2 fun o e => hk _ o (Ne.symm di2) e, coB_at hl1 fun o e => hk _ o (Ne.symm dl1) e, coB_at hl2 fun o e => hk _ o (Ne.symm dl2) e⟩
        rcases hz with hz | ⟨T, f, oT, hz, hT, r1, r4⟩
        · exact .inl (hk _ _ (Ne.symm dz) hz)
        · exact .inr ⟨T, f, oT, hk _ _ (Ne.symm dz) hz, hk _ _ r4 hT, r1, r4⟩
      item := fun i s₁ Q₁ E₁ hi st hds hQ => by
        obtain ⟨hz, hTI, ⟨x0, y0, hTO⟩, h1, h2, hl1, hl2⟩ := st
        have hix : i < xs.size := Nat.lt_of_lt_of_le hi (Nat.min_le_left ..)
        have hiy : i < ys.size := Nat.lt_of_lt_of_le hi (Nat.min_le_right ..)
        have lt : ∀ {c o}, s₁.heap.get? c = some o → s₁.heap.objs.size ≠ c := fun e => Nat.ne_of_gt (Heap.lt_size e)
        obtain ⟨o1, e1, _⟩ := itB_obj h1
        obtain ⟨o2, e2, _⟩ := itB_obj h2
        rcases hz with hz | ⟨T, f, oT, hz, hT, r1, r4⟩
        · have hno : s₁.heap.objs.size ∉ [z, TI, TO, i1, i2] := fun hm => by
            simp only [List.mem_cons, List.not_mem_nil, or_false] at hm
            rcases hm with q | q | q | q | q
            · exact lt hz q
            · exact lt hTI q
            · exact lt hTO q
            · exact lt e1 q
            · exact lt e2 q
          refine wpAny_pyNext_zipD2_item S (drB b1 (show A.in1.handled = none from hA) i1 a1 n1 xs) (drB b2 (show A.in1.handled = none from hA) i2 a2 n2 ys) hz hTI hTO ⟨h1, hl1⟩ ⟨h2, hl2⟩ hix hiy fun u u2 h' tk hu hu2 z' TO' st1' st2' hT hsz hk => ?_
          exact hQ s₁.heap.objs.size _ _ h' tk ⟨hu, hu2⟩ (.inl ⟨_, hT, rfl, _, rfl⟩)
            ⟨.inr ⟨s₁.heap.objs.size, false, _, z', hT, hno, Nat.ne_of_gt hds⟩, hk _ _ S.TIz S.TITO S.TIi1 S.TIi2 hTI, ⟨_, _, TO'⟩, st1'.1, st2'.1, st1'.2, st2'.2⟩
            fun c o hc e => hk c o (fun x => hc (by simp [x])) (fun x => hc (by simp [x])) (fun x => hc (by simp [x])) (fun x => hc (by simp [x])) e
        · refine pyNext_zipH_item S (drB b1 (show A.in1.handled = none from hA) i1 a1 n1 xs) (drB b2 (show A.in1.handled = none from hA) i2 a2 n2 ys) hz hT hTI ⟨h1, hl1⟩ ⟨h2, hl2⟩ hix hiy fun u u2 h' tk hu hu2 z' st1' st2' hT' hsz hk => ?_
          exact hQ s₁.heap.objs.size _ _ h' tk ⟨hu, hu2⟩ (.inl ⟨_, hT', rfl, _, rfl⟩)
            ⟨.inr ⟨T, true, oT, z', hk T oT (fun e => r1 (by simp [e])) (fun e => r1 (by simp [e])) (fun e => r1 (by simp [e])) hT, r1, r4⟩, hk _ _ S.TIz S.TIi1 S.TIi2 hTI, ⟨x0, y0, hk TO _ S.TOz S.Ti1 S.Ti2 hTO⟩, st1'.1, st2'.1, st1'.2, st2'.2⟩
            fun c o hc e => hk c o (fun x => hc (by simp [x])) (fun x => hc (by simp [x])) (fun x => hc (by simp [x])) e
      done := fun s₁ Q₁ E₁ st hQ => by
        obtain ⟨hz, hTI, ⟨x0, y0, hTO⟩, h1, h2, hl1, hl2⟩ := st
        have b1' : min xs.size ys.size ≤ xs.size := Nat.min_le_left ..
        have b2' : min xs.size ys.size ≤ ys.size := Nat.min_le_right ..
        have b3' : min xs.size ys.size = xs.size ∨ min xs.size ys.size = ys.size := by omega
        rcases hz with hz | ⟨T, f, oT, hz, hT, r1, r4⟩
        · exact wpAny_pyNext_zipD2_end S (drB b1 (show A.in1.handled = none from hA) i1 a1 n1 xs) (drB b2 (show A.in1.handled = none from hA) i2 a2 n2 ys) hz hTI hTO ⟨h1, hl1⟩ ⟨h2, hl2⟩ b1' b2' b3' fun h' tk hk =>
            hQ h' tk fun c o hc e => hk c o (fun x => hc (by simp [x])) (fun x => hc (by simp [x])) (fun x => hc (by simp [x])) (fun x => hc (by simp [x])) e
        · exact pyNext_zipH_end S (drB b1 (show A.in1.handled = none from hA) i1 a1 n1 xs) (drB b2 (show A.in1.handled = none from hA) i2 a2 n2 ys) hz hT hTI ⟨h1, hl1⟩ ⟨h2, hl2⟩ b1' b2' b3' fun h' tk hk =>
            hQ h' tk fun c o hc e => hk c o (fun x => hc (by simp [x])) (fun x => hc (by simp [x])) (fun x => hc (by simp [x])) e }
end DL

set_option Elab.async false
set_option linter.all false
set_option maxRecDepth 100000
set_option maxHeartbeats 4000000
/-! D17: dict(zip(a, b)) as an expression. -/
namespace DL
open PySem PySem.Spec PyProof.Rows L2

def tkey (d : PyData) : Bool := (match keyD d with
  | some (.inr _) => true
  | _ => false) && keyOk d
theorem tkey_of {d : PyData} (h : tkey d = true) : ∃ b : List Int, d = .tuple (b.map PyData.int) ∧ keyOk d = true ∧ keyD d = some (.inr b) := by
  unfold tkey at h
  rw [Bool.and_eq_true] at h
  cases e : keyD d with
  | none => rw [e] at h; exact absurd h.1 Bool.false_ne_true
  | some kk =>
    cases kk with
    | inl c => rw [e] at h; exact absurd h.1 Bool.false_ne_true
    | inr b => exact ⟨b, keyD_tup e, h.2, rfl⟩
/-- pairs put one after the other -/
def mrgD (acc more : List (PyData × PyData)) : List (PyData × PyData) := more.foldl (fun acc p => putD acc p.1 p.2) acc
theorem mrgD_ne : ∀ (more acc : List (PyData × PyData)), (more ≠ [] ∨ acc ≠ []) → mrgD acc more ≠ []
  | [], acc, h => by
    rcases h with h | h
    · exact absurd rfl h
    · exact h
  | p :: more, acc, _ => mrgD_ne more _ (.inr putD_ne)
theorem zip_ps {K : PySem.W.Frag} {H : Hp} : ∀ {xs ys : List V} {l m : List PyData} {its its2 : List Value}, Reps K H xs l → Reps K H ys m → Vals xs its → Vals ys its2 → l.all tkey = true →
    ∃ (ps : List (List Key × Addr × Value)) (kvs : List (List Key × V)), KT H kvs ps ∧ RepTV K H kvs (l.zip m) ∧ ps.length = min its.length its2.length ∧ ∀ (i : Nat) (k v : Value), its[i]? = some k → its2[i]? = some v → ∃ kk b, ps[i]? = some (kk, b, v) ∧ k = .ref b
  | [], ys, l, m, its, its2, r1, r2, v1, v2, hk => by
    cases r1
    cases v1
    exact ⟨[], [], .nil, .nil, by simp, fun i k v e => by simp at e⟩
  | x :: xs, [], l, m, its, its2, r1, r2, v1, v2, hk => by
    cases r2
    cases v2
    exact ⟨[], [], .nil, by rw [List.zip_nil_right]; exact .nil, by simp, fun i k v e e2 => by simp at e2⟩
  | x :: xs, y :: ys, l, m, its, its2, r1, r2, v1, v2, hk => by
    cases r1 with
    | @cons _ _ d ds ra rb =>
      cases r2 with
      | @cons _ _ d2 ds2 rc rd =>
        cases v1 with
        | cons va vb =>
          cases v2 with
          | cons vc vd =>
            rw [List.all_cons, Bool.and_eq_true] at hk
            obtain ⟨ps, kvs, h1, h2, h3, h4⟩ := zip_ps rb rd vb vd hk.2
            obtain ⟨b, rfl, hko, ek⟩ := tkey_of hk.1
            rcases key_val (.inl ra) ek hko with ⟨c, z, _⟩ | ⟨b', c, e1, e2, rfl, hc⟩
            · cases z
            · cases e1
              refine ⟨(b.map Sum.inl, c, _) :: ps, (b.map Sum.inl, y) :: kvs, .cons ⟨rfl, hc, vc⟩ h1, ?_, by rw [List.length_cons, List.length_cons, List.length_cons, h3]; omega, fun i k v e e' => ?_⟩
              · rw [List.zip_cons_cons]
                exact .cons rc h2
              · cases i with
                | zero =>
                  simp at e e'
                  subst e e'
                  exact ⟨_, c, rfl, va⟩
                | succ i => exact h4 i k v (by simpa using e) (by simpa using e')
theorem fold_ps {K : PySem.W.Frag} {H : Hp} : ∀ {ps : List (List Key × Addr × Value)} {kvs : List (List Key × V)} {zs : List (PyData × PyData)} {pa : List (List Key × Addr × Value)} {ka : List (List Key × V)} {za : List (PyData × PyData)}, KT H kvs ps → RepTV K H kvs zs → KT H ka pa → RepTV K H ka za →
    KT H (kvs.foldl (fun acc p => putK acc p.1 p.2) ka) (storedAllH pa ps) ∧ RepTV K H (kvs.foldl (fun acc p => putK acc p.1 p.2) ka) (mrgD za zs)
  | [], _, _, _, _, _, h1, h2, h3, h4 => by
    cases h1
    cases h2
    exact ⟨h3, h4⟩
  | q :: qs, [], _, _, _, _, h1, _, _, _ => by cases h1
  | q :: qs, kv :: kvs, zs, pa, ka, za, h1, h2, h3, h4 => by
    cases h1 with
    | cons hh t =>
      obtain ⟨e, hb, rv⟩ := hh
      cases h2 with
      | @cons b v vs d ds r t2 =>
        have e : b.map (Sum.inl : Int → Key) = q.1 := e
        obtain ⟨a1, a2⟩ := fold_ps t t2 (h3.put _ hb rv) (RepTV.put _ r h4)
        refine ⟨?_, a2⟩
        show KT H _ (storedAllH (storedH pa q.1 q.2.1 q.2.2) qs)
        rw [← e]
        exact a1
theorem foldK_len {ka : List (List Key × V)} : ∀ (kvs : List (List Key × V)) (ka : List (List Key × V)), (kvs.foldl (fun acc p => putK acc p.1 p.2) ka).length ≤ ka.length + kvs.length
  | [], ka => Nat.le_refl _
  | p :: kvs, ka => by
    rw [List.foldl_cons]
    have := foldK_len (ka := ka) kvs (putK ka p.1 p.2)
    have h2 := length_putK ka p.1 p.2
    rw [List.length_cons]
    omega
def eDZip (f : LF) : EF := fun ρ S => (f ρ S).bind fun ws S1 => match ws with
  | [.d x, .d y] => match kindB x with
    | some (_, l) => match kindB y with
      | some (_, m) => if l.all tkey = true ∧ (l.zip m) ≠ [] then .ok (.d (.dict (mrgD [] (l.zip m)))) S1 else .bad
      | none => .bad
    | none => .bad
  | _ => .bad
theorem de_dictzip {X : Cx} {Wx : WX} {e e2 : Expr} {l : LF} {p pos p2 pos2 : Pos} (hu : X.A.units + 64 < cLine) (hc : X.calm = true) (hgl : Gl X "dict") (hml : X.mg "dict" = none) (hg : Gl X "zip") (hm : X.mg "zip" = none) (ha : DA X Wx [e, e2] l) (hs : starEach [e, e2] X.env = (false, eval e X.env) :: starEach [e2] X.env := by rfl) (hpl : (backTo pos (starEach [e2] X.env)).any (·.1) = false := by rfl)
    (he : starEach [.Call (.Name "zip" p) [e, e2] [] pos] X.env = (false, eval (.Call (.Name "zip" p) [e, e2] [] pos) X.env) :: starEach [] X.env := by rfl) :
    DE X Wx (.Call (.Name "dict" p2) [.Call (.Name "zip" p) [e, e2] [] pos] [] pos2) (eDZip l) := by
  refine ⟨fun pins s σ H Q I ⟨ad, ρ, S, sg, rs, q⟩ => ?_⟩
  have boot_dict : bootBuiltins "dict" = some (.type "dict") := by decide +kernel
  refine wpAny_Call_Name_kw (ld_blt I hgl hml boot_dict ?_)
  refine PyProof.Rows.callWith_type1 ?_ he rfl
  rw [he]
  show wpAny _ _ (spliced ((false, eval (.Call (.Name "zip" p) [e, e2] [] pos) X.env) :: backTo pos2 (starEach [] X.env))) _ _ s
  refine Calls.spliced_cons ?_
  refine Call_ (ld_blt I hg hm PyProof.Rows.boot_zip (PyProof.Rows.callWith_type1 (thn (ha.run pos pins s σ H (fun vs H1 => ∃ x y dx dy b1 b2 l1 l2, vs = [x, y] ∧ Rep X.K H1 x dx ∧ Rep X.K H1 y dy ∧ kindB dx = some (b1, l1) ∧ kindB dy = some (b2, l2) ∧ l1.all tkey = true ∧ l1.zip l2 ≠ [] ∧
    ∀ v H', Ex H1 H' → Rep X.K H' v (.dict (mrgD [] (l1.zip l2))) → Q v H') I ⟨ad, ρ, S, sg, rs, ?_⟩) fun us s1 ⟨vs, H1, I1, r1, q1⟩ => ?_) hs hpl))
  · revert q
    unfold eDZip
    cases l ρ S with
    | bad => exact fun z => z
    | exc x S' => exact fun z => z
    | ok ws S1 =>
      intro q vs H1 ad1 fr1 r1 rs1
      simp only [Rs.bind] at q
      split at q
      · rename_i x y
        cases hx : kindB x with
        | none => rw [hx] at q; exact q.elim
        | some bl =>
          rw [hx] at q
          dsimp only at q
          cases hy : kindB y with
          | none => rw [hy] at q; exact q.elim
          | some bm =>
            rw [hy] at q
            dsimp only at q
            split at q
            · rename_i hk
              cases r1 with
              | cons ra rr =>
                cases rr with
                | cons rb rr =>
                  cases rr
                  refine ⟨_, _, x, y, bl.1, bm.1, bl.2, bm.2, rfl, ra, rb, hx, hy, hk.1, hk.2, fun v H' ex rp => ?_⟩
                  exact q v H' ad1 (fr1.trans ex.fr) rp (rs1.ex ex)
            · exact q.elim
      · exact q.elim
  · obtain ⟨x, y, dx, dy, b1, b2, l1, l2, rfl, rx, ry, kx, ky, hk, hne, q⟩ := q1
    obtain ⟨a1, xs, rfl, sx, rpx⟩ := kind_rep rx kx
    obtain ⟨a2, ys, rfl, sy, rpy⟩ := kind_rep ry ky
    cases r1 with
    | cons r rr =>
      cases rr with
      | cons r' rr =>
        cases rr
        cases r
        cases r'
        obtain ⟨its, rv, p1, z1, g1⟩ := seqB I1 sx
        obtain ⟨its2, rv2, p2, z2, g2⟩ := seqB I1 sy
        refine zip_begins2 (beB b1 a1 its.toArray) (beB b2 a2 its2.toArray) p1 p2 fun h' hz hTI hTO h1 h2 hsz hkp => ?_
        have I2 : Inv X pins σ H1 { s1 with heap := h' } := I1.kept (t' := s1.toks) hkp
        refine Calls.spliced_nil ?_
        have D := ap_new s1.heap.objs.size
        obtain ⟨ps, kvs, hkt, hrt, hln, hat⟩ := zip_ps rpx rpy rv rv2 hk
        have hcells : ∀ c ∈ [s1.heap.objs.size + 4, s1.heap.objs.size + 2, s1.heap.objs.size + 3, s1.heap.objs.size, s1.heap.objs.size + 1], FpOk X pins H1 c := fun c hcm => by
          have hle := D.ge c hcm
          exact I1.fpOk hle (I1.hok.fresh hle)
        have hl1 := rv.length
        have hl2 := rv2.length
        have hmin : min its.toArray.size its2.toArray.size ≤ sizeLine := by
          rw [List.size_toArray, List.size_toArray]
          have : its.length ≤ sizeLine := by omega
          omega
        refine call_dict_pairsH (knd := tupleKind (mixKind X.prog X.w)) (ps := ps) (pair_arg (b1 := b1) (b2 := b2) D g1 g2 its.toArray its2.toArray) (show X.A.handled = none from I.ok.hd hc) (tupleKind_room_in1 (by show X.A.units + 1 + 1 < cLine; omega))
          (show POk _ _ _ _ _ b1 b2 a1 a2 its.toArray its2.toArray h' from ⟨hz, hTI, ⟨_, _, hTO⟩, itB_new h1, itB_new h2, coB_at p1 fun o e => hkp _ _ e, coB_at p2 fun o e => hkp _ _ e⟩)
          ⟨by rw [hln]; simp, fun i key v ⟨ek, ev⟩ => hat i key v (by simpa using ek) (by simpa using ev)⟩ (fun h2' hk2 x hx => ?_) hmin fun h'' tk hd hkeep => ?_
        · -- the keys stay
          obtain ⟨i, hi⟩ := List.mem_iff_getElem?.mp hx
          have : ∀ {l : List (List Key × V)} {m : List (List Key × Addr × Value)}, KT H1 l m → ∀ x ∈ m, H1 x.2.1 = some (.tup (x.1.map kV)) := by
            intro l m q0
            induction q0 with
            | nil => intro x hx; exact nomatch hx
            | @cons p q ps qs hq t ih =>
              intro x hx
              rcases List.mem_cons.mp hx with e | hx
              · subst e
                rw [← hq.1]
                exact hq.2.1
              · exact ih x hx
          have hH := this hkt x hx
          obtain ⟨o, items, n, ho, hcl, hdt, hi'⟩ := (show IsTupleKey (mixKind X.prog X.w) h' x.1 x.2.1 from key_of I2.hok hH)
          refine ⟨o, items, n, hk2 _ _ (Nat.ne_of_lt (Heap.lt_size ho)) (fun hm => ?_) ho, hcl, hdt, hi'⟩
          have hm' : x.2.1 ∈ [s1.heap.objs.size + 4, s1.heap.objs.size + 2, s1.heap.objs.size + 3, s1.heap.objs.size, s1.heap.objs.size + 1] := by
            simp only [List.mem_cons, List.not_mem_nil, or_false] at hm ⊢
            rcases hm with r | r | r | r <;> simp [r]
          have := (hcells _ hm').1
          rw [hH] at this
          cases this
        · obtain ⟨t1, t2⟩ := fold_ps (pa := []) (ka := []) (za := []) hkt hrt .nil .nil
          have hfresh : H1 h'.objs.size = none := I2.hok.fresh (Nat.le_refl _)
          have exD : Ex H1 (upd H1 h'.objs.size (.dT (kvs.foldl (fun acc p => putK acc p.1 p.2) []))) := Ex.new hfresh
          have hz' : (kvs.foldl (fun acc p => putK acc p.1 p.2) ([] : List (List Key × V))).length ≤ sizeLine := by
            have h1 := foldK_len (ka := []) kvs []
            have h2 : kvs.length = ps.length := Paired.length hkt
            rw [List.length_nil] at h1
            rw [List.size_toArray, List.size_toArray] at hmin
            omega
          obtain ⟨o, es, ep, e1, e2, e3, e4, _, e5⟩ := hd
          have hm0 : (h'.objs.size == sysModules) = false := beq_eq_false_iff_ne.mpr (Nat.ne_of_gt I2.big)
          have new : ObjOk X.prog X.w (upd H1 h'.objs.size (.dT (kvs.foldl (fun acc p => putK acc p.1 p.2) []))) h'' h'.objs.size (.dT (kvs.foldl (fun acc p => putK acc p.1 p.2) [])) :=
            ⟨hz', hm0, _, t1.keeps fun b ys e => exD _ _ e, o, es, ep, e1, e2, e3, e4, e5⟩
          have I3 : Inv X pins σ (upd H1 h'.objs.size (.dT (kvs.foldl (fun acc p => putK acc p.1 p.2) []))) { s1 with heap := h'', toks := tk } :=
            I2.turnedNew (t' := tk) (ch := [s1.heap.objs.size + 4, s1.heap.objs.size + 2, s1.heap.objs.size + 3, s1.heap.objs.size, s1.heap.objs.size + 1]) (fun b o hb q => hkeep b o (fun q' => hb (by
              simp only [List.mem_cons, List.not_mem_nil, or_false] at q' ⊢
              rcases q' with r | r | r | r <;> simp [r])) q) hcells (Nat.le_refl _) new
          obtain ⟨of, I4⟩ := freezeU I3 upd_same trivial
          have ex4 : Ex H1 (upd (upd H1 h'.objs.size (.dT (kvs.foldl (fun acc p => putK acc p.1 p.2) []))) h'.objs.size (.frz of (.dT (kvs.foldl (fun acc p => putK acc p.1 p.2) [])))) := exD.upd2 hfresh
          exact ⟨.ref h'.objs.size, _, I4, rfl, q _ _ ex4 (.dicT upd_same (RepTV.stb ex4.stb _ t2) (mrgD_ne _ _ (.inl hne)))⟩
end DL

set_option Elab.async false
set_option linter.all false
set_option maxRecDepth 100000
set_option maxHeartbeats 4000000
/-! D18: sorted(list), sorted(dict). -/
namespace DL
open PySem PySem.Spec PyProof.Rows L2

/-! ### insertion sorts -/
section
variable {α : Type}
def insB (lt : α → α → Bool) (x : α) : List α → List α
  | [] => [x]
  | y :: l => if lt y x = true then y :: insB lt x l else x :: y :: l
def sortB (lt : α → α → Bool) : List α → List α
  | [] => []
  | x :: l => insB lt x (sortB lt l)
theorem insB_perm (lt : α → α → Bool) (x : α) : ∀ l : List α, (insB lt x l).Perm (x :: l)
  | [] => List.Perm.refl _
  | y :: l => by
    unfold insB
    split
    · exact ((insB_perm lt x l).cons y).trans (List.Perm.swap x y l)
    · exact List.Perm.refl _
theorem sortB_perm (lt : α → α → Bool) : ∀ l : List α, (sortB lt l).Perm l
  | [] => List.Perm.refl _
  | x :: l => (insB_perm lt x _).trans ((sortB_perm lt l).cons x)
/-- sorted by a code -/
theorem insB_sorted {lt : α → α → Bool} {r : α → Int} {x : α} : ∀ {l : List α}, (∀ y ∈ l, lt y x = decide (r y < r x)) → l.Pairwise (fun a b => r a ≤ r b) → (insB lt x l).Pairwise (fun a b => r a ≤ r b)
  | [], _, _ => by simp [insB]
  | y :: l, h, p => by
    rw [List.pairwise_cons] at p
    unfold insB
    rw [h y (by simp)]
    by_cases c : r y < r x
    · rw [if_pos (decide_eq_true c), List.pairwise_cons]
      refine ⟨fun z hz => ?_, insB_sorted (fun z hz => h z (by simp [hz])) p.2⟩
      rcases List.mem_cons.mp ((insB_perm lt x l).mem_iff.mp hz) with e | hz
      · subst e; omega
      · exact p.1 z hz
    · rw [if_neg (by simpa using c), List.pairwise_cons]
      refine ⟨fun z hz => ?_, List.pairwise_cons.mpr p⟩
      rcases List.mem_cons.mp hz with e | hz
      · subst e; omega
      · have := p.1 z hz
        omega
theorem sortB_sorted {lt : α → α → Bool} {r : α → Int} : ∀ {l : List α}, (∀ x ∈ l, ∀ y ∈ l, lt y x = decide (r y < r x)) → (sortB lt l).Pairwise (fun a b => r a ≤ r b)
  | [], _ => by simp [sortB]
  | x :: l, h => insB_sorted (fun y hy => h x (by simp) y (List.mem_cons_of_mem _ ((sortB_perm lt l).mem_iff.mp hy))) (sortB_sorted fun a ha b hb => h a (by simp [ha]) b (by simp [hb]))
/-- there is one sorted list alone -/
theorem sorted_one {r : α → Int} : ∀ {l m : List α}, l.Perm m → (∀ x ∈ l, ∀ y ∈ l, r x = r y → x = y) → l.Pairwise (fun a b => r a ≤ r b) → m.Pairwise (fun a b => r a ≤ r b) → l = m
  | [], m, p, _, _, _ => (List.Perm.nil_eq p)
  | x :: l, [], p, _, _, _ => by
    have := p.length_eq
    simp at this
  | x :: l, y :: m, p, inj, h1, h2 => by
    rw [List.pairwise_cons] at h1 h2
    have e : x = y := by
      have hy : y ∈ x :: l := p.mem_iff.mpr (by simp)
      have hx : x ∈ y :: m := p.mem_iff.mp (by simp)
      rcases List.mem_cons.mp hy with e | hy'
      · exact e.symm
      · rcases List.mem_cons.mp hx with e | hx'
        · exact e
        · have a := h1.1 y hy'
          have b := h2.1 x hx'
          exact inj x (by simp) y hy (by omega)
    subst e
    rw [sorted_one (List.Perm.cons_inv p) (fun a ha b hb => inj a (by simp [ha]) b (by simp [hb])) h1.2 h2.2]
theorem sorted_is {lt : α → α → Bool} {r : α → Int} {l m : List α} (p : m.Perm l) (h : ∀ x ∈ l, ∀ y ∈ l, lt y x = decide (r y < r x)) (inj : ∀ x ∈ l, ∀ y ∈ l, r x = r y → x = y) (hm : m.Pairwise (fun a b => r a ≤ r b)) : m = sortB lt l :=
  sorted_one (p.trans (sortB_perm lt l).symm) (fun a ha b hb => inj a (p.mem_iff.mp ha) b (p.mem_iff.mp hb)) hm (sortB_sorted h)
theorem perm_map_inv {β : Type} {f : α → β} : ∀ {l k : List β}, l.Perm k → ∀ {m : List α}, k = m.map f → ∃ zs : List α, zs.Perm m ∧ l = zs.map f := by
  intro l k p
  induction p with
  | nil =>
    intro m e
    have : m = [] := by simpa using e.symm
    subst this
    exact ⟨[], List.Perm.refl _, rfl⟩
  | @cons x l1 l2 p ih =>
    intro m e
    cases m with
    | nil => simp at e
    | cons a m =>
      rw [List.map_cons] at e
      injection e with e1 e2
      obtain ⟨zs, hp, ez⟩ := ih e2
      exact ⟨a :: zs, hp.cons a, by rw [List.map_cons, e1, ez]⟩
  | @swap x y l1 =>
    intro m e
    match m, e with
    | a :: b :: m, e =>
      simp only [List.map_cons] at e
      injection e with e1 e2
      injection e2 with e2 e3
      exact ⟨b :: a :: m, List.Perm.swap a b m, by rw [List.map_cons, List.map_cons, e1, e2, e3]⟩
  | trans p1 p2 ih1 ih2 =>
    intro m e
    obtain ⟨zs, hp, ez⟩ := ih2 e
    obtain ⟨zs2, hp2, ez2⟩ := ih1 ez
    exact ⟨zs2, hp2.trans hp, ez2⟩
end
def sortI : List Int → List Int := sortB fun a b => decide (a < b)
def sortT : List (List Int) → List (List Int) := sortB HT.lexLt
theorem lex_code {B : Int} : ∀ {x y : List Int}, x.length = y.length → TS.Bd B x → TS.Bd B y → HT.lexLt x y = decide (TS.code B x < TS.code B y)
  | [], [], _, _, _ => by
    rw [HT.lexLt_nil_nil]
    exact (decide_eq_false (Int.lt_irrefl _)).symm
  | a :: x, b :: y, hl, h1, h2 => by
    have hl' : x.length = y.length := by simpa using hl
    rw [HT.lexLt_cons]
    by_cases e : a = b
    · subst e
      rw [if_pos rfl, lex_code hl' h1.tail h2.tail]
      exact decide_eq_decide.mpr (TS.code_same hl').symm
    · rw [if_neg e]
      by_cases c : a < b
      · rw [decide_eq_true c, decide_eq_true (TS.code_lt hl' h1.tail h2.tail c)]
      · have c' : b < a := by omega
        have := TS.code_lt hl'.symm h2.tail h1.tail c'
        rw [decide_eq_false c]
        exact (decide_eq_false (by omega)).symm
  | [], b :: y, hl, _, _ => by simp at hl
  | a :: x, [], hl, _, _ => by simp at hl
theorem code_inj {B : Int} : ∀ {x y : List Int}, x.length = y.length → TS.Bd B x → TS.Bd B y → TS.code B x = TS.code B y → x = y
  | [], [], _, _, _, _ => rfl
  | a :: x, b :: y, hl, h1, h2, e => by
    have hl' : x.length = y.length := by simpa using hl
    by_cases ab : a = b
    · subst ab
      have e' : TS.code B x = TS.code B y := by
        have : a * B ^ x.length + TS.code B x = a * B ^ y.length + TS.code B y := e
        rw [hl'] at this
        omega
      rw [code_inj hl' h1.tail h2.tail e']
    · exfalso
      rcases Int.lt_or_gt_of_ne ab with c | c
      · have := TS.code_lt hl' h1.tail h2.tail c
        omega
      · have := TS.code_lt hl'.symm h2.tail h1.tail c
        omega
  | [], b :: y, hl, _, _, _ => by simp at hl
  | a :: x, [], hl, _, _, _ => by simp at hl
theorem bd_some : ∀ bs : List (List Int), (∀ b ∈ bs, ∀ i ∈ b, 0 ≤ i) → ∃ B : Int, ∀ b ∈ bs, TS.Bd B b
  | [], _ => ⟨0, fun b hb => by simp at hb⟩
  | b :: bs, h => by
    obtain ⟨B, hB⟩ := bd_some bs fun c hc => h c (by simp [hc])
    have one : ∀ b : List Int, (∀ i ∈ b, 0 ≤ i) → ∃ C : Int, ∀ i ∈ b, i < C := fun b => by
      induction b with
      | nil => exact fun _ => ⟨0, fun i hi => by simp at hi⟩
      | cons a b ih =>
        intro h
        obtain ⟨C, hC⟩ := ih fun i hi => h i (by simp [hi])
        refine ⟨if C ≤ a then a + 1 else C, fun i hi => ?_⟩
        rcases List.mem_cons.mp hi with e | hi
        · subst e; split <;> omega
        · have := hC i hi
          split <;> omega
    obtain ⟨C, hC⟩ := one b (h b (by simp))
    refine ⟨if C ≤ B then B else C, fun c hc => ?_⟩
    rcases List.mem_cons.mp hc with e | hc
    · subst e
      exact fun i hi => ⟨h c (by simp) i hi, by have := hC i hi; split <;> omega⟩
    · exact fun i hi => ⟨(hB c hc i hi).1, by have := (hB c hc i hi).2; split <;> omega⟩

/-! ### sorted(d), the keys tuples of ints -/
def unK (k : List Key) : List Int := k.map fun k => match k with
  | .inl i => i
  | .inr _ => 0
theorem unK_map : ∀ b : List Int, unK (b.map Sum.inl) = b
  | [] => rfl
  | i :: b => by
    have := unK_map b
    unfold unK at *
    rw [List.map_cons, List.map_cons, this]
theorem call_sortedT {X : Cx} (hcalm : X.calm = true) : CallR X (.builtin "sorted") (fun xs H Q => ∃ (a : Addr) (kvs : List (List Key × V)) (bs : List (List Int)) (d : Nat) (B : Int), xs = [.ref a] ∧ Rd H a (.dT kvs) ∧ kvs.map (·.1) = bs.map (fun b => b.map Sum.inl) ∧ bs.length < 64 ∧ 1 ≤ d ∧
    (∀ b ∈ bs, b.length = d ∧ TS.Bd B b) ∧ ∀ (cs : List (List Int)) (ys : List V) (p : Addr), cs.Perm bs → cs.Pairwise (fun x y => TS.code B x ≤ TS.code B y) → Paired (fun (y : V) (c : List Int) => ∃ q, y = .ref q ∧ H q = some (.tup ((c.map (Sum.inl : Int → Key)).map kV))) ys cs → H p = none → Q (.ref p) (upd H p (.lst ys))) := by
  intro pins s σ H xs us Q I r q
  obtain ⟨a, kvs, bs, d, B, ex, hd, hks, h64, hd1, hbs, q⟩ := q
  subst ex
  obtain ⟨u, eu, rx⟩ := vals1 r
  subst eu
  cases rx
  obtain ⟨z, lo, xs, rel, o, es, ep, h1, h2, h3, h4, _, h5⟩ := dt_rd I.hok hd
  have hxk : xs.map (·.1) = bs.map (fun b => b.map (Sum.inl : Int → Key)) := by
    rw [← hks]
    have : ∀ {kvs : List (List Key × V)} {xs : List (List Key × Addr × Value)}, KT H kvs xs → xs.map (·.1) = kvs.map (·.1) := by
      intro kvs xs r
      induction r with
      | nil => rfl
      | cons h t ih => rw [List.map_cons, List.map_cons, ih, h.1]
    exact this rel
  have hl : xs.length = bs.length := by
    have e := congrArg List.length hxk
    rw [List.length_map, List.length_map] at e
    exact e
  have htr : ∀ x ∈ xs, H x.2.1 = some (.tup (x.1.map kV)) ∧ ∃ b ∈ bs, x.1 = b.map Sum.inl := by
    intro x hx
    constructor
    · have : ∀ {kvs : List (List Key × V)} {xs : List (List Key × Addr × Value)}, KT H kvs xs → ∀ x ∈ xs, H x.2.1 = some (.tup (x.1.map kV)) := by
        intro l m q0
        induction q0 with
        | nil => intro x hx; exact nomatch hx
        | @cons p q ps qs hq t ih =>
          intro x hx
          rcases List.mem_cons.mp hx with e | hx
          · subst e
            rw [← hq.1]
            exact hq.2.1
          · exact ih x hx
      exact this rel x hx
    · have : x.1 ∈ xs.map (·.1) := List.mem_map.mpr ⟨x, hx, rfl⟩
      rw [hxk] at this
      obtain ⟨b, hb, e⟩ := List.mem_map.mp this
      exact ⟨b, hb, e.symm⟩
  have hesz : es.size = xs.length := PySem.size_of_entries h4
  have h16 : es.size ≤ sizeLine := by rw [hesz, hl, sizeLine_eq]; omega
  refine Calls.call_function_entry PyProof.Rows.kind_sorted PyProof.Rows.plain_sorted PyProof.Rows.entry_sorted (PyProof.Rows.args_sorted1 _) ?_
  unfold Builtin.«sorted»
  refine wpAny_bind (m := checkCount "sorted" 1 1 _) (wpAny_pure ?_)
  refine wpAny_bind (PySem.W.kdu_collect (A := X.A.in1) (PySem.KdlSrc.rawDict (es := es) (ep := ep) lo) (I.ok.hd hcalm) (show s.heap.DictRaw a es ep from ⟨o, h1, h2, h3⟩) h16 fun h' tk acc hk hacc => ?_)
  have hacl : acc.toList = xs.map fun x => Value.ref x.2.1 := by
    apply List.ext_getElem?
    intro i
    rw [List.getElem?_map, Array.getElem?_toList]
    by_cases hi : i < acc.size
    · obtain ⟨hi', ev⟩ := hacc.2 i acc[i] (Array.getElem?_eq_getElem hi)
      rw [Array.getElem?_eq_getElem hi, ev]
      have e4 := PySem.entry_at h4 i
      rw [Array.getElem?_eq_getElem hi'] at e4
      cases hx : xs[i]? with
      | none => rw [hx] at e4; cases e4
      | some x =>
        rw [hx] at e4
        have e5 : es[i] = entryOfKey _ x := Option.some.inj e4
        rw [e5]
        rfl
    · have h0 : xs.length ≤ i := by
        have := hacc.1
        omega
      rw [Array.getElem?_eq_none (by omega), List.getElem?_eq_none h0]
      rfl
  have hal : acc.toList.length = bs.length := by rw [hacl, List.length_map, hl]
  have I1 : Inv X pins σ H { s with heap := h', toks := tk } := I.kept hk
  have tI : ∀ x ∈ xs, TS.TupInts h' (.ref x.2.1) (unK x.1) := fun x hx => by
    obtain ⟨hH, b, hb, e⟩ := htr x hx
    have : H x.2.1 = some (.tup (b.map V.int)) := by
      rw [hH, e, List.map_map]
      rfl
    rw [e, unK_map]
    exact tupI_raw I1 (SqT.of this)
  refine wpAny_bind (wpAny_newList ?_ (by rw [hal, sizeLine_eq]; omega))
  have hoL : (h'.push (seqObj "list" acc.toList.toArray 0)).get? h'.objs.size = some (seqObj "list" acc.toList.toArray 0) := Heap.get?_push_size _ rfl
  have tI2 : ∀ x ∈ xs, TS.TupInts (h'.push (seqObj "list" acc.toList.toArray 0)) (.ref x.2.1) (unK x.1) := fun x hx => (tI x hx).keeps fun b o e _ => Heap.get?_push_of_some _ e
  show wpAny _ _ _ _ _ { s with heap := h'.push (seqObj "list" acc.toList.toArray 0), toks := tk }
  refine wpAny_bind (wpAny_holding (wpAny_call_entry PyProof.Rows.slot_list_sort ⟨_, hoL, rfl⟩ PyProof.Rows.entry_list_sort
    (TS.sort_tups (s := { s with heap := h'.push (seqObj "list" acc.toList.toArray 0), toks := tk }) (d := d) (B := B) hoL (by rw [hal]; exact h64) hd1 (fun v hv => ?_) (fun v => TS.code B (TS.intsOf (h'.push (seqObj "list" acc.toList.toArray 0)) v)) (fun v hv ns t => by
      show TS.code B (TS.intsOf _ v) = TS.code B ns
      rw [t.ints]) fun out g1 g2 => ⟨_, rfl, ?_⟩)
    (PyProof.Rows.args_list_sort _)))
  · rw [hacl] at hv
    obtain ⟨x, hx, rfl⟩ := List.mem_map.mp hv
    obtain ⟨_, b, hb, e⟩ := htr x hx
    refine ⟨unK x.1, tI2 x hx, ?_, ?_⟩
    · rw [e, unK_map]; exact (hbs b hb).1
    · rw [e, unK_map]; exact (hbs b hb).2
  · obtain ⟨zs, hzp, hz⟩ := perm_map_inv g1 hacl
    obtain ⟨e', he'⟩ := PyProof.Rows.sortedHeap_at (vs := acc.toList) (out := out) hoL
    have hlen : (zs.map fun x => V.ref x.2.1).length ≤ sizeLine := by
      rw [List.length_map, hzp.length_eq, hl]
      exact Nat.le_trans (Nat.le_of_lt h64) (by decide)
    have hvals : Vals (zs.map fun x => V.ref x.2.1) out.toList := by
      rw [hz]
      have : ∀ l : List (List Key × Addr × Value), Vals (l.map fun x => V.ref x.2.1) (l.map fun x => Value.ref x.2.1) := fun l => by
        induction l with
        | nil => exact .nil
        | cons x l ih => exact .cons rfl ih
      exact this zs
    have hcs : (zs.map fun x => unK x.1).Perm bs := by
      have e1 : (xs.map fun x => unK x.1) = bs := by
        have : xs.map (fun x => unK x.1) = (xs.map (·.1)).map unK := by rw [List.map_map]; rfl
        rw [this, hxk, List.map_map]
        have : (unK ∘ fun b : List Int => b.map (Sum.inl : Int → Key)) = id := funext unK_map
        rw [this, List.map_id]
      rw [← e1]
      exact hzp.map _
    have hpw : (zs.map fun x => unK x.1).Pairwise (fun x y => TS.code B x ≤ TS.code B y) := by
      rw [hz] at g2
      rw [List.pairwise_map] at g2 ⊢
      refine List.Pairwise.imp_of_mem (fun {x y} hx hy hxy => ?_) g2
      have i1 := (tI2 x (hzp.mem_iff.mp hx)).ints
      have i2 := (tI2 y (hzp.mem_iff.mp hy)).ints
      have hxy : TS.code B (TS.intsOf _ (.ref x.2.1)) ≤ TS.code B (TS.intsOf _ (.ref y.2.1)) := hxy
      rw [i1, i2] at hxy
      exact hxy
    have hpr : Paired (fun (y : V) (c : List Int) => ∃ q, y = .ref q ∧ H q = some (.tup ((c.map (Sum.inl : Int → Key)).map kV))) (zs.map fun x => V.ref x.2.1) (zs.map fun x => unK x.1) := by
      have : ∀ l : List (List Key × Addr × Value), (∀ x ∈ l, x ∈ xs) → Paired (fun (y : V) (c : List Int) => ∃ q, y = .ref q ∧ H q = some (.tup ((c.map (Sum.inl : Int → Key)).map kV))) (l.map fun x => V.ref x.2.1) (l.map fun x => unK x.1) := fun l => by
        induction l with
        | nil => exact fun _ => .nil
        | cons x l ih =>
          intro h
          refine .cons ⟨_, rfl, ?_⟩ (ih fun y hy => h y (by simp [hy]))
          obtain ⟨hH, b, hb, e⟩ := htr x (h x (by simp))
          show H x.2.1 = some (.tup (((unK x.1).map (Sum.inl : Int → Key)).map kV))
          rw [hH, e, unK_map]
      exact this zs fun x hx => hzp.mem_iff.mp hx
    refine wpAny_pure ⟨_, rfl, .ref h'.objs.size, upd H h'.objs.size (.lst (zs.map fun x => V.ref x.2.1)), I1.laid (t' := tk) (fun b u e => ?_) (Nat.le_refl _)
      (show ObjOk X.prog X.w _ _ _ (.lst (zs.map fun x => V.ref x.2.1)) from ⟨hlen, out.toList, e', hvals, by rw [Array.toArray_toList]; exact he'⟩), rfl, q _ _ _ hcs hpw hpr (I1.hok.fresh (Nat.le_refl _))⟩
    have hb : b < h'.objs.size := Heap.lt_size e
    rw [PyProof.Rows.sortedHeap_old (Nat.ne_of_lt hb) (by rw [size_push']; exact Nat.lt_succ_of_lt hb)]
    exact Heap.get?_push_of_some _ e

/-! ### sorted, of data -/
def tupsD : List PyData → Option (List (List Int))
  | [] => some []
  | .tuple l :: r => match intsD l with
    | some b => (tupsD r).map (b :: ·)
    | none => none
  | _ :: _ => none
theorem tupsD_eq : ∀ {l : List PyData} {bs : List (List Int)}, tupsD l = some bs → l = bs.map fun b => .tuple (b.map PyData.int)
  | [], _, h => by cases h; rfl
  | .tuple l :: r, bs, h => by
    rw [tupsD] at h
    cases q : intsD l with
    | none => rw [q] at h; cases h
    | some b =>
      rw [q] at h
      dsimp only at h
      cases q2 : tupsD r with
      | none => rw [q2] at h; cases h
      | some cs =>
        rw [q2] at h
        cases h
        rw [List.map_cons, ← intsD_eq q, ← tupsD_eq q2]
  | .none :: _, _, h => by simp [tupsD] at h
  | .bool _ :: _, _, h => by simp [tupsD] at h
  | .str _ :: _, _, h => by simp [tupsD] at h
  | .list _ :: _, _, h => by simp [tupsD] at h
  | .int _ :: _, _, h => by simp [tupsD] at h
  | .dict _ :: _, _, h => by simp [tupsD] at h
theorem tupsD_map : ∀ bs : List (List Int), tupsD (bs.map fun b => .tuple (b.map PyData.int)) = some bs
  | [] => rfl
  | b :: bs => by rw [List.map_cons, tupsD, intsD_map, tupsD_map bs]; rfl
/-- tuples that can be sorted: all of one length, nothing below 0 -/
def evenT : List (List Int) → Bool
  | [] => true
  | b :: bs => decide (1 ≤ b.length) && (b :: bs).all fun c => decide (c.length = b.length) && c.all fun i => decide (0 ≤ i)
theorem evenT_of {bs : List (List Int)} (h : evenT bs = true) : ∃ (d : Nat) (B : Int), 1 ≤ d ∧ ∀ b ∈ bs, b.length = d ∧ TS.Bd B b := by
  cases bs with
  | nil => exact ⟨1, 0, Nat.le_refl _, fun b hb => by simp at hb⟩
  | cons b bs =>
    unfold evenT at h
    rw [Bool.and_eq_true, List.all_eq_true] at h
    have hh : ∀ c ∈ b :: bs, c.length = b.length ∧ ∀ i ∈ c, 0 ≤ i := fun c hc => by
      have := h.2 c hc
      rw [Bool.and_eq_true, List.all_eq_true] at this
      exact ⟨of_decide_eq_true this.1, fun i hi => of_decide_eq_true (this.2 i hi)⟩
    obtain ⟨B, hB⟩ := bd_some (b :: bs) fun c hc => (hh c hc).2
    exact ⟨b.length, B, of_decide_eq_true h.1, fun c hc => ⟨(hh c hc).1, hB c hc⟩⟩
theorem sortT_is {bs cs : List (List Int)} {d : Nat} {B : Int} (p : cs.Perm bs) (h : ∀ b ∈ bs, b.length = d ∧ TS.Bd B b) (hc : cs.Pairwise (fun x y => TS.code B x ≤ TS.code B y)) : cs = sortT bs :=
  sorted_is p (fun x hx y hy => lex_code ((h y hy).1.trans (h x hx).1.symm) (h y hy).2 (h x hx).2) (fun x hx y hy e => code_inj ((h x hx).1.trans (h y hy).1.symm) (h x hx).2 (h y hy).2 e) hc
theorem sortI_is {bs cs : List Int} (p : cs.Perm bs) (hc : cs.Pairwise (· ≤ ·)) : cs = sortI bs :=
  sorted_is (r := id) p (fun x _ y _ => rfl) (fun x _ y _ e => e) hc
def srtL (l : List PyData) : Option (List PyData) := if l.length < 64 then match intsD l with
  | some b => some ((sortI b).map PyData.int)
  | none => match tupsD l with
    | some bs => if evenT bs = true then some ((sortT bs).map fun b => .tuple (b.map PyData.int)) else none
    | none => none
  else none
def srtG : List PyData → Option PyData
  | [.list l] => (srtL l).map .list
  | [.dict l] => (srtL (l.map (·.1))).map .list
  | _ => none
theorem reps_intsL {K : PySem.W.Frag} {H : Hp} : ∀ {b : List Int} {vs : List V}, Reps K H vs (b.map PyData.int) → vs = b.map V.int
  | [], _, h => by cases h; rfl
  | i :: b, _, h => by
    cases h with
    | cons h1 h2 =>
      cases h1
      rw [reps_intsL h2]
      rfl
theorem Reps.perm {K : PySem.W.Frag} {H : Hp} : ∀ {ys xs : List V}, ys.Perm xs → ∀ {ds : List PyData}, Reps K H xs ds → ∃ es : List PyData, es.Perm ds ∧ Reps K H ys es := by
  intro ys xs p
  induction p with
  | nil =>
    intro ds r
    exact ⟨ds, List.Perm.refl _, r⟩
  | cons x p ih =>
    intro ds r
    cases r with
    | @cons _ _ d ds h t =>
      obtain ⟨es, hp, r'⟩ := ih t
      exact ⟨d :: es, hp.cons d, .cons h r'⟩
  | swap x y l =>
    intro ds r
    cases r with
    | @cons _ _ d ds h t =>
      cases t with
      | @cons _ _ d2 ds2 h2 t2 => exact ⟨d2 :: d :: ds2, List.Perm.swap d d2 ds2, .cons h2 (.cons h t2)⟩
  | trans p1 p2 ih1 ih2 =>
    intro ds r
    obtain ⟨es, hp, r'⟩ := ih2 r
    obtain ⟨es2, hp2, r2⟩ := ih1 r'
    exact ⟨es2, hp2.trans hp, r2⟩
theorem repKV_keys {K : PySem.W.Frag} {H : Hp} : ∀ {ps : List (Key × V)} {l : List (PyData × PyData)} {b : List Int}, RepKV K H ps l → intsD (l.map (·.1)) = some b → ps.map (·.1) = b.map Sum.inl
  | _, _, b, .nil, e => by cases e; rfl
  | _, _, b, .cons (k := k) (ds := ds) h t, e => by
    cases k with
    | inr x => simp [kD, intsD] at e
    | inl i =>
      rw [List.map_cons, kD, intsD] at e
      cases q : intsD (ds.map (·.1)) with
      | none => rw [q] at e; cases e
      | some c =>
        rw [q] at e
        cases e
        rw [List.map_cons, List.map_cons, repKV_keys t q]
theorem repTV_keys {K : PySem.W.Frag} {H : Hp} : ∀ {ps : List (List Key × V)} {l : List (PyData × PyData)} {bs : List (List Int)}, RepTV K H ps l → tupsD (l.map (·.1)) = some bs → ps.map (·.1) = bs.map fun b => b.map Sum.inl
  | _, _, b, .nil, e => by cases e; rfl
  | _, _, bs, .cons (b := k) (ds := ds) h t, e => by
    rw [List.map_cons, tupsD, intsD_map] at e
    dsimp only at e
    cases q : tupsD (ds.map (·.1)) with
    | none => rw [q] at e; cases e
    | some c =>
      rw [q] at e
      cases e
      rw [List.map_cons, List.map_cons, repTV_keys t q]
theorem map_len {α β : Type} {f : α → β} {l : List α} {m : List β} (h : l.map f = m) : m.length = l.length := by rw [← h, List.length_map]
theorem cp_sorted {X : Cx} (hc : X.calm = true) : CallP X (.builtin "sorted") srtG := by
  intro pins s σ H xs us Q I r ⟨ds, d, h, e, q⟩
  unfold srtG at e
  split at e
  · rename_i l
    obtain ⟨x, rfl, r1⟩ := repV1 h
    obtain ⟨a, vs, rfl, t, rr⟩ := r1.lst
    cases e1 : srtL l with
    | none => rw [e1] at e; cases e
    | some m =>
      rw [e1] at e
      cases e
      unfold srtL at e1
      split at e1
      case isFalse => cases e1
      rename_i h64
      cases e2 : intsD l with
      | some b =>
        rw [e2] at e1
        cases e1
        have el := intsD_eq e2
        subst el
        have ev := reps_intsL rr
        subst ev
        refine CallR.freeze cr_sorted pins s σ H _ us Q I r ⟨a, b, rfl, t, by simpa using h64, fun ns' p h1 h2 h3 => ⟨p, _, rfl, upd_same, fun o => ?_⟩⟩
        have ex : Ex H (upd (upd H p (.lst (ns'.map V.int))) p (.frz o (.lst (ns'.map V.int)))) := (Ex.new h3).upd2 h3
        have hn := sortI_is h1 h2
        subst hn
        exact q _ _ ex (.lst (.inl ⟨o, upd_same⟩) (reps_ints _))
      | none =>
        rw [e2] at e1
        dsimp only at e1
        cases e3 : tupsD l with
        | none => rw [e3] at e1; cases e1
        | some bs =>
          rw [e3] at e1
          dsimp only at e1
          split at e1
          case isFalse => cases e1
          rename_i hev
          cases e1
          have el := tupsD_eq e3
          subst el
          obtain ⟨dd, B, hd, hbs⟩ := evenT_of hev
          have hrl := rr.length
          refine CallR.freeze (cr_sortT (d := dd) (B := B) hd) pins s σ H _ us Q I r ⟨a, vs, rfl, t, by rw [hrl]; exact h64, fun x hx => ?_, fun ys p h1 h2 h3 => ⟨p, _, rfl, upd_same, fun o => ?_⟩⟩
          · obtain ⟨i, hi⟩ := List.mem_iff_getElem?.mp hx
            obtain ⟨dx, hdx, rx⟩ := rr.getV hi
            rw [List.getElem?_map] at hdx
            obtain ⟨b, hb, rfl⟩ := Option.map_eq_some_iff.mp hdx
            obtain ⟨c, us', rfl, tq, rq⟩ := RepV.tup (.inl rx)
            have := reps_intsL rq
            subst this
            have hmem := List.mem_of_getElem? hb
            exact ⟨b, ⟨c, rfl, tq⟩, (hbs b hmem).1, (hbs b hmem).2⟩
          · obtain ⟨es, hp, r2⟩ := Reps.perm h1 rr
            obtain ⟨cs, hcp, rfl⟩ := perm_map_inv hp rfl
            have tI : ∀ (i : Nat) (y : V) (c : List Int), ys[i]? = some y → cs[i]? = some c → TupI X.K H y c := fun i y c hy hci => by
              obtain ⟨dy, hdy, ry⟩ := r2.getV hy
              rw [List.getElem?_map, hci] at hdy
              cases hdy
              obtain ⟨c', us', rfl, tq, rq⟩ := RepV.tup (.inl ry)
              have := reps_intsL rq
              subst this
              exact ⟨c', rfl, tq⟩
            have hlen := r2.length
            rw [List.length_map] at hlen
            have hpw : cs.Pairwise (fun x y => TS.code B x ≤ TS.code B y) := by
              rw [List.pairwise_iff_getElem] at h2 ⊢
              intro i j hi hj hij
              have := h2 i j (by omega) (by omega) hij cs[i] cs[j] (tI i _ _ (List.getElem?_eq_getElem (by omega)) (List.getElem?_eq_getElem hi)) (tI j _ _ (List.getElem?_eq_getElem (by omega)) (List.getElem?_eq_getElem hj))
              exact this
            have hn := sortT_is hcp hbs hpw
            subst hn
            have ex : Ex H (upd (upd H p (.lst ys)) p (.frz o (.lst ys))) := (Ex.new h3).upd2 h3
            exact q _ _ ex (.lst (.inl ⟨o, upd_same⟩) (Reps.stb ex.stb _ r2))
  · rename_i l
    obtain ⟨x, rfl, r1⟩ := repV1 h
    obtain ⟨a, rfl, hd⟩ := r1.dic
    cases e1 : srtL (l.map (·.1)) with
    | none => rw [e1] at e; cases e
    | some m =>
      rw [e1] at e
      cases e
      unfold srtL at e1
      split at e1
      case isFalse => cases e1
      rename_i h64
      rw [List.length_map] at h64
      cases e2 : intsD (l.map (·.1)) with
      | some b =>
        rw [e2] at e1
        cases e1
        rcases hd with ⟨ps, hr, rp⟩ | ⟨ps, hr, rp, hne⟩
        · have hk := repKV_keys rp e2
          have hbl : b.length < 64 := by
            have h1 := congrArg List.length hk
            rw [List.length_map, List.length_map] at h1
            have h2 := rp.length
            omega
          refine CallR.freeze (call_sortedDI hc) pins s σ H _ us Q I r ⟨a, ps, b, rfl, hr, hk, hbl, fun ys p h1 h2 h3 => ⟨p, _, rfl, upd_same, fun o => ?_⟩⟩
          have ex : Ex H (upd (upd H p (.lst (ys.map V.int))) p (.frz o (.lst (ys.map V.int)))) := (Ex.new h3).upd2 h3
          have hn := sortI_is h1 h2
          subst hn
          exact q _ _ ex (.lst (.inl ⟨o, upd_same⟩) (reps_ints _))
        · exfalso
          cases rp with
          | nil => exact hne rfl
          | cons h t => simp [intsD] at e2
      | none =>
        rw [e2] at e1
        dsimp only at e1
        cases e3 : tupsD (l.map (·.1)) with
        | none => rw [e3] at e1; cases e1
        | some bs =>
          rw [e3] at e1
          dsimp only at e1
          split at e1
          case isFalse => cases e1
          rename_i hev
          cases e1
          obtain ⟨dd, B, hd1, hbs⟩ := evenT_of hev
          rcases hd with ⟨ps, hr, rp⟩ | ⟨ps, hr, rp, hne⟩
          · exfalso
            cases rp with
            | nil => simp [intsD] at e2
            | @cons k v vs d ds h t => cases k <;> simp [tupsD, kD] at e3
          · have hk := repTV_keys rp e3
            have hbl : bs.length < 64 := by
              have h1 := congrArg List.length hk
              rw [List.length_map, List.length_map] at h1
              have h2 := rp.length
              omega
            refine CallR.freeze (call_sortedT hc) pins s σ H _ us Q I r ⟨a, ps, bs, dd, B, rfl, hr, hk, hbl, hd1, hbs, fun cs ys p h1 h2 hpr h3 => ⟨p, _, rfl, upd_same, fun o => ?_⟩⟩
            have ex : Ex H (upd (upd H p (.lst ys)) p (.frz o (.lst ys))) := (Ex.new h3).upd2 h3
            have hn := sortT_is h1 hbs h2
            subst hn
            refine q _ _ ex (.lst (.inl ⟨o, upd_same⟩) ?_)
            have : ∀ {ys : List V} {cs : List (List Int)}, Paired (fun (y : V) (c : List Int) => ∃ q, y = .ref q ∧ H q = some (.tup ((c.map (Sum.inl : Int → Key)).map kV))) ys cs → Reps X.K H ys (cs.map fun b => .tuple (b.map PyData.int)) := by
              intro ys cs pr
              induction pr with
              | nil => exact .nil
              | @cons y c ys cs hh t ih =>
                obtain ⟨q0, rfl, hq0⟩ := hh
                refine .cons (.tup (.inl hq0) ?_) ih
                have e : (c.map (Sum.inl : Int → Key)).map kV = c.map V.int := by rw [List.map_map]; rfl
                rw [e]
                exact reps_ints c
            exact Reps.stb ex.stb _ (this hpr)
  · cases e
end DL

set_option Elab.async false
set_option linter.all false
set_option maxRecDepth 100000
set_option maxHeartbeats 4000000
/-! D19: xs.pop(), xs.pop(i), min and max of lists, d.get. -/
namespace DL
open PySem PySem.Spec PyProof.Rows L2

theorem Reps.dropLast {K : PySem.W.Frag} {H : Hp} {vs : List V} {ds : List PyData} (r : Reps K H vs ds) : Reps K H vs.dropLast ds.dropLast := by
  rw [List.dropLast_eq_take, List.dropLast_eq_take, r.length]
  exact Reps.take _ r
theorem Reps.eraseIdx {K : PySem.W.Frag} {H : Hp} {vs : List V} {ds : List PyData} (n : Nat) (r : Reps K H vs ds) : Reps K H (vs.eraseIdx n) (ds.eraseIdx n) := by
  rw [List.eraseIdx_eq_take_drop_succ, List.eraseIdx_eq_take_drop_succ]
  exact Reps.append (Reps.take n r) (Reps.drop (n + 1) r)
section
variable {X : Cx} {Wx : WX} {o e : Expr} {f g : EF} {apos cpos : Pos}
def eLPop (fo : EF) : EF := fun ρ S => (fo ρ S).bind fun w S1 => match ownL S1 w with
  | some (k, l) => match l[l.length - 1]? with
    | some d => .ok (.d d) (S1.set k (.lst l.dropLast))
    | none => .bad
  | none => .bad
theorem de_lpop (ho : DE X Wx o f) (hbase : attributeBase o "pop" X.env (eval o X.env) = eval o X.env := by rfl) (hline : (apos.endLine == cpos.line) = true := by rfl) : DE X Wx (.Call (.Attribute o "pop" apos) [] [] cpos) (eLPop f) :=
  PE.conv (pe_bm0 PySem.F.plainAttrs_list PySem.F.slot_list_pop PySem.F.type_list_pop mt_pop ho hbase hline) fun σ H Q ⟨ad, ρ, S, sg, rs, q⟩ => by
    refine ⟨ad, ρ, S, sg, rs, post_mono (post_bind q) ?_⟩
    rintro x H1 ⟨ad1, w, S1, fr1, r1, rs1, q1⟩
    cases e1 : ownL S1 w with
    | none => rw [e1] at q1; exact q1.elim
    | some kl =>
      obtain ⟨k, l⟩ := kl
      rw [e1] at q1
      dsimp only at q1
      obtain ⟨a, vs, rfl, ha, hl, rp⟩ := ownL_rep r1 rs1 e1
      cases e2 : l[l.length - 1]? with
      | none => rw [e2] at q1; exact q1.elim
      | some d =>
        rw [e2] at q1
        obtain ⟨v, ev, rv⟩ := rp.get e2
        obtain ⟨f1, f2⟩ := put_own (m := l.dropLast) rs1 ha hl (Reps.dropLast rp)
        exact ⟨ty_own hl, a, vs, v, rfl, rfl, hl, by rw [rp.length]; exact ev, q1 _ _ ad1 f1 (Rep.stb f1.stb _ rv) f2⟩
def eLPopAt (fo fe : EF) : EF := fun ρ S => (fo ρ S).bind fun w S1 => match w with
  | .own k => if noTab S1 k = false then .bad else (fe ρ S1).bind fun x S2 => match ownL S2 (.own k) with
    | some (k, l) => match x with
      | .d (.int i) => if -(2 ^ 63) ≤ i ∧ i < 2 ^ 63 then match ixN l.length i with
        | some j => match l[j]? with
          | some d => .ok (.d d) (S2.set k (.lst (l.eraseIdx j)))
          | none => .bad
        | none => .bad else .bad
      | _ => .bad
    | none => .bad
  | _ => .bad
theorem de_lpopAt (ho : DE X Wx o f) (he : DE X Wx e g) (hbase : attributeBase o "pop" X.env (eval o X.env) = eval o X.env := by rfl)
    (hfew : ((backTo cpos (starEach [e] X.env)).all (fun x => !x.1) && (backToKw cpos (keywordEach [] X.env)).all (fun x => x.1.isSome)
      && decide ([e].length + ([] : List Keyword).length + (if ([] : List Keyword).isEmpty then 0 else 1) < 30)) = true := by rfl)
    (hline : (apos.endLine == cpos.line) = true := by rfl) (hs : starEach [e] X.env = (false, eval e X.env) :: starEach [] X.env := by rfl) : DE X Wx (.Call (.Attribute o "pop" apos) [e] [] cpos) (eLPopAt f g) :=
  PE.conv (pe_bm PySem.F.plainAttrs_list PySem.F.slot_list_pop PySem.F.type_list_pop mt_popAt ho (pa_cons he pa_nil hs) hbase hfew hline hs rfl) fun σ H Q ⟨ad, ρ, S, sg, rs, q⟩ => by
    refine ⟨ad, ρ, S, sg, rs, post_mono (post_bind q) ?_⟩
    rintro x H1 ⟨ad1, w, S1, fr1, r1, rs1, q1⟩
    cases w with
    | d _ => exact q1.elim
    | fn _ _ _ => exact q1.elim
    | own k0 =>
    dsimp only at q1
    split at q1
    · exact q1.elim
    rename_i nt
    refine ⟨own_ty nt r1 rs1, ad1, ρ, S1, sg.fr fr1, rs1, post_mono (post_bind q1) ?_⟩
    rintro y H2 ⟨ad2, wy, S2, fr2, r2, rs2, q2⟩
    cases e1 : ownL S2 (.own k0) with
    | none => rw [e1] at q2; exact q2.elim
    | some kl =>
      obtain ⟨k, l⟩ := kl
      rw [e1] at q2
      dsimp only at q2
      split at q2
      · rename_i i
        split at q2
        · rename_i hi
          cases e2 : ixN l.length i with
          | none => rw [e2] at q2; exact q2.elim
          | some j =>
            rw [e2] at q2
            dsimp only at q2
            cases e3 : l[j]? with
            | none => rw [e3] at q2; exact q2.elim
            | some d =>
              rw [e3] at q2
              obtain ⟨a, vs, rfl, ha, hl, rp⟩ := ownL_rep (r1.fr fr2) rs2 e1
              obtain ⟨v, ev, rv⟩ := rp.get e3
              obtain ⟨f1, f2⟩ := put_own (m := l.eraseIdx j) rs2 ha hl (Reps.eraseIdx j rp)
              cases r2
              exact ⟨a, vs, i, j, v, rfl, rfl, hl, hi.1, hi.2, by rw [rp.length]; exact (ixN_seq e2).1, ev, q2 _ _ ad2 f1 (Rep.stb f1.stb _ rv) f2⟩
        · exact q2.elim
      · exact q2.elim
end

/-! ### min, max of a list of ints -/
def lmin : Int → List Int → Int
  | i, [] => i
  | i, j :: b => lmin (if j < i then j else i) b
def lmax : Int → List Int → Int
  | i, [] => i
  | i, j :: b => lmax (if i < j then j else i) b
theorem lmin_mem : ∀ (b : List Int) (i : Int), lmin i b ∈ i :: b ∧ ∀ y ∈ i :: b, lmin i b ≤ y
  | [], i => ⟨by simp [lmin], fun y hy => by simp at hy; subst hy; exact Int.le_refl _⟩
  | j :: b, i => by
    obtain ⟨h1, h2⟩ := lmin_mem b (if j < i then j else i)
    rw [lmin]
    have hf := h2 _ (List.mem_cons_self ..)
    refine ⟨?_, fun y hy => ?_⟩
    · rcases List.mem_cons.mp h1 with e | h
      · rw [e]; split <;> simp
      · simp [h]
    · simp only [List.mem_cons] at hy
      rcases hy with e | e | hy
      · subst e; generalize lmin _ b = M at hf ⊢; split at hf <;> omega
      · subst e; generalize lmin _ b = M at hf ⊢; split at hf <;> omega
      · exact h2 y (by simp [hy])
theorem lmax_mem : ∀ (b : List Int) (i : Int), lmax i b ∈ i :: b ∧ ∀ y ∈ i :: b, y ≤ lmax i b
  | [], i => ⟨by simp [lmax], fun y hy => by simp at hy; subst hy; exact Int.le_refl _⟩
  | j :: b, i => by
    obtain ⟨h1, h2⟩ := lmax_mem b (if i < j then j else i)
    rw [lmax]
    have hf := h2 _ (List.mem_cons_self ..)
    refine ⟨?_, fun y hy => ?_⟩
    · rcases List.mem_cons.mp h1 with e | h
      · rw [e]; split <;> simp
      · simp [h]
    · simp only [List.mem_cons] at hy
      rcases hy with e | e | hy
      · subst e; generalize lmax _ b = M at hf ⊢; split at hf <;> omega
      · subst e; generalize lmax _ b = M at hf ⊢; split at hf <;> omega
      · exact h2 y (by simp [hy])
def minLG : List PyData → Option PyData
  | [.list l] => match intsD l with
    | some (i :: b) => some (.int (lmin i b))
    | _ => none
  | ds => minG ds
def maxLG : List PyData → Option PyData
  | [.list l] => match intsD l with
    | some (i :: b) => some (.int (lmax i b))
    | _ => none
  | ds => maxG ds
theorem cp_minL {X : Cx} (hc : X.calm = true) : CallP X (.builtin "min") minLG := by
  intro pins s σ H xs us Q I r ⟨ds, d, h, e, q⟩
  unfold minLG at e
  split at e
  · rename_i l
    split at e
    · rename_i i b e2
      cases e
      obtain ⟨x, rfl, r1⟩ := repV1 h
      obtain ⟨a, vs, rfl, t, rr⟩ := r1.lst
      have el := intsD_eq e2
      subst el
      have ev := reps_intsL rr
      subst ev
      refine cr_min hc pins s σ H _ us Q I r ⟨a, i :: b, rfl, t, by simp, fun m h1 h2 => ?_⟩
      obtain ⟨g1, g2⟩ := lmin_mem b i
      have : m = lmin i b := by
        have a1 := h2 _ g1
        have a2 := g2 _ h1
        omega
      subst this
      exact q _ H (Ex.refl H) (.int _)
    · cases e
  · exact cp_min hc pins s σ H xs us Q I r ⟨ds, d, h, e, q⟩
theorem cp_maxL {X : Cx} (hc : X.calm = true) : CallP X (.builtin "max") maxLG := by
  intro pins s σ H xs us Q I r ⟨ds, d, h, e, q⟩
  unfold maxLG at e
  split at e
  · rename_i l
    split at e
    · rename_i i b e2
      cases e
      obtain ⟨x, rfl, r1⟩ := repV1 h
      obtain ⟨a, vs, rfl, t, rr⟩ := r1.lst
      have el := intsD_eq e2
      subst el
      have ev := reps_intsL rr
      subst ev
      refine cr_max hc pins s σ H _ us Q I r ⟨a, i :: b, rfl, t, by simp, fun m h1 h2 => ?_⟩
      obtain ⟨g1, g2⟩ := lmax_mem b i
      have : m = lmax i b := by
        have a1 := h2 _ g1
        have a2 := g2 _ h1
        omega
      subst this
      exact q _ H (Ex.refl H) (.int _)
    · cases e
  · exact cp_max hc pins s σ H xs us Q I r ⟨ds, d, h, e, q⟩
end DL

set_option Elab.async false
set_option linter.all false
set_option maxRecDepth 100000
set_option maxHeartbeats 4000000
/-! X1: the own __init__ of an error that says super().__init__(..). -/
namespace DL
open PySem PySem.Spec PyProof.Rows L2

/-- the frame's environment of a method with its __class__ cell -/
abbrev supEnv (qual : Str) (scope : Scope) (L f cda cc : Addr) : PySem.Env := PySem.W.ksEnv qual scope L f (.ref cda) cc
def supCx (CX : CXT) (P : Program) (w : World) (K : PySem.W.Frag) (mg : Str → Option Value) (base : Heap) (N : List Str) (qual : Str) (scope : Scope) (f cda cc : Addr) (A : Around) (outer : List PySem.Env) (s : Shared) (H : Hp) (E : XK) : Cx where
  prog := P
  w := w
  K := K
  mg := mg
  base := base
  A := A.deeper (supEnv qual scope s.heap.objs.size f cda cc)
  N := N
  s_0 := s
  H_0 := H
  env := supEnv qual scope s.heap.objs.size f cda cc
  outer := outer
  stack := supEnv qual scope s.heap.objs.size f cda cc :: outer
  ex := []
  fn := fun _ => false
  calm := true
  pn := []
  xe := fun e s' => wpAny (model P w) (A.deeper (supEnv qual scope s.heap.objs.size f cda cc)) (leaving (supEnv qual scope s.heap.objs.size f cda cc) e) (fun _ s'' => CX outer H s E e s'') (fun e' s'' => CX outer H s E e' s'') s'
/-- the names of such a method: its parameters, super, __class__ -/
structure SupScope (N ps : List Str) (sc : Scope) : Prop where
  kind : sc.kind = .function
  co : sc.isCoroutine = false
  gen : sc.isGenerator = false
  nd : N.Nodup
  pre : N = ps
  par : ∀ x ∈ ps, sc.names.lookup x = some .local
  only : ∀ y ∈ sc.names, y.2 ≠ .cell ∧ (y.2 = .free → y.1 = "__class__")
  sup : sc.names.lookup ("super" : Str) = some .globalImplicit
  cls : sc.names.lookup ("__class__" : Str) = some .free
theorem lookup_nodup {α β : Type} [BEq α] [LawfulBEq α] : ∀ {l : List (α × β)} {a : α} {b : β}, (l.map (·.1)).Nodup → (a, b) ∈ l → l.lookup a = some b
  | [], _, _, _, h => by cases h
  | (c, d) :: l, a, b, nd, h => by
    rw [List.map_cons, List.nodup_cons] at nd
    rcases List.mem_cons.mp h with e | e
    · cases e
      simp [List.lookup]
    · have hne : (a == c) = false := by
        rw [beq_eq_false_iff_ne]
        intro z
        subst z
        exact nd.1 (List.mem_map.mpr ⟨(a, b), e, rfl⟩)
      simp only [List.lookup, hne]
      exact lookup_nodup nd.2 e
theorem zip_lookup {ps : List Str} {us : List Value} {i : Nat} {x : Str} {u : Value} (nd : ps.Nodup) (hl : us.length = ps.length) (h1 : ps[i]? = some x) (h2 : us[i]? = some u) : (ps.zip us).reverse.lookup x = some u := by
  refine lookup_nodup ?_ (List.mem_reverse.mpr ?_)
  · rw [List.map_reverse, List.map_fst_zip (by omega)]
    exact (List.reverse_perm _).nodup_iff.mpr nd
  · exact List.mem_of_getElem? (i := i) (List.getElem?_zip_eq_some.mpr ⟨h1, h2⟩)
section
variable {CX : CXT} {P : Program} {w : World} {K : PySem.W.Frag} {mg : Str → Option Value} {base : Heap} {N ps : List Str} {qual : Str} {scope : Scope} {f cda cc : Addr}
theorem sup_start {A : Around} {outer : List PySem.Env} {s : Shared} {H : Hp} {E : XK} {us : List Value} {vs : List V} {h₁ : Heap} {tk : Nat} {cv : Option Value} (Sc : SupScope N ps scope) (hd : A.handled = none) (e0 : Env0 P w K mg base A outer s H) (hl : vs.length = ps.length) (r : Vals vs us)
    (hcb : ∃ o, base.get? cc = some o ∧ o.data = .cell cv) (hns : h₁.Ns s.heap.objs.size fun y => (ps.zip us).reverse.lookup y) (kp : ∀ b o, s.heap.get? b = some o → h₁.get? b = some o) :
    Inv (supCx CX P w K mg base N qual scope f cda cc A outer s H E) [] (L2.start N vs) H { s with heap := h₁, toks := tk } := by
  obtain ⟨oc, hoc, hdc⟩ := hcb
  have hN : N.length = ps.length := by rw [Sc.pre]
  have hul : us.length = ps.length := by rw [← hl]; exact r.length.symm
  have cmem : ∀ {y : Str} {c : Addr}, (supEnv qual scope s.heap.objs.size f cda cc).cells.lookup y = some c → y = "__class__" ∧ c = cc := fun {y c} e => by
    have e : ([(("__class__" : Str), cc)] : List (Str × Addr)).lookup y = some c := e
    simp only [List.lookup] at e
    split at e
    · rename_i hb
      cases e
      exact ⟨eq_of_beq hb, rfl⟩
    · cases e
  have st : ∀ {i : Nat} {v : V}, (L2.start N vs)[i]? = some (some v) → vs[i]? = some v := fun {i v} e => by
    unfold L2.start at e
    by_cases hi : i < vs.length
    · rw [List.getElem?_append_left (by simpa using hi), List.getElem?_map] at e
      cases q : vs[i]? with
      | none => rw [q] at e; cases e
      | some a => rw [q] at e; cases e; rfl
    · rw [List.getElem?_append_right (by simpa using hi), List.getElem?_replicate] at e
      split at e <;> cases e
  have inb := e0.bs cc oc hoc
  have noA : ∀ b : Addr, b ∉ (supCx CX P w K mg base N qual scope f cda cc A outer s H E).ex := fun b z => absurd (show b ∈ ([] : List Addr) from z) (by simp)
  refine ⟨⟨e0.mod, Sc.kind, rfl, rfl, Nat.le_refl _, fun y z c h1 h2 => ?_, fun y hy => ?_, fun y c z _ => ?_, fun _ => hd, Around.frames_deeper e0.frames, .inr ⟨rfl, rfl⟩, fun b z => absurd z (noA b), e0.bs, e0.bsz, fun b _ _ => noA b, fun b z => absurd z (noA b), e0.funs, e0.frf⟩,
    rfl, e0.bare, Un.kept kp, ⟨_, hns, fun i y v h1 h2 h3 => ?_⟩, fun y c e => ?_, e0.hok.fresh (Nat.le_refl _), fun y c e => ?_, fun q hq => absurd (show q ∈ ([] : List (Addr × Obj)) ++ [] from hq) (by simp), e0.hok.kept kp, ?_⟩
  · rw [(cmem h1).1, (cmem h2).1]
  · have hy : scope.names.lookup y = some .cell ∨ scope.names.lookup y = some .free := hy
    rcases hy with hx | hx
    · exact absurd rfl (Sc.only _ (PySem.mem_of_lookup hx)).1
    · have := (Sc.only _ (PySem.mem_of_lookup hx)).2 rfl
      have this : y = "__class__" := this
      subst this
      exact ⟨cc, by show ([(("__class__" : Str), cc)] : List (Str × Addr)).lookup ("__class__" : Str) = some cc; simp [List.lookup]⟩
  · have z : false = true := z
    cases z
  · have ha := st h2
    obtain ⟨u, hu, rv⟩ := r.get ha
    have hp : ps[i]? = some y := by rw [← Sc.pre]; exact h1
    exact ⟨u, rv, .inl ⟨Sc.par y (List.mem_of_getElem? hp), zip_lookup (by rw [← Sc.pre]; exact Sc.nd) hul hp hu⟩⟩
  · obtain ⟨_, rfl⟩ := cmem e
    exact ⟨cv, oc, kp _ _ inb.1, hdc⟩
  · obtain ⟨_, rfl⟩ := cmem e
    exact inb.2
  · unfold L2.start
    show List.length _ = N.length
    rw [List.length_append, List.length_map, List.length_replicate]
    omega
end
end DL

set_option Elab.async false
set_option linter.all false
set_option maxRecDepth 100000
set_option maxHeartbeats 4000000
/-! X2: super().__init__(..) as the first statement of such an __init__; the rule sup_of. -/
namespace DL
open PySem PySem.Spec PyProof.Rows L2 PySem.W PySem.Calls

/-- what the written part says for super() in the __init__ at f of the class at D, for an object of the class at C -/
structure SupK (P : Program) (K : Frag) (mg : Str → Option Value) (C D cda cc : Addr) (params : Arguments) (ar : Str) : Prop where
  head : ∃ a, (params.posonlyargs ++ params.args).head? = some a ∧ a.arg = ar
  code : ∃ ccl cdd vs ccs file tf, K.lookup cda = some ⟨ccl, cdd, .fields vs, ccs⟩ ∧ vs[2]? = some (.str file tf) ∧ ((P.main.file : Str) == file) = true
  cell : ∃ cl cld csl, K.lookup cc = some ⟨cl, cld, .cell (some (.ref D)), csl⟩
  cD : ∃ cdD, clsIn K D = some cdD
  sub : mroIn K C (.ref D) = some true
  opq : nsIn K cStatics "thirdparty.any" = some none
  sup : ks_superIn K C D "__init__" = some (some (.builtin "ValueError.__init__"))
  isB : subIn K (.ref C) (.type "ValueError") = some true
  top : (P.main.scope.names.lookup ("super" : Str)).isSome = false
  exC : OexC K C
  mgS : mg "super" = none
theorem clsIn_at {K : Frag} {h : Heap} {D : Addr} {cd : ClassData} (X : K.In h) (hD : clsIn K D = some cd) : ∃ oD, h.get? D = some oD ∧ oD.data = .cls cd := by
  unfold clsIn at hD
  split at hD
  · rename_i c d cd' sl ho
    cases hD
    exact ⟨_, X _ _ ho, rfl⟩
  · cases hD
section
variable {CX : CXT} {P : Program} {w : World} {K : PySem.W.Frag} {mg : Str → Option Value} {base : Heap} {N ps : List Str} {name qual : Str} {params : Arguments} {scope : Scope} {dV kV doc pm ct oc : Value} {an od : Option Addr} {osl : Array (Option Value)} {f cda cc C D a : Addr} {e : Expr} {es : List Expr} {rest body : List Stmt} {p0 p1 p2 p3 p4 : Pos} {ta : TA} {ar : Str}
/-- the method-wrapper called -/
theorem bw_call {X : Cx} {pins : List (Addr × Obj)} {σ : L2.St} {H : Hp} {s : Shared} {u : Addr} {us : List Value} {Q : Value → Shared → Prop} {E : Value → Shared → Prop} (T : OexC X.K C) (I : Inv X pins σ H s) (ea : H a = some (exo a C none)) (hu : s.heap.get? u = some (kxs_mw "ValueError.__init__" a)) (hl : us.length ≤ sizeLine)
    (h : ∀ s', Inv X pins σ H s' → Q .none s') : wpAny (model X.prog X.w) X.A (call (.ref u) us) Q E s := by
  obtain ⟨nm, q, N, bs, bm, sn, sub, ab, col, dd, k0, k1, k2, k3, k5, hC, hbm⟩ := T.cls
  obtain ⟨t1, ho⟩ := exo_at I.hok ea
  have hCC := I.kIn _ _ hC
  obtain ⟨hh, g, d, tk, os⟩ := s
  refine wpAny_call (codeAny_of_tree ?_)
  show wpAny _ X.A.in1 (callAny (.ref u) ⟨us, []⟩) _ _ _
  simp only [callAny]
  refine wpAny_bind (wpAny_load hu ?_)
  simp only [kxs_mw, show (Value.type "method-wrapper" == Value.type "method" || Value.type "method-wrapper" == Value.type "builtin_function_or_method" || Value.type "method-wrapper" == Value.type "method-wrapper") = true by decide, if_true]
  refine KFB.if_so (by decide) ?_
  refine wpAny_bind (check_bound_init F.excBase_ValueError.toExcCallFacts hCC ho rfl ?_)
  refine wpAny_bind (wpAny_pure (wpAny_pure ?_))
  refine ⟨plainId_quiet F.excBase_ValueError.init.plain _, codeAny_builtin F.excBase_ValueError.initEntry ?_⟩
  refine exc_init_tree (cls := .ref C) (t0 := t1) (dv := none) (c2 := .none) (c3 := .none) (b4 := .bool false) ho hl fun h' k hx _ => ?_
  have J := I.write (t' := tk) (x := a) (e := a) (o := exo a C none) (by rw [ea]; exact True.intro) (.inl rfl) k ⟨_, hx⟩ (exo_ok hx)
  have eu : upd H a (exo a C none) = H := by
    funext b
    by_cases hb : b = a
    · rw [hb, upd_same, ea]
    · rw [upd_ne hb]
  rw [eu] at J
  exact h _ J
theorem bw_with {M : Model} {A : Around} {s : Shared} {E : Value → Shared → Prop} {pos : Pos} {env : PySem.Env} {e : Expr} {rest : List Expr} {u x : Addr} {i : String} {Q : Value → Shared → Prop}
    (h : wpAny M A (spliced (backTo pos (starEach (e :: rest) env))) (fun vs s₁ => KxsAt i u x s₁.heap ∧ wpAny M A (call (.ref u) vs) Q E s₁) E s)
    (he : starEach (e :: rest) env = (false, eval e env) :: starEach rest env) (hplain : (backTo pos (starEach rest env)).any (·.1) = false) :
    wpAny M A (callWith pos (.ref u) [] (backTo pos (starEach (e :: rest) env)) []) Q E s := by
  rw [he] at h ⊢
  refine kxs_callWith (i := i) (x := x) (by show (false || (backTo pos (starEach rest env)).any (·.1)) = false; rw [hplain]; rfl) ?_
  exact evalArgs_plain h
theorem sup_first {pl : Sem Bool} {A : Around} {outer : List PySem.Env} {s0 : Shared} {H0 : Hp} {E0 : XK} {σ : L2.St} {H : Hp} {s : Shared} {Q : Flow → Shared → Prop} {R : Hp → Prop} (S : SupScope N ps scope)
    (lk : K.lookup f = some ⟨oc, od, .func (ksFn name qual params body scope dV kV doc pm an (.ref cda) ct cc), osl⟩) (F : SupK P K mg C D cda cc params ar) (h0 : N[0]? = some ar) (hcd : (ar == ("__debug__" : Str)) = false)
    (I : Inv (supCx CX P w K mg base N qual scope f cda cc A outer s0 H0 E0) [] σ H s) (hσ : σ[0]? = some (some (.ref a))) (ea : H a = some (exo a C none)) (ha : PA (supCx CX P w K mg base N qual scope f cda cc A outer s0 H0 E0) (e :: es) ta)
    (h : ta σ H fun ws H1 => ws.length ≤ 1000 ∧ H1 a = some (exo a C none) ∧ R H1) (hq : ∀ s' H1, Inv (supCx CX P w K mg base N qual scope f cda cc A outer s0 H0 E0) [] σ H1 s' → R H1 → Q .next s')
    (hplain : (backTo p3 (starEach es (supEnv qual scope s0.heap.objs.size f cda cc))).any (·.1) = false)
    (he : starEach (e :: es) (supEnv qual scope s0.heap.objs.size f cda cc) = (false, eval e (supEnv qual scope s0.heap.objs.size f cda cc)) :: starEach es (supEnv qual scope s0.heap.objs.size f cda cc))
    (hc : eval (.Call (.Attribute (.Call (.Name "super" p0) [] [] p1) "__init__" p2) (e :: es) [] p3) (supEnv qual scope s0.heap.objs.size f cda cc) = (do
      let ov ← attributeBase (.Call (.Name "super" p0) [] [] p1) "__init__" (supEnv qual scope s0.heap.objs.size f cda cc) (eval (.Call (.Name "super" p0) [] [] p1) (supEnv qual scope s0.heap.objs.size f cda cc))
      standAt p2.atName
      let (f1, first) ← holding [ov] (getMethod ov "__init__" pl)
      callWith p3 f1 first (backTo p3 (starEach (e :: es) (supEnv qual scope s0.heap.objs.size f cda cc))) []))
    (hi : interactive (supEnv qual scope s0.heap.objs.size f cda cc) = false)
    (hs : swapsWith (.Call (.Attribute (.Call (.Name "super" p0) [] [] p1) "__init__" p2) (e :: es) [] p3) none p4.line (supEnv qual scope s0.heap.objs.size f cda cc) = pure false) :
    _root_.PySem.wpAt (model P w) (A.deeper (supEnv qual scope s0.heap.objs.size f cda cc)) (.func body (supEnv qual scope s0.heap.objs.size f cda cc)) (exec (.Expr (.Call (.Attribute (.Call (.Name "super" p0) [] [] p1) "__init__" p2) (e :: es) [] p3) p4) (supEnv qual scope s0.heap.objs.size f cda cc)) Q
      (supCx CX P w K mg base N qual scope f cda cc A outer s0 H0 E0).xe s := by
  obtain ⟨hd1, hhead, harg⟩ := F.head
  obtain ⟨ccl, cdd, cvs, ccs, file, tf, hcode, hvs, hfile⟩ := F.code
  obtain ⟨cl, cld, csl, hcell⟩ := F.cell
  obtain ⟨cdD, hD⟩ := F.cD
  have X : K.In s.heap := I.kIn
  obtain ⟨oD, hD1, hD2⟩ := clsIn_at X hD
  obtain ⟨t1, ho⟩ := exo_at I.hok ea
  have hhs : ks_superIn K C D "__init__" = _ := F.sup
  obtain ⟨cdC, hC⟩ : ∃ cdC, clsIn K C = some cdC := by
    cases hc : clsIn K C with
    | none => unfold ks_superIn at hhs; rw [hc] at hhs; cases hhs
    | some cd => exact ⟨cd, rfl⟩
  have hsup : alongIn K "__init__" ((cdC.mro.dropWhile (· != .ref D)).drop 1) = some (some (.builtin "ValueError.__init__")) := by
    unfold ks_superIn at hhs
    rw [hC] at hhs
    exact hhs
  have haC : a ≠ C := by
    obtain ⟨nm, q, N', bs, bm, sn, sub, ab, col, dd, k0, k1, k2, k3, k5, hCl, hbm⟩ := F.exC.cls
    rintro rfl
    have := (I.bs _ _ (I.ok.mod.kin _ _ hCl)).2
    rw [ea] at this
    cases this
  refine ks_wpAt_Expr_any ?_ hi hs
  refine ks_wpAt_MethodCall (pl := pl) ?_ hc
  refine ks_wpAt_super_base (env := supEnv qual scope s0.heap.objs.size f cda cc) S.sup S.cls (by decide) rfl (X _ _ lk) rfl hhead rfl (X _ _ hcode) rfl hvs hfile F.top ?_
  have hlg : wpAny (model P w) (A.deeper (supEnv qual scope s0.heap.objs.size f cda cc)) (loadGlobal (supEnv qual scope s0.heap.objs.size f cda cc) "super") (fun v s' => v = .type "super" ∧ s' = s) (fun _ _ => False) s := by
    obtain ⟨mb, h1, h2⟩ := I.mod.blt
    exact Calls.loadGlobal_builtin (by show s.heap.Ns mainGlobals _; exact I.mod.glob.keeps I.bk) F.mgS (by show s.heap.Ns builtinsNs _; exact h1.keeps I.bk) ((h2 ("super" : Str) (by decide)).trans PyProof.Rows.Boot.«super») ⟨rfl, rfl⟩
  refine ks_loadName_global S.kind S.sup (wpAny_mono hlg (fun v s' hv => ?_) fun _ _ z => z.elim)
  obtain ⟨rfl, hv⟩ := hv
  rw [hv]
  clear hv s'
  refine ⟨rfl, ?_⟩
  refine wpAny_loadName_free S.kind S.cls (by show ([(("__class__" : Str), cc)] : List (Str × Addr)).lookup ("__class__" : Str) = some cc; simp [List.lookup]) ⟨_, X _ _ hcell, rfl⟩ ?_
  obtain ⟨m, hn, hl⟩ := I.loc
  have hloc : scope.names.lookup ar = some .local := S.par ar (by rw [← S.pre]; exact List.mem_of_getElem? h0)
  obtain ⟨u, r, l⟩ := hl 0 ar (.ref a) h0 hσ (.inl hloc)
  obtain rfl : u = Value.ref a := r
  rcases l with ⟨hk, hm⟩ | ⟨hk, c, hc, hcell'⟩
  rotate_left
  · rcases hk with hk | hk
    · rw [show scope.names.lookup ar = _ from hk] at hloc; cases hloc
    · rw [show scope.names.lookup ar = _ from hk] at hloc; cases hloc
  subst harg
  refine wpAny_loadName_local S.kind hloc hn hm ?_
  refine ks_wpAny_isType_cls hD1 hD2 ⟨rfl, ?_⟩
  obtain ⟨hh, g, d, t, os⟩ := s
  refine ks_wpAny_call_super hD1 hD2 ho rfl (fun c e => by cases e) (looks_mroIn X F.sub) (fun h' hso k => ?_)
  have I2 := I.kept (t' := t) k
  have X2 : K.In h' := I2.kIn
  have ho2 := k _ _ ho
  refine kxs_getMethod kxs_ValueError hso (looks_opaque X2 F.opq) (l₀ := cdC.mro) ?_ rfl X2 hsup ?_ haC (by decide) ?_
  · exact fun A Q E s k q => wpAny_bind ((looks_clsIn X2 hC) A _ E s k (wpAny_pure q))
  · have II : InstAt h' a { cls := .ref C, dict := none, data := .fields #[.ref t1, .none, .none, .none, .bool false, .none] } C none := ⟨ho2, rfl, rfl, trivial⟩
    exact II.type.andThen (looks_subIn X2 F.isB)
  have k3 : ∀ b o, h'.get? b = some o → (h'.push (kxs_mw "ValueError.__init__" a)).get? b = some o := fun b o e => Heap.get?_push_of_some _ e
  have I3 := I2.kept (t' := t + 1) k3
  have hu : (h'.push (kxs_mw "ValueError.__init__" a)).get? h'.objs.size = some (kxs_mw "ValueError.__init__" a) := Heap.get?_push_at rfl rfl
  have I4 := I3.pins_of (pins' := [(h'.objs.size, kxs_mw "ValueError.__init__" a)]) (fun p hp => by
    obtain rfl : p = _ := List.mem_singleton.mp hp
    refine ⟨hu, I2.hok.fresh (Nat.le_refl _), ?_, ?_, fun v z => by cases z⟩
    · exact Nat.ne_of_gt I2.lt
    · exact I2.nofs (Nat.le_refl _))
  refine bw_with (i := "ValueError.__init__") (x := a) ?_ he hplain
  refine thn (ha.run p3 _ _ σ H _ I4 h) fun us s1 ⟨ws, H1, I5, r1, hl, ea1, q⟩ => ?_
  have hp := (I5.pin (h'.objs.size, kxs_mw "ValueError.__init__" a) (List.mem_append_right _ (List.mem_singleton.mpr rfl))).1
  refine ⟨hp, ?_⟩
  refine bw_call F.exC I5 ea1 hp (by rw [← r1.length, sizeLine_eq]; omega) fun s' J => ?_
  exact hq s' H1 (J.pins_of fun p hp => absurd hp (by simp)) q
end
end DL

set_option Elab.async false
set_option linter.all false
set_option maxRecDepth 100000
set_option maxHeartbeats 4000000
/-! X3: THE RULE sup_of: the __init__ of an own error, its first statement super().__init__(..). -/
namespace DL
open PySem PySem.Spec PyProof.Rows L2 PySem.W PySem.Calls
theorem sup_of {CX : CXT} {P : Program} {w : World} {K : PySem.W.Frag} {mg : Str → Option Value} {base : Heap} {k : Nat} {f cda cc D : Addr} {name qual ar : Str} {params : Arguments} {e : Expr} {es : List Expr} {rest : List Stmt} {p0 p1 p2 p3 p4 : Pos} {scope : Scope} {dV kV doc pm ct oc : Value} {an od : Option Addr}
    {osl : Array (Option Value)} {N ps : List Str} {sp : Sp} {pl : Addr → Sem Bool}
    (lk : K.lookup f = some ⟨oc, od, .func (ksFn name qual params (.Expr (.Call (.Attribute (.Call (.Name "super" p0) [] [] p1) "__init__" p2) (e :: es) [] p3) p4 :: rest) scope dV kV doc pm an (.ref cda) ct cc), osl⟩)
    (hcd : codeIn K (.ref cda) qual = true) (S : SupScope N ps scope) (h0 : N[0]? = some ar) (hdb : (ar == ("__debug__" : Str)) = false)
    (len : ∀ vs H Q E, sp vs H Q E → vs.length = ps.length)
    (hp : ∀ L : Addr, (backTo p3 (starEach es (supEnv qual scope L f cda cc))).any (·.1) = false)
    (he : ∀ L : Addr, starEach (e :: es) (supEnv qual scope L f cda cc) = (false, eval e (supEnv qual scope L f cda cc)) :: starEach es (supEnv qual scope L f cda cc))
    (hc : ∀ L : Addr, eval (.Call (.Attribute (.Call (.Name "super" p0) [] [] p1) "__init__" p2) (e :: es) [] p3) (supEnv qual scope L f cda cc) = (do
      let ov ← attributeBase (.Call (.Name "super" p0) [] [] p1) "__init__" (supEnv qual scope L f cda cc) (eval (.Call (.Name "super" p0) [] [] p1) (supEnv qual scope L f cda cc))
      standAt p2.atName
      let (f1, first) ← holding [ov] (getMethod ov "__init__" (pl L))
      callWith p3 f1 first (backTo p3 (starEach (e :: es) (supEnv qual scope L f cda cc))) []))
    (hi : ∀ L : Addr, interactive (supEnv qual scope L f cda cc) = false)
    (hs : ∀ L : Addr, swapsWith (.Call (.Attribute (.Call (.Name "super" p0) [] [] p1) "__init__" p2) (e :: es) [] p3) none p4.line (supEnv qual scope L f cda cc) = pure false)
    (hbody : ∀ (A : Around) (outer : List PySem.Env) (s : Shared) (H : Hp) (vs : List V) (Q : VK) (E : XK), Room k (A.deeper (supEnv qual scope s.heap.objs.size f cda cc)) → sp vs H Q E →
      ∃ (a C : Addr) (ys : List V) (ta : TA) (t : TS), vs = .ref a :: ys ∧ SupK P K mg C D cda cc params ar ∧ H a = some (exo a C none) ∧ PA (supCx CX P w K mg base N qual scope f cda cc A outer s H E) (e :: es) ta ∧
        PSs (supCx CX P w K mg base N qual scope f cda cc A outer s H E) rest t ∧
        ta (L2.start N vs) H fun ws H1 => ws.length ≤ 1000 ∧ H1 a = some (exo a C none) ∧ t { nx := fun _ H' => Q .non H', rt := Q } (L2.start N vs) H1) :
    FnOk P w K mg base CX (k + 1) f (ksFn name qual params (.Expr (.Call (.Attribute (.Call (.Name "super" p0) [] [] p1) "__init__" p2) (e :: es) [] p3) p4 :: rest) scope dV kV doc pm an (.ref cda) ct cc) ps sp := by
  refine ⟨len, fun A outer s H args us vs Q E hr e0 hb r hsp => ?_⟩
  have hl := len _ _ _ _ hsp
  have KX : K.In s.heap := e0.mod.kin.keeps fun b o e => (e0.bs b o e).1
  have lim : s.heap.NoLimit := e0.mod.nolimit.keeps fun b o e => (e0.bs b o e).1
  obtain ⟨a, C, ys, ta, t, ev, F, ea, ha, ht, hq⟩ := hbody A outer s H vs Q E (hr.deeper _) hsp
  have hcb : ∃ o, base.get? cc = some o ∧ o.data = .cell (some (.ref D)) := by
    obtain ⟨cl, cld, csl, hcell⟩ := F.cell
    exact ⟨_, e0.mod.kin _ _ hcell, rfl⟩
  refine ks_codeAny_call_defAt (fd := ksFn name qual params (.Expr (.Call (.Attribute (.Call (.Name "super" p0) [] [] p1) "__init__" p2) (e :: es) [] p3) p4 :: rest) scope dV kV doc pm an (.ref cda) ct cc) hr.depth (KX _ _ lk) rfl lim (PySem.W.codeRec_of KX hcd) rfl hb (fun x hx => (S.only x hx).1)
    (fun y hy => S.par y.1 (List.of_mem_zip hy).1) (fun h₁ hns kp => ?_) S.co S.gen S.kind
  have I : Inv (supCx CX P w K mg base N qual scope f cda cc A outer s H E) [] (L2.start N vs) H { s with heap := h₁, toks := s.toks + (ps.zip us).length } := sup_start S hr.hd e0 hl r hcb hns kp
  have fin : ∀ {σ' : L2.St} {H' : Hp} {v : V} {u : Value} {s' : Shared}, Inv (supCx CX P w K mg base N qual scope f cda cc A outer s H E) [] σ' H' s' → L2.RelV v u → Q v H' → CE outer P w H s Q u s' :=
    fun {σ' H' v u s'} J rv q => ⟨v, H', J.os, J.bare, J.base, J.hok, rv, q⟩
  have hσ : (L2.start N vs)[0]? = some (some (.ref a)) := by
    rw [ev]
    rfl
  refine ks_wpAt_execs_cons (sup_first (R := fun H1 => t { nx := fun _ H' => Q .non H', rt := Q } (L2.start N vs) H1) S lk F h0 hdb I hσ ea ha hq (fun s' H1 J q => ?_) (hp _) (he _) (hc _) (hi _) (hs _))
  refine wpAt_of_wpAny (wpAny_mono (ht.run [] s' (L2.start N vs) H1 _ J q) (fun fl s'' hs => ?_) fun _ _ z => z)
  cases fl with
  | ret u =>
    obtain ⟨v, σ', H', J, rv, q⟩ := hs
    exact fin J rv q
  | next =>
    obtain ⟨σ', H', J, q⟩ := hs
    exact fin (v := V.non) (u := Value.none) J rfl q
  | brk =>
    obtain ⟨_, _, _, q⟩ := hs
    exact False.elim q
  | cont =>
    obtain ⟨_, _, _, q⟩ := hs
    exact False.elim q
end DL

set_option Elab.async false
set_option linter.all false
set_option maxRecDepth 100000
set_option maxHeartbeats 4000000
/-! X4: the __init__ of an own error with one field or two; what it keeps. -/
namespace DL
open PySem PySem.Spec PyProof.Rows L2 PySem.W PySem.Calls
/-- what the __init__ of the class at C keeps, under the names fs -/
def spInit (C : Addr) (fs : List Str) : Sp := fun vs H Q _ => ∃ a ys, vs = .ref a :: ys ∧ ys.length = fs.length ∧ H a = some (exo a C none) ∧ ∀ dx, H dx = none → dx ≠ a → Q .non (upd (upd H dx (exd dx (fs.zip ys).reverse)) a (exo a C (some dx)))
theorem upd_upd_swap {H : Hp} {dx a : Addr} {o1 o2 o3 : HO} (ne : dx ≠ a) : upd (upd (upd H dx o1) a o2) dx o3 = upd (upd H dx o3) a o2 := by
  funext b
  by_cases h1 : b = dx
  · subst h1
    rw [upd_same, upd_ne ne, upd_same]
  · rw [upd_ne h1]
    by_cases h2 : b = a
    · subst h2
      rw [upd_same, upd_same]
    · rw [upd_ne h2, upd_ne h2, upd_ne h1, upd_ne h1]
section
variable {P : Program} {w : World} {K : PySem.W.Frag} {mg : Str → Option Value} {base : Heap} {k : Nat} {f cda cc C D : Addr} {qual x y fl gl : Str} {st : Stmt} {p0 p1 p2 p3 p4 pa pb pc pd pe pf pg ph pi pj : Pos} {dV kV doc pm ct oc : Value} {an od : Option Addr} {osl : Array (Option Value)} {pl : Addr → Sem Bool}
theorem init1 (lk : K.lookup f = some ⟨oc, od, .func (ksFn "__init__" qual (defArgs st) (defBody st) (defScope st) dV kV doc pm an (.ref cda) ct cc), osl⟩) (hcd : codeIn K (.ref cda) qual = true)
    (hbd : defBody st = [.Expr (.Call (.Attribute (.Call (.Name "super" p0) [] [] p1) "__init__" p2) [.Name x pa] [] p3) p4, .Assign [.Attribute (.Name "self" pb) fl pc] (.Name x pd) pe])
    (S : SupScope ["self", x] ["self", x] (defScope st)) (F : SupK P K mg C D cda cc (defArgs st) "self") (hno : findIn K (.ref C) fl = some none)
    (hx1 : (x == ("__debug__" : Str)) = false) (hx2 : (x == ("__classdict__" : Str)) = false)
    (hc : ∀ L : Addr, eval (.Call (.Attribute (.Call (.Name "super" p0) [] [] p1) "__init__" p2) [.Name x pa] [] p3) (supEnv qual (defScope st) L f cda cc) = (do
      let ov ← attributeBase (.Call (.Name "super" p0) [] [] p1) "__init__" (supEnv qual (defScope st) L f cda cc) (eval (.Call (.Name "super" p0) [] [] p1) (supEnv qual (defScope st) L f cda cc))
      standAt p2.atName
      let (f1, first) ← holding [ov] (getMethod ov "__init__" (pl L))
      callWith p3 f1 first (backTo p3 (starEach [.Name x pa] (supEnv qual (defScope st) L f cda cc))) [])) :
    FnOk P w K mg base (L2.CX P w) (k + 1) f (ksFn "__init__" qual (defArgs st) (defBody st) (defScope st) dV kV doc pm an (.ref cda) ct cc) ["self", x] (spInit C [fl]) := by
  rw [hbd] at lk ⊢
  refine sup_of (D := D) (ar := "self") lk hcd S rfl (by decide) (fun vs H Q E ⟨a, ys, e, hl, _⟩ => by rw [e]; simpa using hl) (fun _ => rfl) (fun _ => rfl) hc (fun _ => by simp [interactive, S.kind]) (fun _ => rfl) ?_
  rintro A outer s H vs Q E hr ⟨a, ys, rfl, hl, ea, hq⟩
  match ys, hl with
  | [y1], _ =>
    refine ⟨a, C, [y1], _, _, rfl, F, ea, pa_cons (pe_var (i := 1) rfl (.inl (S.par x (by simp))) hx1 hx2) pa_nil, pss_one (ps_ost (pe_var (i := 0) rfl (.inl (S.par "self" (by simp)))) (pe_var (i := 1) rfl (.inl (S.par x (by simp))) hx1 hx2)), ?_⟩
    refine ⟨y1, rfl, ?_⟩
    refine ⟨by simp, ea, ?_⟩
    refine ⟨y1, rfl, .ref a, rfl, a, C, rfl, F.exC, hno, .inl ⟨ea, fun dx n ne => ?_⟩⟩
    exact hq dx n ne
theorem init2 (lk : K.lookup f = some ⟨oc, od, .func (ksFn "__init__" qual (defArgs st) (defBody st) (defScope st) dV kV doc pm an (.ref cda) ct cc), osl⟩) (hcd : codeIn K (.ref cda) qual = true)
    (hbd : defBody st = [.Expr (.Call (.Attribute (.Call (.Name "super" p0) [] [] p1) "__init__" p2) [.Name x pa, .Name y pf] [] p3) p4, .Assign [.Attribute (.Name "self" pb) fl pc] (.Name x pd) pe, .Assign [.Attribute (.Name "self" pg) gl ph] (.Name y pi) pj])
    (S : SupScope ["self", x, y] ["self", x, y] (defScope st)) (F : SupK P K mg C D cda cc (defArgs st) "self") (hno : findIn K (.ref C) fl = some none) (hno2 : findIn K (.ref C) gl = some none)
    (hx1 : (x == ("__debug__" : Str)) = false) (hx2 : (x == ("__classdict__" : Str)) = false) (hy1 : (y == ("__debug__" : Str)) = false) (hy2 : (y == ("__classdict__" : Str)) = false)
    (hc : ∀ L : Addr, eval (.Call (.Attribute (.Call (.Name "super" p0) [] [] p1) "__init__" p2) [.Name x pa, .Name y pf] [] p3) (supEnv qual (defScope st) L f cda cc) = (do
      let ov ← attributeBase (.Call (.Name "super" p0) [] [] p1) "__init__" (supEnv qual (defScope st) L f cda cc) (eval (.Call (.Name "super" p0) [] [] p1) (supEnv qual (defScope st) L f cda cc))
      standAt p2.atName
      let (f1, first) ← holding [ov] (getMethod ov "__init__" (pl L))
      callWith p3 f1 first (backTo p3 (starEach [.Name x pa, .Name y pf] (supEnv qual (defScope st) L f cda cc))) [])) :
    FnOk P w K mg base (L2.CX P w) (k + 1) f (ksFn "__init__" qual (defArgs st) (defBody st) (defScope st) dV kV doc pm an (.ref cda) ct cc) ["self", x, y] (spInit C [fl, gl]) := by
  rw [hbd] at lk ⊢
  refine sup_of (D := D) (ar := "self") lk hcd S rfl (by decide) (fun vs H Q E ⟨a, ys, e, hl, _⟩ => by rw [e]; simpa using hl) (fun _ => rfl) (fun _ => rfl) hc (fun _ => by simp [interactive, S.kind]) (fun _ => rfl) ?_
  rintro A outer s H vs Q E hr ⟨a, ys, rfl, hl, ea, hq⟩
  match ys, hl with
  | [y1, y2], _ =>
    refine ⟨a, C, [y1, y2], _, _, rfl, F, ea, pa_cons (pe_var (i := 1) rfl (.inl (S.par x (by simp))) hx1 hx2) (pa_cons (pe_var (i := 2) rfl (.inl (S.par y (by simp))) hy1 hy2) pa_nil),
      pss_cons (ps_ost (pe_var (i := 0) rfl (.inl (S.par "self" (by simp)))) (pe_var (i := 1) rfl (.inl (S.par x (by simp))) hx1 hx2)) (pss_one (ps_ost (pe_var (i := 0) rfl (.inl (S.par "self" (by simp)))) (pe_var (i := 2) rfl (.inl (S.par y (by simp))) hy1 hy2))), ?_⟩
    refine ⟨y1, rfl, y2, rfl, ?_⟩
    refine ⟨by simp, ea, ?_⟩
    refine ⟨y1, rfl, .ref a, rfl, a, C, rfl, F.exC, hno, .inl ⟨ea, fun dx n ne => ?_⟩⟩
    refine ⟨y2, rfl, .ref a, rfl, a, C, rfl, F.exC, hno2, .inr ⟨dx, [(fl, y1)], upd_same, by rw [upd_ne ne, upd_same], by simp, ?_⟩⟩
    have := hq dx n ne
    rw [upd_upd_swap ne]
    exact this
end
end DL

set_option Elab.async false
set_option linter.all false
set_option maxRecDepth 100000
set_option maxHeartbeats 4000000
/-! X5: raise X(..), X an own error. -/
namespace DL
open PySem PySem.Spec PyProof.Rows L2
def allD : List Wv → Option (List PyData)
  | [] => some []
  | .d x :: r => (allD r).map (x :: ·)
  | _ :: _ => none
theorem allD_reps {K : PySem.W.Frag} {ad : List Addr} {H : Hp} : ∀ {ws : List Wv} {vs : List V} {ds : List PyData}, RepWs K ad H vs ws → allD ws = some ds → Reps K H vs ds
  | [], _, _, .nil, e => by
    cases e
    exact .nil
  | .d x :: r, _, ds, .cons h t, e => by
    simp only [allD] at e
    cases q : allD r with
    | none => rw [q] at e; cases e
    | some l =>
      rw [q] at e
      cases e
      exact .cons h (allD_reps t q)
  | .own k :: r, _, ds, .cons h t, e => by cases e
theorem Paired.app {α β : Type} {R : α → β → Prop} : ∀ {l l' : List α} {m m' : List β}, Paired R l m → Paired R l' m' → Paired R (l ++ l') (m ++ m')
  | _, _, _, _, .nil, h => h
  | _, _, _, _, .cons h t, h' => .cons h (Paired.app t h')
theorem Paired.rev {α β : Type} {R : α → β → Prop} : ∀ {l : List α} {m : List β}, Paired R l m → Paired R l.reverse m.reverse
  | _, _, .nil => .nil
  | _, _, .cons h t => by
    rw [List.reverse_cons, List.reverse_cons]
    exact Paired.app (Paired.rev t) (.cons h .nil)
theorem zip_paired {K : PySem.W.Frag} {H : Hp} : ∀ {fs : List Str} {ys : List V} {ds : List PyData}, Reps K H ys ds → Paired (fun (p : Str × V) (q : Str × PyData) => p.1 = q.1 ∧ Rep K H p.2 q.2) (fs.zip ys) (fs.zip ds)
  | [], _, _, _ => .nil
  | f :: fs, _, _, .nil => .nil
  | f :: fs, _, _, .cons h t => .cons ⟨rfl, h⟩ (zip_paired t)
/-- an own error of the text: what it keeps, under the names fs -/
structure Er (P : Program) (w : World) (K : PySem.W.Frag) (mg : Str → Option Value) (base : Heap) (k : Nat) (x : Str) (fs : List Str) : Prop where
  ex : ∃ C fI fd ps, mg x = some (.ref C) ∧ OexC K C ∧ PySem.W.findIn K (.ref C) "__init__" = some (some (.ref fI)) ∧ PySem.W.typeIn K (.ref fI) = some (.type "function") ∧ FnOk P w K mg base (L2.CX P w) k fI fd ps (spInit C fs) ∧ Binds K fd ps []
  few : fs.length ≤ 1000
def sRaise (x : Str) (fs : List Str) (l : LF) : SF := fun ρ S => bindS (l ρ S) ρ fun ws S1 => match allD ws with
  | some ds => if ds.length = fs.length then .exc ⟨x, (fs.zip ds).reverse⟩ ρ S1 else .bad
  | none => .bad
theorem noPass {X : Cx} : Passes (L2.CX X.prog X.w) X (fun _ _ _ => False) := fun pins σ H s e s' I h => by
  obtain ⟨_, _, _, _, _, _, _, _, _, _, _, _, z⟩ := h
  exact z.elim
theorem ds_raise {X : Cx} {Wx : WX} {k : Nat} {x : Str} {fs : List Str} {e : Expr} {es : List Expr} {l : LF} {p pos pos' : Pos} (F : Er X.prog X.w X.K X.mg X.base k x fs) (hc : X.calm = true) (tk : Takes X Wx) (hr : Room (k + 1) X.A) (hg : Gl X x) (ha : DA X Wx (e :: es) l)
    (hdb : (x == ("__debug__" : Str)) = false := by decide) (he : starEach (e :: es) X.env = (false, eval e X.env) :: starEach es X.env := by rfl) (hpl : (backTo pos (starEach es X.env)).any (·.1) = false := by rfl) :
    DS X Wx (.Raise (some (.Call (.Name x p) (e :: es) [] pos)) none pos') (sRaise x fs l) := by
  obtain ⟨⟨C, fI, fd, ps, hm, T, iC, tI, F1, hb⟩, few⟩ := F
  refine PS.conv (ps_raise hc tk (pmk_oex T iC tI F1 hr hb .nil noPass hg hm ha hdb he hpl)) fun D σ H ⟨ad, ρ, S, sg, rs, q⟩ => ?_
  refine ⟨ad, ρ, S, sg, rs, post_mono (bindS_post sg q) ?_⟩
  rintro vs H1 ⟨ad1, ws, S1, fr, rel, rs1, q1⟩
  revert q1
  cases hd : allD ws with
  | none => exact fun z => z.elim
  | some ds =>
    intro q1
    dsimp only at q1
    split at q1
    · rename_i hl
      have rr := allD_reps rel hd
      have hvl := rr.length
      refine ⟨by omega, fun a na => ?_⟩
      refine ⟨a, vs, by simp, by omega, upd_same, fun dx n ne => ⟨rfl, dx, (fs.zip vs).reverse, upd_same, by rw [upd_ne ne, upd_same], by rw [upd_ne ne] at n; exact n, ?_⟩⟩
      have n1 : H1 dx = none := by rw [upd_ne ne] at n; exact n
      have eH : upd (L2.del (upd (upd (upd H1 a (exo a C none)) dx (exd dx (fs.zip vs).reverse)) a (exo a C (some dx))) a) dx (.xd (fs.zip vs).reverse) = upd H1 dx (.xd (fs.zip vs).reverse) := by
        funext b
        by_cases h1 : b = dx
        · subst h1
          rw [upd_same, upd_same]
        · rw [upd_ne h1, upd_ne h1]
          by_cases h2 : b = a
          · subst h2
            rw [L2.del_same, na]
          · rw [L2.del_ne h2, upd_ne h2, upd_ne h1, upd_ne h2]
      rw [eH]
      have ex : Ex H1 (upd H1 dx (.xd (fs.zip vs).reverse)) := Ex.new n1
      exact q1 (.ref C) (some dx) σ _ ad1 ex.fr ((sg.fr fr).fr ex.fr) ⟨C, hm, rfl, .inr ⟨dx, _, rfl, upd_same, Paired.rev (zip_paired (Reps.stb ex.stb ds rr))⟩⟩ (rs1.ex ex)
    · exact q1.elim
end DL

set_option Elab.async false
set_option linter.all false
set_option maxRecDepth 100000
set_option maxHeartbeats 4000000
/-! X6: x(lambda: e), x a def that calls what it got within a try. -/
namespace DL
open PySem PySem.Spec PyProof.Rows L2 LamX
section
variable {X : Cx} {pins : List (Addr × Obj)} {σ : L2.St} {H : Hp} {s : Shared}
/-- the lambda is made; all but the table stays -/
theorem lam_makeD {c P : Addr} {params : Arguments} {body : Expr} {scope : Scope} {pos : Pos} {E : Value → Shared → Prop} {Q : Value → Shared → Prop} (I : Inv X pins σ H s) (TB : TabB X.base X.mg c P) (hcode : X.env.code = .ref c)
    (hT : TabS H P (X.env.qual ++ "<lambda>")) (hdef : defaultsOf params X.env = ([], [])) (hfree : ∀ y ∈ scope.names, y.2 = .free → ∃ c, X.env.cells.lookup y.1 = some c)
    (h : ∀ (f c' : Addr) (pm ctv : Value) (H1 : Hp) (s' : Shared), Inv X pins σ H1 s' → (∀ b o, b ≠ P → H b = some o → H1 b = some o) → TabS H1 P (X.env.qual ++ "<lambda>") →
      s'.heap.get? f = some (PySem.W.kla_obj "<lambda>" (X.env.qual ++ "<lambda>") params body scope (cloFrom X.env.cells scope.names []) pm c' ctv) → H1 f = none → f ∉ frs X.stack → H1 c' = some (CodeO c' (X.env.qual ++ "<lambda>")) → Q (.ref f) s') :
    wpAny (model X.prog X.w) X.A (eval (.Lambda params body scope pos) X.env) Q E s := by
  obtain ⟨ps, hP, ht, ha⟩ := hT
  refine PySem.W.kla_eval hdef ?_
  have bP : s.heap.BuiltinsAt X.mg P := TB.bm.keeps I.bk
  have hP' : s.heap.get? P = some { cls := .none, data := .fields ps } := I.hok P _ hP
  have nofr : ∀ f, s.heap.objs.size ≤ f → f ∉ frs X.stack := fun f hf z => by
    rcases List.mem_cons.mp (I.stkSub _ z) with e | e
    · have h1 := I.lt
      rw [← e] at h1
      exact Nat.lt_irrefl _ (Nat.lt_of_lt_of_le h1 hf)
    · exact I.nofs hf e
  cases hc : codeAmong pos ps.toList with
  | none =>
    refine PySem.W.kla_makeFunction (mg := X.mg) (c := c) (P := P) (ps := ps) (closure_ok hfree) I.ok.glob (I.mod.glob.keeps I.bk) hcode (TB.code.keeps I.bk) hP' ht hc TB.gP bP fun c' ctv h' tk hx hge hlt hrec htb => ?_
    obtain ⟨c2, oc, vs, t, e2, hoc, hd, hv⟩ := hrec
    cases e2
    have nC : H c' = none := I.hok.fresh hge
    have hsz : s.heap.objs.size ≤ h'.objs.size := Nat.le_trans hge (Nat.le_of_lt hlt)
    have I1 := inv_table (t' := tk) (more := #[rawInt pos.line, rawInt pos.col, .ref c']) (h' := h'.push (PySem.W.kla_obj "<lambda>" (X.env.qual ++ "<lambda>") params body scope (cloFrom X.env.cells scope.names []) ((X.mg "__name__").getD .none) c' ctv)) I hP
      (fun b o hb e => Heap.get?_push_of_some _ (hx b o hb e)) (Heap.get?_push_of_some _ htb) hge ⟨oc, vs, t, Heap.get?_push_of_some _ hoc, hd, hv⟩
    have st : ∀ b o, b ≠ P → H b = some o → upd (upd H P (.tbl (ps ++ #[rawInt pos.line, rawInt pos.col, .ref c']))) c' (CodeO c' (X.env.qual ++ "<lambda>")) b = some o := fun b o hb e => by
      rw [upd_ne (ne_of_none e nC), upd_ne hb]
      exact e
    have eL : (ps ++ #[rawInt pos.line, rawInt pos.col, .ref c']).toList = ps.toList ++ [rawInt pos.line, rawInt pos.col, .ref c'] := by simp
    have neP : ∀ c0, H c0 = some (CodeO c0 (X.env.qual ++ "<lambda>")) → c0 ≠ P := fun c0 e z => by
      rw [z, hP] at e
      exact codeO_ne ps (Option.some.inj e).symm
    refine h h'.objs.size c' ((X.mg "__name__").getD .none) ctv _ _ I1 st ?_ (Heap.get?_push_size _ rfl) ?_ (nofr _ hsz) upd_same
    · refine ⟨_, by rw [upd_ne (ne_of_none hP nC), upd_same], by rw [eL]; exact PySem.TriplesOk_snoc _ _ _ _ ht, fun p' cv hcv => ?_⟩
      rw [eL] at hcv
      rcases among_app _ ht hcv with z | z
      · obtain ⟨c0, e1, e2⟩ := ha p' cv z
        exact ⟨c0, e1, st _ _ (neP c0 e2) e2⟩
      · exact ⟨c', z, upd_same⟩
    · have n1 : h'.objs.size ≠ c' := Nat.ne_of_gt hlt
      have n2 : h'.objs.size ≠ P := Nat.ne_of_gt (Nat.lt_of_lt_of_le (Heap.lt_size hP') hsz)
      rw [upd_ne n1, upd_ne n2]
      exact I.hok.fresh hsz
  | some cv =>
    obtain ⟨c', e, hco⟩ := ha pos cv hc
    subst e
    refine PySem.W.kla_makeFunctionHit (mg := X.mg) (c := c) (P := P) (ps := ps) (closure_ok hfree) I.ok.glob (I.mod.glob.keeps I.bk) hcode (TB.code.keeps I.bk) hP' ht hc bP fun ctv h' tk hx hsz => ?_
    have I1 : Inv X pins σ H { s with heap := h'.push (PySem.W.kla_obj "<lambda>" (X.env.qual ++ "<lambda>") params body scope (cloFrom X.env.cells scope.names []) ((X.mg "__name__").getD .none) c' ctv), toks := tk } := I.kept fun b o e => Heap.get?_push_of_some _ (hx b o e)
    exact h h'.objs.size c' ((X.mg "__name__").getD .none) ctv H _ I1 (fun _ _ _ e => e) ⟨ps, hP, ht, ha⟩ (Heap.get?_push_size _ rfl) (I.hok.fresh hsz) (nofr _ hsz) hco
/-- behind the making: the store stands -/
theorem fr_table {K : PySem.W.Frag} {ad : List Addr} {H1 : Hp} {S : Sto} {P : Addr} {q : Str} {k : Nat} (rs : RS K ad H S) (hk : S[k]? = some (.tab P q)) (st : ∀ b o, b ≠ P → H b = some o → H1 b = some o) (t1 : TabS H1 P q) : Fr ad H ad H1 ∧ RS K ad H1 S := by
  obtain ⟨a, hka, ea, hT⟩ := rs.ob k _ hk
  subst ea
  obtain ⟨ps, hP, _, _⟩ := hT
  have ne : ∀ b u, H b = some u → (∀ ps, u ≠ .tbl ps) → b ≠ a := fun b u e q z => by
    rw [z, hP] at e
    exact q ps (Option.some.inj e).symm
  have sb : Stb H H1 := fun b o hi e => st b o (ne b o e fun ps z => by rw [z] at hi; exact hi) e
  refine ⟨⟨⟨[], by simp⟩, fun b o e hb => .of (st b o (fun z => hb (z ▸ List.mem_of_getElem? hka)) e), fun _ h h' => absurd h h', sb⟩, rs.len, rs.nd, fun (j : Nat) (o : MO) e => ?_⟩
  obtain ⟨b, e1, e2⟩ := rs.ob j o e
  refine ⟨b, e1, ?_⟩
  cases o with
  | lst l =>
    obtain ⟨vs, h1, h2⟩ := e2
    exact ⟨vs, st _ _ (ne _ _ h1 fun ps z => by cases z) h1, Reps.stb sb l h2⟩
  | frz l =>
    obtain ⟨vs, o1, h1, h2⟩ := e2
    exact ⟨vs, o1, st _ _ (ne _ _ h1 fun ps z => by cases z) h1, Reps.stb sb l h2⟩
  | dct l =>
    rcases e2 with ⟨ps, h1, h2⟩ | ⟨ps, h1, h2, h3⟩
    · exact .inl ⟨ps, st _ _ (ne _ _ h1 fun ps z => by cases z) h1, RepKV.stb sb l h2⟩
    · exact .inr ⟨ps, st _ _ (ne _ _ h1 fun ps z => by cases z) h1, RepTV.stb sb l h2, h3⟩
  | fdc l => exact FzD.stb sb e2
  | tab P' q' =>
    obtain ⟨eb, hT'⟩ := e2
    subst eb
    refine ⟨rfl, ?_⟩
    by_cases hb : b = a
    · subst hb
      have hj := nodup_at rs.nd hka e1
      subst hj
      rw [hk] at e
      cases e
      exact t1
    · obtain ⟨qs, h1, h2, h3⟩ := hT'
      refine ⟨qs, st _ _ hb h1, h2, fun pos cv hc => ?_⟩
      obtain ⟨c0, e1, e2⟩ := h3 pos cv hc
      exact ⟨c0, e1, sb _ _ trivial e2⟩
end
end DL

set_option Elab.async false
set_option linter.all false
set_option maxRecDepth 100000
set_option maxHeartbeats 4000000
/-! X7: x(lambda: e). -/
namespace DL
open PySem PySem.Spec PyProof.Rows L2 LamX
/-- the context of the def that gets the lambda -/
abbrev hCx (X : Cx) (Ng : List Str) (x : Str) (sg : Scope) (g : Addr) (cdg : Value) (s : Shared) (H : Hp) : Cx := cxOf C8.CX0 X.prog X.w X.K X.mg X.base Ng x sg g cdg X.A X.stack s H C8.E0
section
variable {X : Cx} {pins : List (Addr × Obj)} {σ : L2.St} {H : Hp} {s : Shared}
/-- the lambda is called, in the slots σ0 of the def that got it -/
theorem pe_actD {Ng : List Str} {qg : Str} {sg : Scope} {g f c' : Addr} {cdg pm ctv : Value} {params : Arguments} {body : Expr} {scope : Scope} {k i : Nat} {a : Str} {pn : List (Addr × Obj)} {xe : Value → Shared → Prop} {W : WX} {E : XK} {tb : TE} {p1 p2 : Pos} {σ0 : L2.St}
    (I : Inv X pins σ H s) (L : LamS X.env.scope scope) (hf : s.heap.get? f = some (PySem.W.kla_obj "<lambda>" (X.env.qual ++ "<lambda>") params body scope (cloFrom X.env.cells scope.names []) pm c' ctv)) (hfn : H f = none) (hfr : f ∉ frs X.stack)
    (hbind : bindArgs (PySem.W.kla_fn "<lambda>" (X.env.qual ++ "<lambda>") params body scope (cloFrom X.env.cells scope.names []) pm (.ref c') ctv) ⟨[], []⟩ = pure [])
    (tk : Takes ((hCx X Ng qg sg g cdg s H).tr pn xe) W) (hW : ∀ cls d H', E cls d H' → W cls d σ0 H') (hr : Room (k + 1) (X.A.deeper (envOfC qg sg s.heap.objs.size g cdg)))
    (hbody : ∀ (A : Around) (outer : List PySem.Env) (s : Shared) (H : Hp), Room k (A.deeper (lamEnv X scope s.heap.objs.size f c')) → PE (lamCx X A outer s H E scope f c') body tb)
    (hN : Ng[i]? = some a) (hv : Vis sg a) (hd : (a == ("__debug__" : Str)) = false := by decide) (hcd : (a == ("__classdict__" : Str)) = false := by decide) :
    PE ((hCx X Ng qg sg g cdg s H).tr pn xe) (.Call (.Name a p1) [] [] p2) (fun σZ HZ Q => σZ = σ0 ∧ σZ[i]? = some (some (.ref f)) ∧ HZ c' = some (CodeO c' (X.env.qual ++ "<lambda>")) ∧ tb σ HZ Q) := by
  refine ⟨fun pinsZ sZ σZ HZ Q IZ h => ?_⟩
  obtain ⟨e0, hs, hc, ht⟩ := h
  subst e0
  refine wpAny_Call_Name_kw (thn ((pe_var (pos := p1) (i := i) hN hv hd hcd).run pinsZ sZ σZ HZ (fun v H1 => v = .ref f ∧ H1 = HZ) IZ ⟨.ref f, hs, rfl, rfl⟩) fun u s1 ⟨v, H1, I1, r1, q1⟩ => ?_)
  obtain ⟨ev, eH⟩ := q1
  subst ev
  rw [eH] at I1
  obtain rfl : u = Value.ref f := r1
  have of1 : s1.heap.get? f = some (PySem.W.kla_obj "<lambda>" (X.env.qual ++ "<lambda>") params body scope (cloFrom X.env.cells scope.names []) pm c' ctv) := I1.base.keep f _ hf hfn hfr (fun z => nomatch (show f ∈ ([] : List Addr) from z))
  refine PySem.W.callWith_F0 ⟨_, _, _, _, of1⟩ ?_
  obtain ⟨⟨oc, vs, t, hoc, hdc, hvc⟩, _, _⟩ := I1.hok c' _ hc
  have rc : codeAny (model X.prog X.w) (X.A.deeper (envOfC qg sg s.heap.objs.size g cdg)) (.call (.ref f) ⟨[], []⟩) (CR (L2.CX X.prog X.w) (envOfC qg sg s.heap.objs.size g cdg :: X.stack) X.prog X.w HZ s1 Q E) s1 := by
    refine PySem.W.kla_callFunE hr.depth of1 rfl L.co L.gen rfl ⟨c', oc, vs, t, rfl, hoc, hdc, hvc⟩ ?_
    rw [hbind]
    refine wpAny_pure (wpAny_newFunctionEnv (fun y hy => (L.own y hy).2) (fun y hy => absurd hy (by simp)) (fun h₁ hns hsb => ⟨I1.nolimit.fresh _ hsb, ?_⟩) L.kind)
    have J : Inv (lamCx X (X.A.deeper (envOfC qg sg s.heap.objs.size g cdg)) (envOfC qg sg s.heap.objs.size g cdg :: X.stack) s1 HZ E scope f c') [] σ HZ { s1 with heap := h₁, toks := s1.toks + ([] : List (Str × Value)).length } :=
      lam_start2 I L I1.env0 hr.hd I1.base hns fun b o e => hsb.extBut b o (Nat.ne_of_lt (Heap.lt_size e)) (Heap.get?_push_of_some _ e)
    refine PySem.W.kla_codeExpr (wpAny_mono ((hbody _ _ s1 HZ (hr.deeper _)).run [] _ _ HZ Q J ht) (fun v s' hq => ?_) fun e s' hq => hq)
    obtain ⟨w', H', J', rv, q⟩ := hq
    exact ⟨w', H', J'.os, J'.bare, J'.base, J'.hok, rv, q⟩
  refine wpAny_call (codeAny_mono rc fun r s' hq => ?_)
  cases r with
  | error e => exact tk e s' (XE.of_call I1 hW hq)
  | ok fl =>
    cases fl with
    | ret u => exact I1.after hq
    | next => exact False.elim hq
    | brk => exact False.elim hq
    | cont => exact False.elim hq
end
abbrev TTh := (Sto → Rs Wv) → Sto → Rs Wv
/-- the def x (its one parameter a) makes TT of what it got -/
def GivesD (X : Cx) (Ng : List Str) (x : Str) (sg : Scope) (g : Addr) (cdg : Value) (bg : List Stmt) (a : Str) (q : Str) (TT : TTh) : Prop :=
  ∀ (f c' : Addr) (s : Shared) (H : Hp) (Q : VK) (ad : List Addr) (S : Sto) (th : Sto → Rs Wv) (tl : XK → Hp → VK → Prop), RS X.K ad H S →
    (∀ (W : WX) (pn : List (Addr × Obj)) (xe : Value → Shared → Prop) (E : XK) (p1 p2 : Pos), Takes ((hCx X Ng x sg g cdg s H).tr pn xe) W → (∀ cls d H', E cls d H' → W cls d (L2.start Ng [.ref f]) H') →
      PE ((hCx X Ng x sg g cdg s H).tr pn xe) (.Call (.Name a p1) [] [] p2) (fun σZ HZ Q => σZ = L2.start Ng [.ref f] ∧ σZ[0]? = some (some (.ref f)) ∧ HZ c' = some (CodeO c' q) ∧ tl E HZ Q)) →
    H c' = some (CodeO c' q) → (∀ E Q', post X.K X.mg (fun cls d _ H' => E cls d H') [] ad H (RepW X.K) (th S) Q' → tl E H Q') → post X.K X.mg W0 [] ad H (RepW X.K) (TT th S) Q →
    ∃ t, PSs (hCx X Ng x sg g cdg s H).nox bg t ∧ t { nx := fun _ H' => Q .non H', rt := Q } (L2.start Ng [.ref f]) H
def hasTab (S : Sto) (P : Addr) (q : Str) : Bool := S.any fun o => match o with
  | .tab P' q' => decide (P' = P) && decide (q' = q)
  | _ => false
theorem hasTab_at {S : Sto} {P : Addr} {q : Str} (h : hasTab S P q = true) : ∃ k : Nat, S[k]? = some (MO.tab P q) := by
  unfold hasTab at h
  obtain ⟨o, ho, h⟩ := List.any_eq_true.mp h
  cases o with
  | tab P' q' =>
    simp at h
    obtain ⟨k, hk, e⟩ := List.mem_iff_getElem.mp ho
    exact ⟨k, by rw [List.getElem?_eq_getElem hk, e, h.1, h.2]⟩
  | lst l => simp at h
  | frz l => simp at h
  | dct l => simp at h
  | fdc l => simp at h
def eLam (P : Addr) (q : Str) (TT : TTh) (fl : EF) : EF := fun ρ S => if hasTab S P q = true then match TT (fun S' => fl ρ S') S with
  | .ok w S' => .ok w S'
  | _ => .bad else .bad
section
variable {X : Cx} {Wx : WX}
theorem de_lam {TT : TTh} {x a q : Str} {g c P : Addr} {k : Nat} {pg : Arguments} {bg : List Stmt} {sg : Scope} {dV kV doc pm cdv ct oc : Value} {an od : Option Addr} {osl : Array (Option Value)} {Ng : List Str}
    {params : Arguments} {body : Expr} {scope : Scope} {fl : EF} {p lpos pos : Pos} (hg : Gl X x) (hm : X.mg x = some (.ref g)) (hk : PySem.W.keepIn X.K (.ref g) = true)
    (lk : X.K.lookup g = some ⟨oc, od, .func (PySem.W.fnOf x x pg bg sg dV kV doc pm an cdv ct), osl⟩) (hcg : PySem.W.codeIn X.K cdv x = true) (hb : L2.Binds X.K (PySem.W.fnOf x x pg bg sg dV kV doc pm an cdv ct) [a] []) (Sg : FnScope Ng [a] sg) (hNg : Ng[0]? = some a) (hva : Vis sg a)
    (hq : X.env.qual ++ "<lambda>" = q) (hG : GivesD X Ng x sg g cdv bg a q TT)
    (TB : TabB X.base X.mg c P) (hcode : X.env.code = .ref c) (hr : Room (k + 2) X.A) (L : LamS X.env.scope scope) (hdef : defaultsOf params X.env = ([], []))
    (hbind : ∀ (q : Str) (cl : List (Str × Addr)) (pm cv ctv : Value), bindArgs (PySem.W.kla_fn "<lambda>" q params body scope cl pm cv ctv) ⟨[], []⟩ = pure [])
    (hbody : ∀ (A : Around) (outer : List PySem.Env) (s : Shared) (H : Hp) (E : XK) (f c' : Addr), Room k (A.deeper (lamEnv X scope s.heap.objs.size f c')) → DE (lamCx X A outer s H E scope f c') (fun cls d _ H => E cls d H) body fl)
    (hdb : (x == ("__debug__" : Str)) = false := by decide) (hd : (a == ("__debug__" : Str)) = false := by decide) (hcd : (a == ("__classdict__" : Str)) = false := by decide) :
    DE X Wx (.Call (.Name x p) [.Lambda params body scope lpos] [] pos) (eLam P q TT fl) := by
  subst hq
  refine ⟨fun pins s σ H Q I ⟨ad, ρ, S, sg', rs, qq⟩ => ?_⟩
  unfold eLam at qq
  split at qq
  · rename_i ht
    obtain ⟨j, hj⟩ := hasTab_at ht
    obtain ⟨P', hka, eP, hT⟩ := rs.ob j _ hj
    refine wpAny_Call_Name_kw (ld_glob I hg hm ?_ hdb)
    refine PySem.W.callWith_K (h₀ := X.base) I.ok.mod.kin hk ?_ (by rfl) (by rfl)
    show wpAny _ _ (spliced ((false, eval (.Lambda params body scope lpos) X.env) :: backTo pos (starEach [] X.env))) _ _ s
    refine Calls.spliced_cons (lam_makeD I TB hcode hT hdef (L.has I.ok) fun f c' pm' ctv H1 s' I1 st T1 hf hfn hfr hco => ?_)
    obtain ⟨fr1, rs1⟩ := fr_table rs hj st T1
    refine Calls.spliced_nil ⟨I1.kIn, ?_⟩
    have rc : codeAny (model X.prog X.w) X.A (.call (.ref g) ⟨[.ref f], []⟩) (CR C8.CX0 X.stack X.prog X.w H1 s' Q C8.E0) s' := by
      refine run_ofS (N := Ng) (ps := [a]) (us := [.ref f]) (vs := [.ref f]) lk hcg Sg hr I1.env0 (hb s' [.ref f] I1.kIn rfl) (.cons rfl .nil) rfl fun hr' => ?_
      obtain ⟨t', ht', hq'⟩ := hG f c' s' H1 Q ad S (fun S' => fl ρ S') (fun E HZ Q' => tD X.K X.mg (fun cls d _ H => E cls d H) fl σ HZ Q') rs1
        (fun W pn xe E p1 p2 tk hW => pe_actD (i := 0) I1 L hf hfn hfr (hbind _ _ _ _ _) tk hW hr' (fun A outer s H hr2 => hbody A outer s H E f c' hr2) hNg hva hd hcd) hco
        (fun E Q' hp => ⟨ad, ρ, S, sg'.fr fr1, rs1, by
          revert hp
          cases fl ρ S <;> exact fun z => z⟩) (by
          revert qq
          cases TT (fun S' => fl ρ S') S with
          | bad => exact fun z => z
          | exc x S' => exact fun z => z.elim
          | ok w S' => exact fun z v H' ad' fr r rs' => z v H' ad' (fr1.trans fr) r rs')
      exact ⟨t', ht'.nox, hq'⟩
    refine wpAny_call (codeAny_mono rc fun r s2 hq => ?_)
    cases r with
    | error e => exact (show False from hq).elim
    | ok fl =>
      cases fl with
      | ret u => exact I1.after hq
      | next => exact False.elim hq
      | brk => exact False.elim hq
      | cont => exact False.elim hq
  · exact qq.elim
end
end DL

set_option Elab.async false
set_option linter.all false
set_option maxRecDepth 100000
set_option maxHeartbeats 4000000
/-! X8: try: return ('told', act()) except C as e: return ('w', e.f). -/
namespace DL
open PySem PySem.Spec PyProof.Rows L2 LamX
theorem lookup_paired {K : PySem.W.Frag} {H : Hp} {f : Str} {d : PyData} : ∀ {fs : List (Str × V)} {xs : List (Str × PyData)}, Paired (fun (p : Str × V) (q : Str × PyData) => p.1 = q.1 ∧ Rep K H p.2 q.2) fs xs → xs.lookup f = some d → ∃ v, fs.lookup f = some v ∧ Rep K H v d
  | _, _, .nil, e => by cases e
  | (g, v) :: fs, (g', y) :: xs, .cons h t, e => by
    obtain ⟨h1, h2⟩ := h
    have h1 : g = g' := h1
    subst h1
    simp only [List.lookup] at e ⊢
    split at e
    · cases e
      exact ⟨_, rfl, h2⟩
    · exact lookup_paired t e
/-- told: ('w1', what it gave), or ('w2', the field of the error that is heard) -/
def tt1 (w1 C w2 f : Str) : TTh := fun th S => match th S with
  | .bad => .bad
  | .ok w S1 => match w with
    | .d x => .ok (.d (.tuple [.str w1, x])) S1
    | _ => .bad
  | .exc x S1 => if x.c = C then match x.fs.lookup f with
    | some d => .ok (.d (.tuple [.str w2, d])) S1
    | none => .bad
    else .bad
section
variable {X : Cx}
theorem gives1 {x a n e q w1 w2 fl : Str} {sg : Scope} {g CS : Addr} {cdg : Value} {j1 j2 : Nat} {x1 x2} {p1 p2 p3 p4 p5 p6 p7 p8 p9 p10 p11 p12 p13 : Pos} (hnd : [a, n].Nodup) (hge : sg.names.lookup e = some .globalImplicit) (hme : X.mg e = some (.ref CS)) (hde : (e == ("__debug__" : Str)) = false) (hn : sg.names.lookup n = some .local)
    (hn1 : (n == ("__debug__" : Str)) = false) (hn2 : (n == ("__classdict__" : Str)) = false) (T : XfC X.K CS) (hno : PySem.W.findIn X.K (.ref CS) fl = some none) (hx : PySem.W.exmOne X.K (.ref CS) (.ref CS) = some true) (g1 : strG w1 = true) (g2 : strG w2 = true) :
    GivesD X [a, n] x sg g cdg [.Try [.Return (some (.Tuple [.Constant (.str w1) j1 p1, .Call (.Name a p2) [] [] p3] x1 p4)) p5] [.ExceptHandler (some (.Name e p6)) (some n) [.Return (some (.Tuple [.Constant (.str w2) j2 p7, .Attribute (.Name n p8) fl p9] x2 p10)) p11] p12] [] [] p13] a q (tt1 w1 e w2 fl) := by
  intro f c' s H Q ad S th tl rs act hc htl hq
  have hgl : Gl (hCx X [a, n] x sg g cdg s H).nox e := hge
  refine ⟨_, pss_one (ps_try_as (X := (hCx X [a, n] x sg g cdg s H).nox) (c := .ref CS) (i := 1) (Wout := W0)
      (tb := fun W D σ H => ∃ Ech : XK, (∀ cls d H', Ech cls d H' → W cls d (L2.start [a, n] [V.ref f]) H') ∧ σ = L2.start [a, n] [V.ref f] ∧ H c' = some (CodeO c' q) ∧ tl Ech H fun v H1 => [V.str w1, v].length ≤ sizeLine ∧ ∀ p, H1 p = none → D.rt (.ref p) (upd H1 p (.tup [.str w1, v])))
      rfl rfl hnd rfl hn ⟨hgl, hde, .inl hme⟩ LamX.takes0 (fun W pn xe tk _ => ?_) (fun a oe cls d pn hz hf => pss_one (ps_ret (pe_tup (pa_cons pe_str (pa_cons (pe_xf T hno hz hf (pe_var (i := 1) rfl (.inl hn) hn1 hn2)) pa_nil)))))), ?_⟩
  · refine ⟨fun pins s' σ H' D I h' => ?_⟩
    obtain ⟨Ech, hW, h1, h2, h3⟩ := h'
    have hp := act W pn xe Ech p2 p3 tk hW
    have hr := pss_one (ps_ret (pos := p5) (pe_tup (x1 := x1) (pos := p4) (pa_cons (pe_str (x := w1) (j := j1) (pos := p1)) (pa_cons hp pa_nil))))
    exact hr.run pins s' σ H' D I ⟨h1, by rw [h1]; rfl, h2, h3⟩
  · have hsz : ∀ u v : V, [u, v].length ≤ sizeLine := fun u v => by show 2 ≤ sizeLine; decide
    refine ⟨_, fun cls d H' h => h, rfl, hc, htl _ _ ?_⟩
    revert hq
    unfold tt1
    cases th S with
    | bad => exact fun z => z
    | ok w S1 =>
      cases w with
      | own k => exact fun z => z.elim
      | fn _ _ _ => exact fun z => z.elim
      | d y =>
        intro hq v H' ad' fr r rs'
        refine ⟨hsz _ _, fun p hp => ?_⟩
        have ex : Ex H' (upd H' p (.tup [.str w1, v])) := Ex.new hp
        exact hq _ _ ad' (fr.trans ex.fr) (.tup (.inl upd_same) (.cons (.str _ g1) (.cons (Rep.stb ex.stb _ r) .nil))) (rs'.ex ex)
    | exc y S1 =>
      intro hq cls d H' ad' fr xr rs'
      dsimp only at hq
      split at hq
      · rename_i hy
        obtain ⟨C, hm, rfl, hf⟩ := xr
        rw [hy, hme] at hm
        cases hm
        refine ⟨true, hx, fun _ a' na => ?_, fun z => by cases z⟩
        cases hl : y.fs.lookup fl with
        | none => rw [hl] at hq; exact hq.elim
        | some dv =>
          rw [hl] at hq
          rcases hf with hf | ⟨dd, fs, ed, hdd, hp⟩
          · rw [hf] at hl
            cases hl
          · obtain ⟨v, e1, e2⟩ := lookup_paired hp hl
            refine ⟨.ref a', rfl, rfl, rfl, dd, fs, v, ed, hdd, e1, hsz _ _, fun p hp' => ?_⟩
            have ex : Ex H' (upd H' p (.tup [.str w2, v])) := Ex.new hp'
            exact hq _ _ ad' (fr.trans ex.fr) (.tup (.inl upd_same) (.cons (.str _ g2) (.cons (Rep.stb ex.stb _ e2) .nil))) (rs'.ex ex)
      · exact hq.elim
end
end DL

set_option Elab.async false
set_option linter.all false
set_option maxRecDepth 100000
set_option maxHeartbeats 4000000
/-! X9: the end of a law with lambdas. -/
namespace DL
open PySem PySem.Spec PyProof.Rows L2 LamX
theorem un_freeze {fs : List Addr} {H : Hp} {h : Heap} {a : Addr} {vs : List V} {o : Obj} (e : H a = some (.lst vs)) : Un fs [] H (upd H a (.frz o (.lst vs))) h h := by
  have ne : ∀ {b : Addr} {u : HO}, H b = some u → (∀ xs, u ≠ .lst xs) → b ≠ a := fun {b u} hb hn z => by
    subst z
    rw [e] at hb
    cases hb
    exact hn _ rfl
  refine ⟨fun b o q _ _ _ => q, fun b o q _ _ _ => ⟨o.slots, q⟩, fun b o q hn _ => ?_, fun b o q _ => ⟨o, q⟩, fun b xs q => ?_, fun b o u q => ?_, fun b ps q => ⟨#[], ?_⟩⟩
  · have : b ≠ a := fun z => by subst z; rw [e] at hn; cases hn
    rw [upd_ne this]; exact hn
  · rw [upd_ne (ne q fun _ z => nomatch z)]; exact q
  · rw [upd_ne (ne q fun _ z => nomatch z)]; exact q
  · rw [upd_ne (ne q fun _ z => nomatch z), q]; simp
theorem hok_freeze {P : Program} {w : World} {H : Hp} {h : Heap} {a : Addr} {vs : List V} (ok : HOk P w H h) (e : H a = some (.lst vs)) : ∃ o, HOk P w (upd H a (.frz o (.lst vs))) h := by
  obtain ⟨z, its, n, rv, e2⟩ := id (ok a _ e)
  refine ⟨{ cls := .type "list", data := .seq its.toArray n }, fun b u q => ?_⟩
  by_cases hb : b = a
  · subst hb
    rw [upd_same] at q
    cases q
    exact ⟨e2, z, its, n, rv, e2⟩
  · rw [upd_ne hb] at q
    refine (ok b u q).stay (fun _ _ _ q => q) (fun c hc => ?_) fun c xs hc => ?_
    · have : c ≠ a := fun z => by rw [z, e] at hc; cases hc
      rw [upd_ne this]; exact hc
    · have : c ≠ a := fun z => by rw [z, e] at hc; cases hc
      rw [upd_ne this]; exact hc
/-- a changing list is locked ahead of the def -/
theorem fn_freeze {P : Program} {w : World} {K : PySem.W.Frag} {mg : Str → Option Value} {base : Heap} {k : Nat} {f : Addr} {fd : FuncData} {ps : List Str} {sp sp' : Sp} (F : FnOk P w K mg base (L2.CX P w) k f fd ps sp)
    (h : ∀ vs H Q E, sp' vs H Q E → sp vs H Q (fun _ _ _ => False) ∨ ∃ a xs, H a = some (.lst xs) ∧ vs.length = ps.length ∧ ∀ o, sp vs (upd H a (.frz o (.lst xs))) Q (fun _ _ _ => False)) : FnOk P w K mg base (L2.CX P w) k f fd ps sp' := by
  refine ⟨fun vs H Q E hs => ?_, fun A outer s H args us vs Q E hr e0 hb r hs => ?_⟩
  · rcases h vs H Q E hs with h | ⟨_, _, _, hl, _⟩
    · exact F.len _ _ _ _ h
    · exact hl
  · have noX : ∀ {H : Hp} {e : Value} {s' : Shared}, L2.CX P w outer H s (fun _ _ _ => False) e s' → False := fun ⟨_, _, _, _, _, _, _, _, _, _, _, _, z⟩ => z
    rcases h vs H Q E hs with h | ⟨a, xs, ha, hl, h⟩
    · refine codeAny_mono (F.run A outer s H args us vs Q _ hr e0 hb r h) fun res s' hq => ?_
      cases res with
      | error e => exact (noX hq).elim
      | ok fl => cases fl <;> exact hq
    · obtain ⟨o, hok⟩ := hok_freeze e0.hok ha
      have e1 : Env0 P w K mg base A outer s (upd H a (.frz o (.lst xs))) := ⟨e0.frames, e0.mod, fun b ob e => by
          obtain ⟨h1, h2⟩ := e0.bs b ob e
          refine ⟨h1, ?_⟩
          rw [upd_ne (fun z => by rw [z, ha] at h2; cases h2)]
          exact h2, e0.bsz, e0.funs, fun b hb => by
          have h2 := e0.frf b hb
          rw [upd_ne (fun z => by rw [z, ha] at h2; cases h2)]
          exact h2, hok, e0.bare⟩
      refine codeAny_mono (F.run A outer s _ args us vs Q _ hr e1 hb r (h o)) fun res s' hq => ?_
      cases res with
      | error e => exact (noX hq).elim
      | ok fl =>
        cases fl with
        | ret u =>
          obtain ⟨v, H', os, bare, un, hok', r', q⟩ := hq
          exact ⟨v, H', os, bare, (un_freeze ha).trans un, hok', r', q⟩
        | next => exact hq
        | brk => exact hq
        | cont => exact hq
def spLawT (K : PySem.W.Frag) (P : Addr) : Sp := fun vs H Q _ => ∃ (a : Addr) (ns : List Int), vs = [.ref a] ∧ SqL K H a (ns.map V.int) ∧ H P = some (.tbl #[]) ∧ ns.length ≤ 63 ∧ (∀ z ∈ ns, Builtin.Int.intBits z ≤ 1048576) ∧ ∀ H', Q (.bl true) H'
theorem law_fnT {Pr : Program} {w : World} {K : PySem.W.Frag} {mg : Str → Option Value} {base : Heap} {k : Nat} {f P : Addr} {qn : Str} {fd : FuncData} {ps : List Str} {sem : FD} (h1 : ps.length = 1) (F : FnOk Pr w K mg base (L2.CX Pr w) k f fd ps (spD K mg 1 sem))
    (hl : ∀ ns : List Int, ns.length ≤ 63 → (∀ z ∈ ns, Builtin.Int.intBits z ≤ 1048576) → sem [.d (.list (ns.map PyData.int))] [.tab P qn] = .ok (.d (.bool true)) [.tab P qn]) : FnOk Pr w K mg base (L2.CX Pr w) k f fd ps (spLawT K P) := by
  refine fn_freeze F fun vs H Q E h => ?_
  obtain ⟨a, ns, rfl, hf, hP, hn, hb, q⟩ := h
  have go : ∀ H' : Hp, FzL K H' a (ns.map V.int) → H' P = some (.tbl #[]) → spD K mg 1 sem [.ref a] H' Q (fun _ _ _ => False) := fun H' hf' hP' => by
    refine ⟨rfl, [P], [.d (.list (ns.map PyData.int))], [.tab P qn], .cons (.lst hf' (reps_ints ns)) .nil, ⟨rfl, by simp, fun (j : Nat) (o : MO) e => ?_⟩, ?_⟩
    · have hj : j = 0 := by
        have := (List.getElem?_eq_some_iff.mp e).1
        simp at this
        exact this
      subst hj
      simp at e
      subst e
      exact ⟨P, rfl, rfl, TabS.nil hP'⟩
    · rw [hl ns hn hb]
      intro v H'' ad' fr r rs
      cases r
      exact q H''
  rcases hf with (hf | ⟨o, hf⟩) | hf
  · refine .inr ⟨a, _, hf, by rw [h1]; rfl, fun o => go _ (.inl ⟨o, upd_same⟩) ?_⟩
    rw [upd_ne (fun z => by rw [z, hf] at hP; cases hP)]
    exact hP
  · exact .inl (go H (.inl ⟨o, hf⟩) hP)
  · exact .inl (go H (.inr hf) hP)
theorem walkDT {l : PySem.W.OpenLaw} {k : Nat} {q : Program} {loose : List Str} {XP : (Str → Option Value) → Heap → Prop} {YP : World → Heap → Prop} {d : DefRec} {K : Params → PySem.W.Frag} {c P : Addr} (hn : l.most = some 63) (hdf : d.params.defaults = []) (hr : Room k callerA)
    (hY : ∀ (w : World) (h : Heap), YP w h → (K w.params).In h) (hrec : (PyProof.Rows.recsOf q).find? (fun e => e.name == d.name) = some d) (htab : ∀ w : World, PySem.W.tabIn (K w.params) d.name = some (c, P)) (hno : ∀ w : World, (K w.params).lookup P = none)
    (F : ∀ (w : World) (mg : Str → Option Value) (fa : Addr) (h : Heap), (K w.params).In h → h.Ns mainGlobals mg → mg d.name = some (.ref fa) →
      ∃ fd : FuncData, (∀ (s : Shared) (u : Value), BindsTo s fd ⟨[u], []⟩ [("script", u)]) ∧ ∀ base : Heap, (K w.params).In base → base.Ns mainGlobals mg → TabB base mg c P → FnOk l.prog w (K w.params) mg base (L2.CX l.prog w) k fa fd ["script"] (spLawT (K w.params) P)) :
    PySem.W.WalkO q loose XP YP l.row.toRowW d [] (fun f vs => PySem.call f vs) := by
  refine Att.attach_callB hn hdf fun w s₀ s₁ mg mb fa o pm cd doc a vs ns G Y ho hd hcd hmg hobj hints hlen hbits hg => ?_
  have KX := hY w _ Y
  obtain ⟨fd, hb, hF⟩ := F w mg fa _ KX G.T.g hmg
  obtain ⟨C, hT⟩ := PySem.W.tab_of G.T KX hrec (htab w)
  refine law_callTs (cs := [(c, P)]) KX G.T.g G.T.b G.T.builtins G.T.nolimit hg (fun p hp => ?_) (fun p hp => ?_) (fun p hp => ?_) G.T.bmain hobj hints (Nat.le_trans hlen (by decide)) hr (fun base h1 h2 h3 => hF base h1 h2 (h3 _ (List.mem_singleton.mpr rfl))) hb
    (fun H hH hS => ⟨a, ns, rfl, hS, hH _ (List.mem_singleton.mpr rfl), hlen, hbits, fun _ => rfl⟩) fun H e s' z => noCX z
  · obtain rfl := List.mem_singleton.mp hp
    exact hT
  · obtain rfl := List.mem_singleton.mp hp
    exact hno w
  · obtain rfl := List.mem_singleton.mp hp
    exact C
end DL

set_option Elab.async false
set_option linter.all false
set_option maxRecDepth 100000
set_option maxHeartbeats 4000000
/-! X10: own errors and lambdas' defs, from the facts of the written part. -/
namespace DL
open PySem PySem.Spec PyProof.Rows L2 LamX PySem.W
/-- the code object at cda is of the program's own file -/
def fileIn (P : Program) (K : Frag) (cda : Addr) : Bool := match K.lookup cda with
  | some ⟨_, _, .fields vs, _⟩ => match (vs[2]? : Option Value) with
    | some (.str file _) => ((P.main.file : Str) == file)
    | _ => false
  | _ => false
theorem fileIn_of {P : Program} {K : Frag} {cda : Addr} (h : fileIn P K cda = true) : ∃ ccl cdd vs ccs file tf, K.lookup cda = some ⟨ccl, cdd, .fields vs, ccs⟩ ∧ vs[2]? = some (.str file tf) ∧ ((P.main.file : Str) == file) = true := by
  unfold fileIn at h
  split at h
  · rename_i c d vs sl ho
    split at h
    · rename_i file tf hv
      exact ⟨c, d, vs, sl, file, tf, ho, hv, h⟩
    · cases h
  · cases h
def isCls (K : Frag) (D : Addr) : Bool := (clsIn K D).isSome
def clsBody : Stmt → List Stmt
  | .ClassDef (body := b) .. => b
  | _ => []
def mem (st : Stmt) (j : Nat) : Stmt := (clsBody st).getD j (.Pass ⟨0, 0, 0, 0⟩)
theorem Er.mono {P : Program} {w : World} {K : Frag} {mg : Str → Option Value} {base : Heap} {j k : Nat} {x : Str} {fs : List Str} (F : Er P w K mg base j x fs) (h : j ≤ k) : Er P w K mg base k x fs := by
  obtain ⟨⟨C, fI, fd, ps, a, b, c, d, e, f⟩, few⟩ := F
  exact ⟨⟨C, fI, fd, ps, a, b, c, d, e.mono h, f⟩, few⟩
/-- the class at C, its __init__ at f -/
structure ErC (P : Program) (K : Frag) (mg : Str → Option Value) (x : Str) (C f cda cc : Addr) : Prop where
  hm : mg x = some (.ref C)
  ox : OexC K C
  iC : findIn K (.ref C) "__init__" = some (some (.ref f))
  tI : typeIn K (.ref f) = some (.type "function")
  file : fileIn P K cda = true
  cell : ∃ cl cld csl, K.lookup cc = some ⟨cl, cld, .cell (some (.ref C)), csl⟩
  isC : isCls K C = true
  sub : mroIn K C (.ref C) = some true
  opq : nsIn K cStatics "thirdparty.any" = some none
  sup : ks_superIn K C C "__init__" = some (some (.builtin "ValueError.__init__"))
  isB : subIn K (.ref C) (.type "ValueError") = some true
  top : (P.main.scope.names.lookup ("super" : Str)).isSome = false
  mgS : mg "super" = none
section
variable {P : Program} {w : World} {K : Frag} {mg : Str → Option Value} {base : Heap} {f cda cc C : Addr} {x qual a1 a2 fl gl : Str} {st : Stmt} {p0 p1 p2 p3 p4 pa pb pc pd pe pf pg ph pi pj : Pos} {dV kV doc pm ct oc : Value} {an od : Option Addr} {osl : Array (Option Value)} {pl : Addr → Sem Bool}
theorem ErC.supK (E : ErC P K mg x C f cda cc) {ar : Str} (hh : ∃ a, ((defArgs st).posonlyargs ++ (defArgs st).args).head? = some a ∧ a.arg = ar) : SupK P K mg C C cda cc (defArgs st) ar :=
  ⟨hh, fileIn_of E.file, E.cell, Option.isSome_iff_exists.mp E.isC, E.sub, E.opq, E.sup, E.isB, E.top, E.ox, E.mgS⟩
theorem er1 (E : ErC P K mg x C f cda cc) (lk : K.lookup f = some ⟨oc, od, .func (ksFn "__init__" qual (defArgs st) (defBody st) (defScope st) dV kV doc pm an (.ref cda) ct cc), osl⟩) (hcd : codeIn K (.ref cda) qual = true) (hno : findIn K (.ref C) fl = some none)
    (hbd : defBody st = [.Expr (.Call (.Attribute (.Call (.Name "super" p0) [] [] p1) "__init__" p2) [.Name a1 pa] [] p3) p4, .Assign [.Attribute (.Name "self" pb) fl pc] (.Name a1 pd) pe])
    (S : SupScope ["self", a1] ["self", a1] (defScope st)) (hh : ∃ a, ((defArgs st).posonlyargs ++ (defArgs st).args).head? = some a ∧ a.arg = "self") (hx1 : (a1 == ("__debug__" : Str)) = false) (hx2 : (a1 == ("__classdict__" : Str)) = false)
    (hb : ∀ us : List Value, us.length = 2 → bindArgs (ksFn "__init__" qual (defArgs st) (defBody st) (defScope st) dV kV doc pm an (.ref cda) ct cc) ⟨us, []⟩ = pure ((["self", a1] : List Str).zip us))
    (hc : ∀ L : Addr, eval (.Call (.Attribute (.Call (.Name "super" p0) [] [] p1) "__init__" p2) [.Name a1 pa] [] p3) (supEnv qual (defScope st) L f cda cc) = (do
      let ov ← attributeBase (.Call (.Name "super" p0) [] [] p1) "__init__" (supEnv qual (defScope st) L f cda cc) (eval (.Call (.Name "super" p0) [] [] p1) (supEnv qual (defScope st) L f cda cc))
      standAt p2.atName
      let (f1, first) ← holding [ov] (getMethod ov "__init__" (pl L))
      callWith p3 f1 first (backTo p3 (starEach [.Name a1 pa] (supEnv qual (defScope st) L f cda cc))) [])) : Er P w K mg base 1 x [fl] :=
  ⟨⟨C, f, _, _, E.hm, E.ox, E.iC, E.tI, init1 (k := 0) lk hcd hbd S (E.supK hh) hno hx1 hx2 hc, Binds.all hb⟩, by simp⟩
theorem er2 (E : ErC P K mg x C f cda cc) (lk : K.lookup f = some ⟨oc, od, .func (ksFn "__init__" qual (defArgs st) (defBody st) (defScope st) dV kV doc pm an (.ref cda) ct cc), osl⟩) (hcd : codeIn K (.ref cda) qual = true) (hno : findIn K (.ref C) fl = some none) (hno2 : findIn K (.ref C) gl = some none)
    (hbd : defBody st = [.Expr (.Call (.Attribute (.Call (.Name "super" p0) [] [] p1) "__init__" p2) [.Name a1 pa, .Name a2 pf] [] p3) p4, .Assign [.Attribute (.Name "self" pb) fl pc] (.Name a1 pd) pe, .Assign [.Attribute (.Name "self" pg) gl ph] (.Name a2 pi) pj])
    (S : SupScope ["self", a1, a2] ["self", a1, a2] (defScope st)) (hh : ∃ a, ((defArgs st).posonlyargs ++ (defArgs st).args).head? = some a ∧ a.arg = "self") (hx1 : (a1 == ("__debug__" : Str)) = false) (hx2 : (a1 == ("__classdict__" : Str)) = false) (hy1 : (a2 == ("__debug__" : Str)) = false) (hy2 : (a2 == ("__classdict__" : Str)) = false)
    (hb : ∀ us : List Value, us.length = 3 → bindArgs (ksFn "__init__" qual (defArgs st) (defBody st) (defScope st) dV kV doc pm an (.ref cda) ct cc) ⟨us, []⟩ = pure ((["self", a1, a2] : List Str).zip us))
    (hc : ∀ L : Addr, eval (.Call (.Attribute (.Call (.Name "super" p0) [] [] p1) "__init__" p2) [.Name a1 pa, .Name a2 pf] [] p3) (supEnv qual (defScope st) L f cda cc) = (do
      let ov ← attributeBase (.Call (.Name "super" p0) [] [] p1) "__init__" (supEnv qual (defScope st) L f cda cc) (eval (.Call (.Name "super" p0) [] [] p1) (supEnv qual (defScope st) L f cda cc))
      standAt p2.atName
      let (f1, first) ← holding [ov] (getMethod ov "__init__" (pl L))
      callWith p3 f1 first (backTo p3 (starEach [.Name a1 pa, .Name a2 pf] (supEnv qual (defScope st) L f cda cc))) [])) : Er P w K mg base 1 x [fl, gl] :=
  ⟨⟨C, f, _, _, E.hm, E.ox, E.iC, E.tI, init2 (k := 0) lk hcd hbd S (E.supK hh) hno hno2 hx1 hx2 hy1 hy2 hc, Binds.all hb⟩, by simp⟩
end
/-- a def of the law that calls what it got -/
structure Lf (K : Frag) (mg : Str → Option Value) (x : Str) (TT : TTh) : Prop where
  ex : ∃ (g : Addr) (pg : Arguments) (bg : List Stmt) (sg : Scope) (dV kV doc pm cdv ct oc : Value) (an od : Option Addr) (osl : Array (Option Value)) (Ng : List Str) (a : Str), mg x = some (.ref g) ∧ keepIn K (.ref g) = true ∧
    K.lookup g = some ⟨oc, od, .func (fnOf x x pg bg sg dV kV doc pm an cdv ct), osl⟩ ∧ codeIn K cdv x = true ∧ L2.Binds K (fnOf x x pg bg sg dV kV doc pm an cdv ct) [a] [] ∧ FnScope Ng [a] sg ∧ Ng[0]? = some a ∧ Vis sg a ∧ (a == ("__debug__" : Str)) = false ∧ (a == ("__classdict__" : Str)) = false ∧
    ∀ (X : Cx) (q : Str), X.K = K → X.mg = mg → GivesD X Ng x sg g cdv bg a q TT
theorem de_lamF {X : Cx} {Wx : WX} {TT : TTh} {x q : Str} {c P : Addr} {k : Nat} {params : Arguments} {body : Expr} {scope : Scope} {fl : EF} {p lpos pos : Pos} (F : Lf X.K X.mg x TT) (hg : Gl X x) (hq : X.env.qual ++ "<lambda>" = q)
    (TB : TabB X.base X.mg c P) (hcode : X.env.code = .ref c) (hr : Room (k + 2) X.A) (L : LamS X.env.scope scope) (hdef : defaultsOf params X.env = ([], []))
    (hbind : ∀ (q : Str) (cl : List (Str × Addr)) (pm cv ctv : Value), bindArgs (PySem.W.kla_fn "<lambda>" q params body scope cl pm cv ctv) ⟨[], []⟩ = pure [])
    (hbody : ∀ (A : Around) (outer : List PySem.Env) (s : Shared) (H : Hp) (E : XK) (f c' : Addr), Room k (A.deeper (lamEnv X scope s.heap.objs.size f c')) → DE (lamCx X A outer s H E scope f c') (fun cls d _ H => E cls d H) body fl)
    (hdb : (x == ("__debug__" : Str)) = false := by decide) : DE X Wx (.Call (.Name x p) [.Lambda params body scope lpos] [] pos) (eLam P q TT fl) := by
  obtain ⟨g, pg, bg, sg, dV, kV, doc, pm, cdv, ct, oc, an, od, osl, Ng, a, hm, hk, lk, hcg, hb, Sg, hNg, hva, hd, hcd, hG⟩ := F.ex
  exact de_lam hg hm hk lk hcg hb Sg hNg hva hq (hG X _ rfl rfl) TB hcode hr L hdef hbind hbody hdb hd hcd
/-- a def whose code object is known -/
theorem Fn.okC {P : Program} {w : World} {K : Frag} {mg : Str → Option Value} {base : Heap} {x qual : Str} {st : Stmt} {f : Addr} {N ps : List Str} {k : Nat} {body : SF} {dV kV doc pm cdv ct oc : Value} {an od : Option Addr} {osl : Array (Option Value)}
    (lk : K.lookup f = some ⟨oc, od, .func (fnOf x qual (defArgs st) (defBody st) (defScope st) dV kV doc pm an cdv ct), osl⟩) (hcd : codeIn K cdv qual = true) (Sc : FnScope N ps (defScope st))
    (hbody : ∀ (A : Around) (outer : List PySem.Env) (s : Shared) (H : Hp) (E : XK), Room k (A.deeper (envOfC qual (defScope st) s.heap.objs.size f cdv)) →
      DSs (cxOf (L2.CX P w) P w K mg base N qual (defScope st) f cdv A outer s H E) (fun cls d _ H => E cls d H) (defBody st) body) :
    FnOk P w K mg base (L2.CX P w) (k + 1) f (fnOf x qual (defArgs st) (defBody st) (defScope st) dV kV doc pm an cdv ct) ps (spD K mg ps.length (runDef N.length ps.length body)) := by
  refine fn_of lk hcd Sc (fun vs H Q E h => h.1) (fun A outer s H vs Q E hr h => ?_)
  obtain ⟨hl, ad, ws, S, r, rs, q⟩ := h
  refine ⟨_, hbody A outer s H E hr, ad, _, S, sig_start r hl (by have := congrArg List.length Sc.pre; rw [List.length_take] at this; omega), rs, ?_⟩
  unfold runDef at q
  revert q
  cases body (ws.map some ++ List.replicate (N.length - ps.length) none) S with
  | bad => exact fun z => z
  | exc x ρ' S' => exact fun q cls d σ' H' ad' fr sg xr rs' => q cls d H' ad fr.cut xr (rs.cut fr rs')
  | fl g S' =>
    cases g with
    | nx ρ' => exact fun q σ' H' ad' fr sg rs' => exit_post rs fr (w := .d .none) .non rs' q
    | rt w => exact fun q v H' ad' fr rv rs' => exit_post rs fr rv rs' q
    | bk ρ' => exact fun q => q.elim
    | ct ρ' => exact fun q => q.elim
end DL

set_option Elab.async false
set_option linter.all false
set_option maxRecDepth 100000
set_option maxHeartbeats 4000000
/-! D20: the law's def at the top alone (where no repr is under way). -/
namespace DL
open PySem PySem.Spec PyProof.Rows L2 LamX
/-- what a def does when it is called from the top -/
def RunTop (P : Program) (w : World) (K : PySem.W.Frag) (mg : Str → Option Value) (base : Heap) (CX : CXT) (f : Addr) (fd : FuncData) (ps : List Str) (sp : Sp) : Prop :=
  ∀ (s : Shared) (H : Hp) (args : Args) (us : List Value) (vs : List V) (Q : VK) (E : XK), Env0 P w K mg base callerA [] s H → BindsTo s fd args (ps.zip us) → Vals vs us → sp vs H Q E → codeAny (model P w) callerA (.call (.ref f) args) (CR CX [] P w H s Q E) s
section
variable {P : Program} {w : World} {K : PySem.W.Frag} {mg : Str → Option Value} {base : Heap}
theorem run_top {CX : CXT} {k : Nat} {f : Addr} {nm qual : Str} {pms : Arguments} {bd : List Stmt} {sc : Scope} {dV kV doc pm cdv ct oc : Value} {an od : Option Addr} {osl : Array (Option Value)} {N ps : List Str} {sp : Sp}
    (lk : K.lookup f = some ⟨oc, od, .func (PySem.W.fnOf nm qual pms bd sc dV kV doc pm an cdv ct), osl⟩) (hcd : PySem.W.codeIn K cdv qual = true) (Sc : FnScope N ps sc) (ln : ∀ vs H Q E, sp vs H Q E → vs.length = ps.length) (hr : Room (k + 1) callerA)
    (hb : ∀ (s : Shared) (H : Hp) (vs : List V) (Q : VK) (E : XK), Room k (callerA.deeper (envOfC qual sc s.heap.objs.size f cdv)) → sp vs H Q E → ∃ t, PSs (cxOf CX P w K mg base N qual sc f cdv callerA [] s H E) bd t ∧ t { nx := fun _ H2 => Q .non H2, rt := Q } (L2.start N vs) H) :
    RunTop P w K mg base CX f (PySem.W.fnOf nm qual pms bd sc dV kV doc pm an cdv ct) ps sp := by
  intro s H args us vs Q E e0 hbi rv hs
  have up : ∀ b o, base.get? b = some o → s.heap.get? b = some o := fun b o e => (e0.bs b o e).1
  have kinds : ∀ y ∈ ps.zip us, sc.names.lookup y.1 = some .local ∨ (sc.names.lookup y.1 = some .cell ∧ ((cellsFrom (s.heap.objs.size + 1) sc.names []).lookup y.1).isSome = true) := by
    rintro ⟨n, v⟩ hy
    exact (Sc.par n (List.of_mem_zip hy).1).imp id fun z => ⟨z, PySem.W.cellsFrom_some _ _ _ (.inl z)⟩
  refine codeAny_call_function hr.depth (e0.mod.kin.keeps up _ _ lk) rfl Sc.co Sc.gen rfl (PySem.W.codeRec_of (e0.mod.kin.keeps up) hcd) (hbi _ _ _ _ (wpAny_newFunctionEnv_cells Sc.kind kinds fun env ee s1 x => ?_))
  subst ee
  obtain ⟨t, ht, hq⟩ := hb s H vs Q E (hr.deeper _) hs
  refine ⟨(e0.mod.nolimit.keeps up).keeps x.toInCall.keep, codeAny_func (wpAny_mono (ht.run [] s1 (L2.start N vs) H _ (inv_start Sc hr.hd e0 (ln _ _ _ _ hs) rv x) hq) (fun fl s' hz => ?_) fun _ _ hz => hz)⟩
  cases fl with
  | brk => exact hz.elim fun _ z => z.elim fun _ z => z.2.elim
  | cont => exact hz.elim fun _ z => z.elim fun _ z => z.2.elim
  | next =>
    obtain ⟨σ', H', J, q⟩ := hz
    exact ⟨.non, H', J.os, J.bare, J.base, J.hok, rfl, q⟩
  | ret u =>
    obtain ⟨v, σ', H', J, r, q⟩ := hz
    exact ⟨v, H', J.os, J.bare, J.base, J.hok, r, q⟩
end
/-! ### from the top to the row -/
section
variable {P : Program} {w : World} {K : PySem.W.Frag} {mg mb : Str → Option Value} {CX : CXT} {fa a : Addr} {cs : List (Addr × Addr)} {fd : FuncData} {sp : Sp} {s : Shared} {vs : List Value} {ns : List Int}
abbrev tabOb : Obj := { cls := .none, data := .fields #[] }
/-- what is tracked at first: the script (where it is none of the known), the tables -/
def trk0 (K : PySem.W.Frag) (a : Addr) (PS : List Addr) (o : Obj) (xs : List V) : Hp := fun b => if b = a ∧ K.lookup a = none then some (.frz o (.lst xs)) else if b ∈ PS then some (.tbl #[]) else none
theorem trk0_or {PS : List Addr} {o : Obj} {xs : List V} (b : Addr) : trk0 K a PS o xs b = none ∧ b ∉ PS ∨ (b = a ∧ K.lookup a = none ∧ trk0 K a PS o xs b = some (.frz o (.lst xs))) ∨ (b ∈ PS ∧ trk0 K a PS o xs b = some (.tbl #[])) := by
  unfold trk0
  by_cases h1 : b = a ∧ K.lookup a = none
  · exact .inr (.inl ⟨h1.1, h1.2, if_pos h1⟩)
  · rw [if_neg h1]
    by_cases h2 : b ∈ PS
    · exact .inr (.inr ⟨h2, if_pos h2⟩)
    · exact .inl ⟨if_neg h2, h2⟩
theorem top_call (KX : K.In s.heap) (h1 : s.heap.Ns mainGlobals mg) (h2 : s.heap.Ns builtinsNs mb) (h3 : ∀ x : Str, x ≠ "__name__" → mb x = bootBuiltins x) (h4 : s.heap.NoLimit) (h5 : s.gens = #[])
    (tT : ∀ p ∈ cs, s.heap.get? p.2 = some tabOb) (tN : ∀ p ∈ cs, K.lookup p.2 = none) (tC : ∀ p ∈ cs, PySem.W.CodeHd s.heap p.1 p.2)
    (h6 : ∃ (bm : Addr) (ob : Obj), mg "__builtins__" = some (.ref bm) ∧ bm ≠ builtinsNs ∧ s.heap.get? bm = some ob ∧ ob.cls = .type "module" ∧ ob.dict = some builtinsNs ∧ ob.data = .plain)
    (ha : s.heap.get? a = some { cls := .type "list", data := .seq vs.toArray }) (hi : IntsAre vs ns) (hz : ns.length ≤ sizeLine)
    (F : ∀ base : Heap, K.In base → base.Ns mainGlobals mg → (∀ p ∈ cs, TabB base mg p.1 p.2) → RunTop P w K mg base CX fa fd ["script"] sp) (hbd : ∀ (s : Shared) (u : Value), BindsTo s fd ⟨[u], []⟩ [("script", u)])
    (hsp : ∀ H : Hp, (∀ p ∈ cs, H p.2 = some (.tbl #[])) → FzL K H a (ns.map V.int) → sp [.ref a] H (fun v _ => v = .bl true) fun _ _ _ => False) (noE : ∀ H e s', CX [] H s (fun _ _ _ => False) e s' → False) :
    codeAny (model P w) callerA (.call (.ref fa) ⟨[.ref a], []⟩) (fun r s' => r = .ok (.ret (.bool true)) ∧ OldK s.heap s'.heap ∧ s'.os = s.os ∧ AllBare s'.gens) s := by
  have rv := vals_ints hi
  have tP : ∀ b ∈ cs.map (·.2), s.heap.get? b = some tabOb := fun b hb => by
    obtain ⟨p, hp, rfl⟩ := List.mem_map.mp hb
    exact tT p hp
  have na : a ∉ cs.map (·.2) := fun z => by
    have := (tP a z).symm.trans ha
    injection this with this
    injection this with _ _ this
    cases this
  let lo : Obj := { cls := .type "list", data := .seq vs.toArray }
  let H := trk0 K a (cs.map (·.2)) lo (ns.map V.int)
  have or := trk0_or (K := K) (a := a) (PS := cs.map (·.2)) (o := lo) (xs := ns.map V.int)
  have ok : HOk P w H s.heap := fun b u e => by
    rcases or b with ⟨z, _⟩ | ⟨rfl, _, z⟩ | ⟨hb, z⟩
    · rw [show H b = none from z] at e; cases e
    · rw [show H b = _ from z] at e
      cases e
      exact ⟨ha, by rw [List.length_map]; exact hz, vs, 0, rv, ha⟩
    · rw [show H b = _ from z] at e
      cases e
      exact tP b hb
  -- what is neither the script nor a table is not tracked
  have out : ∀ {b : Addr} {o : Obj}, s.heap.get? b = some o → (∀ xs n, o.data ≠ .seq xs n) → o.data ≠ .fields #[] → (hidT s.heap H).get? b = some o := fun {b o} e q1 q2 => by
    refine hidT_get e ?_
    rcases or b with ⟨z, _⟩ | ⟨rfl, _, z⟩ | ⟨hb, z⟩
    · exact z
    · rw [ha] at e; cases e; exact absurd rfl (q1 _ _)
    · rw [tP b hb] at e; cases e; exact absurd rfl q2
  have outNs : ∀ {b : Addr} {m : Str → Option Value}, s.heap.Ns b m → (hidT s.heap H).Ns b m := fun {b m} ⟨o, es, ep, e, d, r⟩ => ⟨o, es, ep, out e (fun xs n z => by rw [d] at z; cases z) (fun z => by rw [d] at z; cases z), d, r⟩
  have outK : K.In (hidT s.heap H) := fun b o e => hidT_get (KX b o e) (by
    rcases or b with ⟨z, _⟩ | ⟨rfl, q, _⟩ | ⟨hb, _⟩
    · exact z
    · rw [q] at e; cases e
    · obtain ⟨p, hp, rfl⟩ := List.mem_map.mp hb
      rw [tN p hp] at e; cases e)
  have tb : ∀ p ∈ cs, TabB (hidT s.heap H) mg p.1 p.2 := fun p hp => by
    have eT := tT p hp
    refine ⟨?_, ?_, fun z => ?_⟩
    · obtain ⟨o, us, fl, tf, fg, tg, iF, tx, tt, e1, r1, r2, r3, rest⟩ := tC p hp
      refine ⟨o, us, fl, tf, fg, tg, iF, tx, tt, out e1 (fun xs n z => by rw [r2] at z; cases z) (fun z => ?_), r1, r2, r3, rest⟩
      rw [r2] at z
      cases z
      simp at r3
    · obtain ⟨bm, ob, b1, b2, b3, b4, b5, b6⟩ := h6
      refine ⟨bm, ob, b1, b2, fun q => ?_, fun q => ?_, out b3 (fun xs n z => by rw [b6] at z; cases z) (fun z => by rw [b6] at z; cases z), b4, b5, b6⟩
      · obtain ⟨o, es, ep, e, hd, _⟩ := h1
        rw [q, e] at b3
        cases b3
        rw [hd] at b6; cases b6
      · rw [q, eT] at b3
        cases b3
        cases b6
    · obtain ⟨o, es, ep, e, hd, _⟩ := h1
      rw [z, eT] at e
      cases e
      cases hd
  have md : L2.Mod K mg (hidT s.heap H) := by
    obtain ⟨mc, c1, c2⟩ := h4
    exact ⟨outK, outNs h1, ⟨mb, outNs h2, h3⟩, ⟨mc, outNs c1, c2⟩⟩
  have fz : FzL K H a (ns.map V.int) := by
    cases hk : K.lookup a with
    | none => exact .inl ⟨lo, if_pos ⟨rfl, hk⟩⟩
    | some o =>
      have e := (KX a o hk).symm.trans ha
      cases e
      exact .inr ⟨_, vs.toArray, 0, hk, rfl, rfl, rfl, by rw [List.size_toArray, hi.length]; exact hz, by simpa using rv⟩
  have tH : ∀ p ∈ cs, H p.2 = some (.tbl #[]) := fun p hp => by
    have hm : p.2 ∈ cs.map (·.2) := List.mem_map.mpr ⟨p, hp, rfl⟩
    rcases or p.2 with ⟨_, z⟩ | ⟨z, _⟩ | ⟨_, z⟩
    · exact absurd hm z
    · rw [z] at hm; exact absurd hm na
    · exact z
  have env : Env0 P w K mg (hidT s.heap H) callerA [] s H := by
    refine ⟨rfl, md, fun b o e => of_hidT e, Nat.le_of_eq (hidT_size _ _), trivial, fun b hb => absurd hb (by intro q; cases q), ok, .of_eq h5⟩
  refine codeAny_mono (F _ outK (outNs h1) tb s H ⟨[.ref a], []⟩ [.ref a] [.ref a] _ _ env (hbd s (.ref a)) (.cons rfl .nil) (hsp H tH fz)) fun r s' q => ?_
  cases r with
  | error e => exact (noE H e s' q).elim
  | ok fl =>
    cases fl with
    | next => exact q.elim
    | brk => exact q.elim
    | cont => exact q.elim
    | ret u =>
      obtain ⟨v, H', os, bare, un, ok', r', ev⟩ := q
      have ev : v = .bl true := ev
      subst ev
      obtain rfl : u = Value.bool true := r'
      have stay : ∀ b o, b ∉ cs.map (·.2) → s.heap.get? b = some o → s'.heap.get? b = some o := fun b o nb e => by
        rcases or b with ⟨z, _⟩ | ⟨rfl, _, z⟩ | ⟨hb, _⟩
        · exact un.keep b o e z (fun q => by cases q) (fun q => by cases q)
        · have z1 := (ok b _ z).1
          have z2 := (ok' b _ (un.frzs b lo _ z)).1
          rw [z1] at e
          cases e
          exact z2
        · exact absurd hb nb
      have more : ∀ p ∈ cs, ∃ m : Array Value, s'.heap.get? p.2 = some { cls := .none, data := .fields m } := fun p hp => by
        obtain ⟨m, z⟩ := un.tbls p.2 #[] (tH p hp)
        exact ⟨_, ok' p.2 _ z⟩
      refine ⟨rfl, OldK.mk (fun b o e => ?_) (fun b o e => ?_), os, bare⟩
      · by_cases hb : b ∈ cs.map (·.2)
        · obtain ⟨p, hp, rfl⟩ := List.mem_map.mp hb
          obtain ⟨m, hm⟩ := more p hp
          have e' := (tT p hp).symm.trans e
          cases e'
          exact .inr (.inl ⟨((tC p hp).tab (tT p hp)).isCodeTable, rfl, #[], m, rfl, by rw [Array.empty_append]; exact hm⟩)
        · exact .inl (stay b o hb e)
      · by_cases hb : b ∈ cs.map (·.2)
        · obtain ⟨p, hp, rfl⟩ := List.mem_map.mp hb
          exact (more p hp).elim fun m z => ⟨_, z⟩
        · exact ⟨o, stay b o hb e⟩
end
/-- the promise of the law's def at the top, with some tables of code objects -/
def spTop (K : PySem.W.Frag) (cs : List (Addr × Addr)) : Sp := fun vs H Q _ => ∃ (a : Addr) (ns : List Int), vs = [.ref a] ∧ FzL K H a (ns.map V.int) ∧ (∀ p ∈ cs, H p.2 = some (.tbl #[])) ∧ ns.length ≤ 63 ∧ (∀ z ∈ ns, Builtin.Int.intBits z ≤ 1048576) ∧ ∀ H', Q (.bl true) H'
theorem walkG {l : PySem.W.OpenLaw} {q : Program} {loose : List Str} {XP : (Str → Option Value) → Heap → Prop} {YP : World → Heap → Prop} {d : DefRec} {K : Params → PySem.W.Frag} {cs : List (Addr × Addr)} (hn : l.most = some 63) (hdf : d.params.defaults = [])
    (hY : ∀ (w : World) (h : Heap), YP w h → (K w.params).In h) (hrec : cs ≠ [] → (PyProof.Rows.recsOf q).find? (fun e => e.name == d.name) = some d) (htab : ∀ w : World, ∀ p ∈ cs, PySem.W.tabIn (K w.params) d.name = some p) (hno : ∀ w : World, ∀ p ∈ cs, (K w.params).lookup p.2 = none)
    (F : ∀ (w : World) (mg : Str → Option Value) (fa : Addr) (h : Heap), (K w.params).In h → h.Ns mainGlobals mg → mg d.name = some (.ref fa) →
      ∃ fd : FuncData, (∀ (s : Shared) (u : Value), BindsTo s fd ⟨[u], []⟩ [("script", u)]) ∧ ∀ base : Heap, (K w.params).In base → base.Ns mainGlobals mg → (∀ p ∈ cs, TabB base mg p.1 p.2) → RunTop l.prog w (K w.params) mg base (L2.CX l.prog w) fa fd ["script"] (spTop (K w.params) cs)) :
    PySem.W.WalkO q loose XP YP l.row.toRowW d [] (fun f vs => PySem.call f vs) := by
  refine Att.attach_callB hn hdf fun w s0 s mg mb fa o pm cd doc a vs ns G Y ho hd hcd hmg hobj hints hlen hbits hg => ?_
  have KX := hY w _ Y
  obtain ⟨fd, hb, hF⟩ := F w mg fa _ KX G.T.g hmg
  have tabs : ∀ p ∈ cs, PySem.W.CodeHd s.heap p.1 p.2 ∧ s.heap.get? p.2 = some tabOb := fun p hp => PySem.W.tab_of G.T KX (hrec (List.ne_nil_of_mem hp)) (htab w p hp)
  exact top_call KX G.T.g G.T.b G.T.builtins G.T.nolimit hg (fun p hp => (tabs p hp).2) (hno w) (fun p hp => (tabs p hp).1) G.T.bmain hobj hints (Nat.le_trans hlen (by decide)) hF hb
    (fun H tH fz => ⟨a, ns, rfl, fz, tH, hlen, hbits, fun _ => rfl⟩) fun H e s' z => noCX z
/-- the law's def at the top, by its body -/
theorem Fn.top {P : Program} {w : World} {K : PySem.W.Frag} {mg : Str → Option Value} {base : Heap} {x qual : Str} {st : Stmt} {f : Addr} {N : List Str} {k : Nat} {body : SF} {dV kV doc pm cdv ct oc : Value} {an od : Option Addr} {osl : Array (Option Value)} {cs : List (Addr × Addr)} {qn : Str}
    (lk : K.lookup f = some ⟨oc, od, .func (PySem.W.fnOf x qual (defArgs st) (defBody st) (defScope st) dV kV doc pm an cdv ct), osl⟩) (hcd : PySem.W.codeIn K cdv qual = true) (Sc : FnScope N ["script"] (defScope st)) (hr : Room (k + 1) callerA) (hnd : (cs.map (·.2)).Nodup)
    (hb : ∀ (s : Shared) (H : Hp) (E : XK), Room k (callerA.deeper (envOfC qual (defScope st) s.heap.objs.size f cdv)) → DSs (cxOf (L2.CX P w) P w K mg base N qual (defScope st) f cdv callerA [] s H E) (fun cls d _ H => E cls d H) (defBody st) body)
    (hl : ∀ ns : List Int, ns.length ≤ 63 → (∀ z ∈ ns, Builtin.Int.intBits z ≤ 1048576) → ∃ S', runDef N.length 1 body [.d (.list (ns.map PyData.int))] (cs.map fun p => .tab p.2 qn) = .ok (.d (.bool true)) S') :
    RunTop P w K mg base (L2.CX P w) f (PySem.W.fnOf x qual (defArgs st) (defBody st) (defScope st) dV kV doc pm an cdv ct) ["script"] (spTop K cs) := by
  refine run_top lk hcd Sc (fun vs H Q E ⟨a, ns, e, _⟩ => by rw [e]; rfl) hr fun s H vs Q E hr' hs => ?_
  obtain ⟨a, ns, rfl, fz, tH, hn, hbits, q⟩ := hs
  obtain ⟨S', hrun⟩ := hl ns hn hbits
  have rs : RS K (cs.map (·.2)) H (cs.map fun p => .tab p.2 qn) := by
    refine ⟨by rw [List.length_map, List.length_map], hnd, fun (j : Nat) (o : MO) e => ?_⟩
    rw [List.getElem?_map] at e
    obtain ⟨p, hp, rfl⟩ := Option.map_eq_some_iff.mp e
    exact ⟨p.2, by rw [List.getElem?_map, hp]; rfl, rfl, TabS.nil (tH p (List.mem_of_getElem? hp))⟩
  have hN : 1 ≤ N.length := by
    have := congrArg List.length Sc.pre
    rw [List.length_take] at this
    have h1 : (["script"] : List Str).length = 1 := rfl
    rw [h1] at this
    omega
  have rsc : RepWs K (cs.map fun p => p.2) H [.ref a] [.d (.list (ns.map PyData.int))] := .cons (.lst fz (reps_ints ns)) .nil
  refine ⟨_, hb s H E hr', cs.map (fun p => p.2), [Wv.d (.list (ns.map PyData.int))].map some ++ List.replicate (N.length - 1) none, cs.map (fun p : Addr × Addr => MO.tab p.2 qn), sig_start (N := N) (ps := ["script"]) rsc rfl hN, rs, ?_⟩
  unfold runDef at hrun
  revert hrun
  show (match body ([Wv.d (.list (ns.map PyData.int))].map some ++ List.replicate (N.length - 1) none) _ with
    | .fl (.rt w) S' => _
    | .fl (.nx _) S' => _
    | .exc x _ S' => _
    | _ => _) = _ → _
  cases body ([Wv.d (.list (ns.map PyData.int))].map some ++ List.replicate (N.length - 1) none) (cs.map fun p => .tab p.2 qn) with
  | bad => intro z; cases z
  | exc x ρ' S1 => intro z; cases z
  | fl g S1 =>
    cases g with
    | bk _ => intro z; cases z
    | ct _ => intro z; cases z
    | nx ρ' =>
      intro z
      simp [exitW] at z
    | rt wv =>
      intro z v H' ad' fr rv rs'
      cases wv with
      | fn _ _ _ => simp [exitW] at z
      | own k =>
        exfalso
        dsimp only [exitW] at z
        split at z
        · simp at z
        · split at z <;> simp at z
      | d x =>
        simp [exitW] at z
        obtain ⟨rfl, _⟩ := z
        cases rv
        exact q H'
end DL

set_option Elab.async false
set_option linter.all false
set_option maxRecDepth 100000
set_option maxHeartbeats 4000000
/-! D21: repr of tuples. -/
namespace DL
open PySem PySem.Spec PyProof.Rows L2
abbrev okC (c : Nat) : Prop := c < 0x110000
theorem strOk_iff {x : Str} : PyData.strOk x = true ↔ ∀ c ∈ x.cps.toList, okC c := by
  unfold PyData.strOk
  rw [← Array.all_toList, List.all_eq_true]
  exact ⟨fun h c hc => by simpa using h c hc, fun h c hc => by simpa using h c hc⟩
theorem char_ok (c : Char) : okC c.toNat := by
  have h := c.valid
  have e : c.toNat = c.val.toNat := rfl
  show c.toNat < 0x110000
  rw [e]
  rcases h with h | h
  · have : c.val.toNat < 0xd800 := h
    omega
  · have : c.val.toNat < 0x110000 := h.2
    omega
theorem ofString_ok (s : String) : PyData.strOk (Str.ofString s) = true := by
  rw [strOk_iff]
  intro c hc
  have : c ∈ s.toList.map Char.toNat := by
    have e : (Str.ofString s).cps.toList = s.toList.map Char.toNat := by
      exact cpsOfBytes_string s
    rw [← e]; exact hc
  obtain ⟨ch, _, rfl⟩ := List.mem_map.mp this
  exact char_ok ch
theorem reprChar_ok {q c : Nat} (hc : okC c) : ∀ d ∈ Builtin.Str.reprChar q c, okC d := by
  have hex : ∀ width : Nat, ∀ d ∈ (let e := (Nat.toDigits 16 c).map Char.toNat; List.replicate (width - e.length) 48 ++ e), okC d := fun width d hd => by
    rcases List.mem_append.mp hd with h | h
    · have := List.eq_of_mem_replicate h
      subst this
      decide
    · obtain ⟨ch, _, rfl⟩ := List.mem_map.mp h
      exact char_ok ch
  have two : ∀ a b : Nat, okC a → okC b → ∀ d ∈ [a, b], okC d := fun a b ha hb d hd => by
    simp only [List.mem_cons, List.not_mem_nil, or_false] at hd
    rcases hd with e | e <;> rw [e] <;> assumption
  unfold Builtin.Str.reprChar
  dsimp only
  split
  · exact two 92 c (by decide) hc
  split
  · exact two 92 110 (by decide) (by decide)
  split
  · exact two 92 114 (by decide) (by decide)
  split
  · exact two 92 116 (by decide) (by decide)
  split
  · intro d hd
    have : d = c := by simpa using hd
    rw [this]; exact hc
  split
  · intro d hd
    rcases List.mem_append.mp hd with h | h
    · exact two 92 120 (by decide) (by decide) d h
    · exact hex 2 d h
  split
  · intro d hd
    rcases List.mem_append.mp hd with h | h
    · exact two 92 117 (by decide) (by decide) d h
    · exact hex 4 d h
  · intro d hd
    rcases List.mem_append.mp hd with h | h
    · exact two 92 85 (by decide) (by decide) d h
    · exact hex 8 d h
theorem fold_ok {q : Nat} : ∀ (l : List Nat) (acc : Array Nat), (∀ c ∈ l, okC c) → (∀ c ∈ acc.toList, okC c) → ∀ c ∈ (l.foldl (fun out c => out ++ (Builtin.Str.reprChar q c).toArray) acc).toList, okC c
  | [], acc, _, h => h
  | a :: l, acc, hl, h => by
    rw [List.foldl_cons]
    refine fold_ok l _ (fun c hc => hl c (by simp [hc])) fun c hc => ?_
    rw [Array.toList_append] at hc
    rcases List.mem_append.mp hc with z | z
    · exact h c z
    · exact reprChar_ok (hl a (by simp)) c z
theorem reprText_ok {x : Str} (h : PyData.strOk x = true) : PyData.strOk (reprText x) = true := by
  rw [strOk_iff] at h ⊢
  have hq : okC (reprQuote x) := by
    unfold reprQuote
    split <;> decide
  intro c hc
  unfold reprText at hc
  rw [Array.toList_push] at hc
  rcases List.mem_append.mp hc with z | z
  · rw [← Array.foldl_toList] at z
    exact fold_ok _ _ h (fun c hc => by
      have : c = reprQuote x := by simpa using hc
      rw [this]; exact hq) c z
  · have : c = reprQuote x := by simpa using z
    rw [this]; exact hq
theorem append_ok {x y : Str} (h1 : PyData.strOk x = true) (h2 : PyData.strOk y = true) : PyData.strOk (x ++ y) = true := strOk_append h1 h2
theorem join_ok {sep : Str} (h : PyData.strOk sep = true) : ∀ ts : List Str, (∀ t ∈ ts, PyData.strOk t = true) → PyData.strOk (Str.join sep ts) = true
  | [], _ => by rw [strOk_iff]; intro c hc; exact absurd hc (by show ¬ c ∈ ([] : List Nat); simp)
  | [x], hx => hx x (by simp)
  | x :: y :: r, hx => by
    show PyData.strOk (x ++ sep ++ Str.join sep (y :: r)) = true
    exact append_ok (append_ok (hx x (by simp)) h) (join_ok h (y :: r) fun t ht => hx t (List.mem_cons_of_mem _ ht))
theorem tupleText_ok (ts : List Str) (h : ∀ t ∈ ts, PyData.strOk t = true) : PyData.strOk (tupleText ts) = true := by
  unfold tupleText
  refine append_ok (append_ok (ofString_ok _) (join_ok (ofString_ok _) ts h)) ?_
  split <;> exact ofString_ok _
theorem textFrom_ok : ∀ (ts : List Str) (k : Nat) (acc : Str), PyData.strOk acc = true → (∀ t ∈ ts, PyData.strOk t = true) → PyData.strOk (textFrom k acc ts) = true
  | [], _, acc, h, _ => h
  | t :: ts, k, acc, h, hx => by
    show PyData.strOk (textFrom (k + 1) (acc ++ (if k > 0 then ", " else "" : String) ++ t) ts) = true
    refine textFrom_ok ts _ _ (append_ok (append_ok h (ofString_ok _)) (hx t (by simp))) fun u hu => hx u (by simp [hu])
mutual
theorem shown_ok : ∀ d : PyData, d.canLay0 = true → PyData.strOk d.shown = true
  | .none, _ => by rw [PyData.shown]; exact ofString_ok _
  | .bool b, _ => by
    rw [PyData.shown]
    split <;> exact ofString_ok _
  | .int i, _ => by rw [PyData.shown]; exact ofString_ok _
  | .str x, h => by
    rw [PyData.shown]
    exact reprText_ok (by simpa [PyData.canLay0] using h)
  | .list xs, h => by
    rw [PyData.shown]
    unfold listText
    exact append_ok (textFrom_ok _ _ _ (ofString_ok _) (shownAll_ok xs (by simpa [PyData.canLay0] using h))) (ofString_ok _)
  | .tuple xs, h => by
    rw [PyData.shown]
    exact tupleText_ok _ (shownAll_ok xs (by simpa [PyData.canLay0] using h))
  | .dict kvs, h => by simp [PyData.canLay0] at h
theorem shownAll_ok : ∀ ds : List PyData, PyData.canLayAll0 ds = true → ∀ t ∈ PyData.shownAll ds, PyData.strOk t = true
  | [], _ => fun t ht => by simp [PyData.shownAll] at ht
  | d :: ds, h => fun t ht => by
    rw [PyData.canLayAll0, Bool.and_eq_true] at h
    rw [PyData.shownAll] at ht
    rcases List.mem_cons.mp ht with e | ht
    · rw [e]; exact shown_ok d h.1
    · exact shownAll_ok ds h.2 t ht
end
def reprOk (d : PyData) : Bool := isTupD d && cmpOk d && d.showable && decide (d.depth ≤ 60) && d.leavesShort 13 && decide (d.weight ≤ 2 ^ 20)
def reprG : List PyData → Option PyData
  | [d] => if reprOk d = true then some (.str d.shown) else none
  | _ => none
theorem cp_repr {X : Cx} (hu : X.A.units + 64 < cLine) (hg : X.A.guards = some []) : CallP X (.builtin "repr") reprG := by
  intro pins s σ H xs us Q I r ⟨ds, d, h, e, q⟩
  unfold reprG at e
  split at e
  · rename_i d0
    split at e
    · rename_i ok
      cases e
      obtain ⟨x, rfl, r1⟩ := repV1 h
      unfold reprOk at ok
      simp only [Bool.and_eq_true, decide_eq_true_eq] at ok
      obtain ⟨⟨⟨⟨⟨k1, k2⟩, k3⟩, k4⟩, k5⟩, k6⟩ := ok
      obtain ⟨dp, sh⟩ := r1.dp k2
      obtain ⟨u, eu, rx⟩ := vals1 r
      subst eu
      obtain ⟨as, hr⟩ := Dp.reads I d0 x u dp rx
      have hcl : d0.canLay0 = true := by
        unfold SeqAt.shaped at sh
        rw [Bool.and_eq_true] at sh
        exact sh.1
      have hnd : d0.hasDict = false := PyData.hasDict_of_canLay d0 hcl
      have hsz := PyData.shown_fits (B := 13) (by decide) (by decide) k5 k6
      cases d0 with
      | tuple l =>
        obtain ⟨a, vs, rfl, t, rr⟩ := r1.tup
        cases rx
        refine repr_of_reads' hr k3 (PyData.noDict_hsm hnd) hg (by omega) (fun b o e => e) (fun h' u tk hk => ?_) hsz
        exact ⟨.str (PyData.tuple l).shown, H, I.kept (t' := tk) hk, ⟨_, rfl⟩, q _ H (Ex.refl H) (.str _ (strG_mk hsz (shown_ok _ hcl)))⟩
      | _ => simp [isTupD] at k1
    · cases e
  · cases e
end DL

set_option Elab.async false
set_option linter.all false
set_option maxRecDepth 100000
set_option maxHeartbeats 4000000
/-! D22: a + b of lists as a new list. -/
namespace DL
open PySem PySem.Spec PyProof.Rows L2
theorem op_catL {X : Cx} : OpR X (binaryOp .Add) (fun x y H Q => ∃ a b vs us, x = .ref a ∧ y = .ref b ∧ SqL X.K H a vs ∧ SqL X.K H b us ∧ vs.length + us.length ≤ sizeLine ∧ ∀ p, H p = none → Q (.ref p) (upd H p (.lst (vs ++ us)))) := by
  intro pins s σ H x y v u Q I rx ry h
  obtain ⟨a, b, vs, us, rfl, rfl, t1, t2, hz, q⟩ := h
  cases rx
  cases ry
  obtain ⟨its, rv1, p1, _⟩ := I.list t1
  obtain ⟨its2, rv2, p2, _⟩ := I.list t2
  have hl : its.length + its2.length ≤ sizeLine := by rw [← rv1.length, ← rv2.length]; exact hz
  refine cat_lists p1 p2 hl ?_
  exact ⟨.ref _, _, I.lnew (t' := s.toks) (rv1.append rv2) (by rw [List.length_append]; exact hz), rfl, q _ I.fresh⟩
def mCat (f g : EF) : MF := fun ρ S => (f ρ S).bind fun x S1 => (g ρ S1).bind fun y S2 => match view S2 x with
  | some (.list l) => match view S2 y with
    | some (.list m) => if l.length + m.length ≤ sizeLine then .ok (l ++ m) S2 else .bad
    | _ => .bad
  | _ => .bad
theorem dm_cat {X : Cx} {Wx : WX} {a b : Expr} {f g : EF} {pos : Pos} (ha : DE X Wx a f) (hb : DE X Wx b g) : DM X Wx (.BinOp a .Add b pos) (mCat f g) := PE.conv (pe_op op_catL ha hb) fun σ H Q ⟨ad, ρ, S, sg, rs, q⟩ => by
  refine ⟨ad, ρ, S, sg, rs, post_mono (post_bind (Rel1 := RepW X.K) q) ?_⟩
  rintro x H1 ⟨ad1, wx, S1, fr1, r1, rs1, q1⟩
  refine ⟨ad1, ρ, S1, sg.fr fr1, rs1, post_mono (post_bind (Rel1 := RepW X.K) q1) ?_⟩
  rintro y H2 ⟨ad2, wy, S2, fr2, r2, rs2, q2⟩
  have r1' := r1.fr fr2
  cases e1 : view S2 wx with
  | none => rw [e1] at q2; exact q2.elim
  | some dx =>
    rw [e1] at q2
    cases dx with
    | list l =>
      dsimp only at q2
      cases e2 : view S2 wy with
      | none => rw [e2] at q2; exact q2.elim
      | some dy =>
        rw [e2] at q2
        cases dy with
        | list m =>
          dsimp only at q2
          split at q2
          · rename_i hz
            obtain ⟨p, vs, rfl, t1, rr1⟩ := (view_rep r1' rs2 e1).lst
            obtain ⟨p2, us, rfl, t2, rr2⟩ := (view_rep r2 rs2 e2).lst
            refine ⟨p, p2, vs, us, rfl, rfl, t1, t2, by rw [rr1.length, rr2.length]; exact hz, fun p3 hp3 => ?_⟩
            have ex : Ex H2 (upd H2 p3 (.lst (vs ++ us))) := Ex.new hp3
            obtain ⟨h0, hn⟩ := (fr1.trans fr2).back rs2 hp3
            exact q2 _ _ ad2 ex.fr ⟨p3, _, rfl, h0, hn, upd_same, Reps.stb ex.stb _ (Reps.append rr1 rr2)⟩ (rs2.ex ex)
          · exact q2.elim
        | _ => exact q2.elim
    | _ => exact q2.elim
/-- a, b = e1, e2 where the names are cells -/
theorem ds_parC {X : Cx} {Wx : WX} {i j : Nat} {x y : Str} {a b : Expr} {f g : EF} {px py pt pos : Pos} {kt k2 pt2} (hc : X.calm = true) (hN : X.N.Nodup) (hi : X.N[i]? = some x) (hj : X.N[j]? = some y)
    (hx : Loc X.env.scope x) (hy : Loc X.env.scope y) (ha : DE X Wx a f) (hb : DE X Wx b g) (hs0 : starEach (a :: [b]) X.env = (false, eval a X.env) :: starEach [b] X.env := by rfl) (hs1 : starEach (b :: []) X.env = (false, eval b X.env) :: starEach [] X.env := by rfl)
    (hs : swapsWithSole [.Tuple [.Name x px, .Name y py] kt pt] (.Tuple [a, b] k2 pt2) pos.line X.env = pure false := by rfl) (hw : swappedStores [.Tuple [.Name x px, .Name y py] kt pt] (.Tuple [a, b] k2 pt2) X.env = pure none := by rfl)
    (h1 : (assignEach [.Tuple [.Name x px, .Name y py] kt pt] X.env).map (·.2) = [assign (.Tuple [.Name x px, .Name y py] kt pt) X.env] := by rfl)
    (h2 : (assignEach (.Name x px :: [.Name y py]) X.env).map (·.2) = assign (.Name x px) X.env :: (assignEach [.Name y py] X.env).map (·.2) := by rfl) (h3 : (assignEach (.Name y py :: []) X.env).map (·.2) = assign (.Name y py) X.env :: (assignEach [] X.env).map (·.2) := by rfl)
    (hn : (assignEach [.Name x px, .Name y py] X.env).length = 2 := by rfl) (hst : (assignEach [.Name x px, .Name y py] X.env).findIdx? (·.1) = none := by rfl) (fx : X.fn x = true ∨ X.env.scope.names.lookup x = some .local := by first | exact .inl rfl | exact .inr rfl) (fy : X.fn y = true ∨ X.env.scope.names.lookup y = some .local := by first | exact .inl rfl | exact .inr rfl) :
    DS X Wx (.Assign [.Tuple [.Name x px, .Name y py] kt pt] (.Tuple [a, b] k2 pt2) pos) (sPar i j f g) :=
  PS.conv (ps_asg (pe_tup (pa_cons ha (pa_cons hb pa_nil hs1) hs0)) (pg_tup hc (pgs_cons (pg_name hN hi hx fx) (pgs_cons (pg_name hN hj hy fy) pgs_nil h3) h2) hn hst) hs hw h1) fun D σ H ⟨ad, ρ, S, sg, rs, q⟩ => by
    refine ⟨ad, ρ, S, sg, rs, post_mono (bindS_post (Rel := RepW X.K) sg q) ?_⟩
    rintro v H1 ⟨ad1, w, S1, fr, rel, rs1, q1⟩
    refine ⟨ad1, ρ, S1, sg.fr fr, rs1, post_mono (bindS_post (Rel := RepW X.K) (sg.fr fr) q1) ?_⟩
    rintro v2 H2 ⟨ad2, w2, S2, fr2, rel2, rs2, q2⟩
    refine ⟨by show 2 ≤ sizeLine; decide, fun p hp => ?_⟩
    have ex : Ex H2 (upd H2 p (.tup [v, v2])) := Ex.new hp
    refine ⟨p, [v, v2], rfl, SqT.of upd_same, rfl, v, [v2], rfl, v2, [], rfl, rfl, ?_⟩
    exact q2 _ _ ad2 ex.fr (((((sg.fr fr).fr fr2).fr ex.fr).set i ((rel.fr fr2).fr ex.fr)).set j (rel2.fr ex.fr)) (rs2.ex ex)
section
variable {l : PySem.W.OpenLaw} {q : Program} {loose : List Str} {XP : (Str → Option Value) → Heap → Prop} {YP : World → Heap → Prop} {d : DefRec} {K : Params → PySem.W.Frag} {c P : Addr} (hn : l.most = some 63) (hdf : d.params.defaults = []) (hY : ∀ (w : World) (h : Heap), YP w h → (K w.params).In h)
include hn hdf hY
theorem walkG0 (F : ∀ (w : World) (mg : Str → Option Value) (fa : Addr) (h : Heap), (K w.params).In h → h.Ns mainGlobals mg → mg d.name = some (.ref fa) →
      ∃ fd : FuncData, (∀ (s : Shared) (u : Value), BindsTo s fd ⟨[u], []⟩ [("script", u)]) ∧ ∀ base : Heap, (K w.params).In base → base.Ns mainGlobals mg → (∀ p ∈ ([] : List (Addr × Addr)), LamX.TabB base mg p.1 p.2) → RunTop l.prog w (K w.params) mg base (L2.CX l.prog w) fa fd ["script"] (spTop (K w.params) [])) :
    PySem.W.WalkO q loose XP YP l.row.toRowW d [] (fun f vs => PySem.call f vs) := walkG (cs := []) hn hdf hY (fun z => absurd rfl z) (fun w p hp => by cases hp) (fun w p hp => by cases hp) F
theorem walkG1 (hrec : (PyProof.Rows.recsOf q).find? (fun e => e.name == d.name) = some d) (htab : ∀ w : World, PySem.W.tabIn (K w.params) d.name = some (c, P)) (hno : ∀ w : World, (K w.params).lookup P = none)
    (F : ∀ (w : World) (mg : Str → Option Value) (fa : Addr) (h : Heap), (K w.params).In h → h.Ns mainGlobals mg → mg d.name = some (.ref fa) →
      ∃ fd : FuncData, (∀ (s : Shared) (u : Value), BindsTo s fd ⟨[u], []⟩ [("script", u)]) ∧ ∀ base : Heap, (K w.params).In base → base.Ns mainGlobals mg → (∀ p ∈ ([(c, P)] : List (Addr × Addr)), LamX.TabB base mg p.1 p.2) → RunTop l.prog w (K w.params) mg base (L2.CX l.prog w) fa fd ["script"] (spTop (K w.params) [(c, P)])) :
    PySem.W.WalkO q loose XP YP l.row.toRowW d [] (fun f vs => PySem.call f vs) := walkG (cs := [(c, P)]) hn hdf hY (fun _ => hrec) (fun w p hp => by rw [List.mem_singleton.mp hp]; exact htab w) (fun w p hp => by rw [List.mem_singleton.mp hp]; exact hno w) F
end
end DL

set_option Elab.async false
set_option linter.all false
set_option maxRecDepth 100000
set_option maxHeartbeats 4000000
/-! D23: the keys and values of dicts, walked; tuple(d.values()). -/
namespace DL
open PySem PySem.Spec PyProof.Rows L2

/-! ### the values, keys that are tuples -/
def ItdT (d : Addr) (o : Obj) (kvs : List (List Key × V)) : It :=
  ⟨fun i H => H d = some (.frz o (.dT kvs)) ∧ i < kvs.length, fun i H x H' => H' = H ∧ ∃ k, kvs[i]? = some (k, x), fun i H => H d = some (.frz o (.dT kvs)) ∧ kvs.length ≤ i⟩
theorem frzTV {X : Cx} {pins : List (Addr × Obj)} {σ : L2.St} {H : Hp} {s : Shared} {d : Addr} {o : Obj} {kvs : List (List Key × V)} (I : Inv X pins σ H s) (h : H d = some (.frz o (.dT kvs))) :
    (d == sysModules) = false ∧ s.heap.get? d = some o ∧ o.ExactDict ∧ kvs.length ≤ sizeLine ∧ ∃ (es : Array DictEntry) (ep : Nat), o.data = .dict es ep ∧ es.size = kvs.length ∧
      ∀ (i : Nat) (k : List Key) (v : V), kvs[i]? = some (k, v) → ∃ en : DictEntry, es[i]? = some en ∧ RelV v en.val := by
  obtain ⟨hd, z, hs, xs, pr, o', es, ep, ho, hx, hdt, he, _⟩ := I.hok d _ h
  rw [hd] at ho
  cases ho
  refine ⟨hs, hd, hx, z, es, ep, hdt, ?_, fun i k v e => ?_⟩
  · have l1 : es.size = xs.length := size_of_entries he
    have l2 : kvs.length = xs.length := Paired.length pr
    omega
  · obtain ⟨b, hb, e1, e2, e3⟩ := paired_get pr e
    have q := entry_at he i
    rw [hb] at q
    exact ⟨_, q, e3⟩
section
variable {P : Program} {w : World} {K : PySem.W.Frag} {tg : Expr} {d : Addr} {o : Obj} {es : Array DictEntry} {ep : Nat}
theorem turn_valsT {kvs : List (List Key × V)} (it : Addr) (hod : o.data = .dict es ep) : Turn P w K tg (ItdT d o kvs) [it] it (fun i h => h.IsValIter it d i kvs.length ep) where
  mem := by simp
  obj := fun i h st b hb => by
    have e : b = it := by simpa using hb
    subst e
    obtain ⟨oi, e, c, dd⟩ := st
    exact ⟨oi, e, fun v z => by rw [dd] at z; cases z⟩
  keep := fun i h h' st k => st.at fun oi e => k it (by simp) oi e
  item := by
    intro X hP hw hK hc i pins s σ H E I hf st hg
    subst hP hw hK
    obtain ⟨hd, hi⟩ := hg
    obtain ⟨f0, f1, f2, f3, f4, f5⟩ := hf it (by simp)
    obtain ⟨hs, hgd, hx, hz, es', ep', hdt, hsz, ent⟩ := frzTV I hd
    obtain ⟨rfl, rfl⟩ := dict_ep hod hdt
    obtain ⟨⟨k, v⟩, hkv⟩ : ∃ p, kvs[i]? = some p := ⟨kvs[i], List.getElem?_eq_getElem hi⟩
    obtain ⟨en, hen, ru⟩ := ent i k v hkv
    have hi' : i < es'.size := by omega
    have he : en = es'[i] := by
      rw [Array.getElem?_eq_getElem hi'] at hen
      exact (Option.some.inj hen).symm
    rw [← hsz] at st
    refine wpAny_pyNext_values_item_raw st ⟨o, hgd, hx, hdt⟩ hi' fun h' st' sb => ?_
    have I1 : Inv X pins σ H { s with heap := h' } := I.turned (t' := s.toks) (fun b ob hb e => (sb.2 b hb).trans e) f0 f1 f3 f4 f5
    obtain ⟨oi, e, c, dd⟩ := id st'
    refine ⟨_, rfl, go_of (s := { s with heap := h' }) e c dd (by decide) ⟨v, H, I1, by rw [← he]; exact ru, ⟨rfl, k, hkv⟩, ?_, fun b hb => (hf b hb).1⟩⟩
    show h'.IsValIter it d (i + 1) kvs.length _
    rw [← hsz]
    exact st'
  done := by
    intro X hP hw hK hc i pins s σ H E I hf st hg
    subst hP hw hK
    obtain ⟨hd, hi⟩ := hg
    obtain ⟨f0, f1, f2, f3, f4, f5⟩ := hf it (by simp)
    obtain ⟨hs, hgd, hx, hz, es', ep', hdt, hsz, ent⟩ := frzTV I hd
    obtain ⟨rfl, rfl⟩ := dict_ep hod hdt
    rw [← hsz] at st
    exact wpAny_pyNext_values_end_raw (I.ok.hd hc) st ⟨o, hgd, hx, hdt⟩ (by omega) fun h' eb => ⟨rfl, I.turned (t' := s.toks) (fun b ob hb e => eb b ob hb e) f0 f1 f3 f4 f5⟩
  self := fun A i s Q E st h => wpAny_pyIter_valiter st h
end
/-- the dict is locked -/
def iVals2 (td : TE) : TI := fun σ H R => td σ H fun x H1 => ∃ d o, x = .ref d ∧ ((∃ kvs, H1 d = some (.frz o (.dK kvs)) ∧ R (Itd d o kvs) H1) ∨ ∃ kvs, H1 d = some (.frz o (.dT kvs)) ∧ R (ItdT d o kvs) H1)
theorem pi_values2 {X : Cx} {tg e : Expr} {td : TE} {apos cpos : Pos} (he : PE X e td) (hbase : attributeBase e "values" X.env (eval e X.env) = eval e X.env := by rfl) (hline : (apos.endLine == cpos.line) = true := by rfl) : PI X tg (.Call (.Attribute e "values" apos) [] [] cpos) (iVals2 td) := by
  refine ⟨fun pins s σ H R I h => ?_⟩
  refine wpAny_Call_method (T := "dict") (id := "dict.values") hbase rfl hline F.plainAttrs_dict F.slot_dict_values F.type_dict_values (thn (he.run pins s σ H _ I h) fun u s1 ⟨x, H1, I1, rx, d, o, ex, q⟩ => ?_)
  subst ex
  obtain rfl : u = Value.ref d := rx
  rcases q with ⟨kvs, hd, q⟩ | ⟨kvs, hd, q⟩
  · obtain ⟨hs, hgd, hx, es, ep, vs, hdt, hsz, kv, hm⟩ := I1.frzK hd
    have hl : kvs.length = vs.length := Paired.length kv
    refine ⟨hm.dictOf.typeIs, hm.dictOf.mapOf.noDict, ?_⟩
    have I2 : Inv X pins σ H1 { s1 with heap := s1.heap.push { cls := .type "dict_values", data := .fields #[.ref d] } } := I1.kept (t' := s1.toks) fun b ob q => Heap.get?_push_of_some _ q
    have fin : wpAny (model X.prog X.w) X.A (pyIter (.ref s1.heap.objs.size)) (PIE X pins σ tg R) X.xe { s1 with heap := s1.heap.push { cls := .type "dict_values", data := .fields #[.ref d] } } := by
      refine wpAny_pyIter_values (d := d) (knd := mixKind X.prog X.w) ⟨_, Heap.get?_push_size _ rfl, rfl, rfl⟩ (hm.push _) (pi_one (tk := s1.toks) I2 _ (turn_vals _ hdt) ⟨_, Heap.get?_push_size _ rfl, rfl, ?_⟩ q)
      rw [hl] <;> rfl
    show wpAny _ _ (callWith cpos (.builtin "dict.values") [.ref d] [] []) _ X.xe s1
    exact method_meetsIn F.slot_dict_values F.entry_dict_values rfl (PySem.evalArgs_none ⟨rfl, hm.dictOf.typeIs, F.args_dict_values_1 _, _, meets_dict_values (mixKind X.prog X.w) d hs, ⟨vs, hm.dictOf⟩, fin⟩)
  · obtain ⟨hs, hgd, hx, hz, es, ep, hdt, hsz, ent⟩ := frzTV I1 hd
    have hm : s1.heap.DictRaw d es ep := ⟨o, hgd, hx, hdt⟩
    refine ⟨hm.typeIs, fun a e => ⟨o, by cases e; exact hgd, hx.2.1⟩, ?_⟩
    have I2 : Inv X pins σ H1 { s1 with heap := s1.heap.push { cls := .type "dict_values", data := .fields #[.ref d] } } := I1.kept (t' := s1.toks) fun b ob q => Heap.get?_push_of_some _ q
    have fin : wpAny (model X.prog X.w) X.A (pyIter (.ref s1.heap.objs.size)) (PIE X pins σ tg R) X.xe { s1 with heap := s1.heap.push { cls := .type "dict_values", data := .fields #[.ref d] } } := by
      refine wpAny_pyIter_values_raw (d := d) ⟨_, Heap.get?_push_size _ rfl, rfl, rfl⟩ (hm.at fun o e => Heap.get?_push_of_some _ e) (pi_one (tk := s1.toks) I2 _ (turn_valsT _ hdt) ⟨_, Heap.get?_push_size _ rfl, rfl, ?_⟩ q)
      rw [hsz] <;> rfl
    show wpAny _ _ (callWith cpos (.builtin "dict.values") [.ref d] [] []) _ X.xe s1
    exact method_meetsIn F.slot_dict_values F.entry_dict_values rfl (PySem.evalArgs_none ⟨rfl, hm.typeIs, F.args_dict_values_1 _, _, meets_dict_values_raw d hs, ⟨⟨es, ep, hm⟩, fin⟩⟩)
theorem repKV_get {K : PySem.W.Frag} {H : Hp} : ∀ {kvs : List (Key × V)} {l : List (PyData × PyData)}, RepKV K H kvs l → ∀ (i : Nat) (d : PyData), (l.map (·.2))[i]? = some d → ∃ k v, kvs[i]? = some (k, v) ∧ Rep K H v d
  | _, _, .nil, i, d, e => by simp at e
  | _, _, .cons (k := k) (v := v) h t, 0, d, e => by
    cases e
    exact ⟨k, v, rfl, h⟩
  | _, _, .cons h t, i + 1, d, e => repKV_get t i d (by simpa using e)
theorem repTV_get {K : PySem.W.Frag} {H : Hp} : ∀ {kvs : List (List Key × V)} {l : List (PyData × PyData)}, RepTV K H kvs l → ∀ (i : Nat) (d : PyData), (l.map (·.2))[i]? = some d → ∃ k v, kvs[i]? = some (k, v) ∧ Rep K H v d
  | _, _, .nil, i, d, e => by simp at e
  | _, _, .cons (b := b) (v := v) h t, 0, d, e => by
    cases e
    exact ⟨_, v, rfl, h⟩
  | _, _, .cons h t, i + 1, d, e => repTV_get t i d (by simpa using e)
theorem walk_vals {K : PySem.W.Frag} {H : Hp} {a : Addr} {o : Obj} {kvs : List (Key × V)} {l : List (PyData × PyData)} (h : H a = some (.frz o (.dK kvs))) (r : RepKV K H kvs l) (hz : kvs.length ≤ sizeLine) : Walk K (Itd a o kvs) H (l.map (·.2)) := by
  have hl := RepKV.length r
  refine ⟨by rw [List.length_map, ← hl]; exact hz, fun H' st => ⟨⟨st _ _ trivial h, by rw [List.length_map, hl]; exact Nat.le_refl _⟩, fun i d e => ?_⟩⟩
  obtain ⟨k, v, hkv, rv⟩ := repKV_get (RepKV.stb st _ r) i d e
  refine ⟨⟨st _ _ trivial h, (List.getElem?_eq_some_iff.mp hkv).1⟩, ?_⟩
  rintro x H'' ⟨rfl, k', e2⟩
  rw [hkv] at e2
  cases e2
  exact ⟨Ex.refl _, rv⟩
theorem walk_valsT {K : PySem.W.Frag} {H : Hp} {a : Addr} {o : Obj} {kvs : List (List Key × V)} {l : List (PyData × PyData)} (h : H a = some (.frz o (.dT kvs))) (r : RepTV K H kvs l) (hz : kvs.length ≤ sizeLine) : Walk K (ItdT a o kvs) H (l.map (·.2)) := by
  have hl := RepTV.length r
  refine ⟨by rw [List.length_map, ← hl]; exact hz, fun H' st => ⟨⟨st _ _ trivial h, by rw [List.length_map, hl]; exact Nat.le_refl _⟩, fun i d e => ?_⟩⟩
  obtain ⟨k, v, hkv, rv⟩ := repTV_get (RepTV.stb st _ r) i d e
  refine ⟨⟨st _ _ trivial h, (List.getElem?_eq_some_iff.mp hkv).1⟩, ?_⟩
  rintro x H'' ⟨rfl, k', e2⟩
  rw [hkv] at e2
  cases e2
  exact ⟨Ex.refl _, rv⟩
/-- what d.values() gives, walked -/
def iDVals (f : EF) : IF := fun ρ S => ((f ρ S).bind frzW).bind fun w S1 => match w with
  | .d (.dict l) => if l.length ≤ sizeLine then .ok (l.map (·.2)) S1 else .bad
  | _ => .bad
theorem di_dvals {X : Cx} {Wx : WX} {tg e : Expr} {f : EF} {apos cpos : Pos} (he : DE X Wx e f) (hbase : attributeBase e "values" X.env (eval e X.env) = eval e X.env := by rfl) (hline : (apos.endLine == cpos.line) = true := by rfl) : DI X Wx tg (.Call (.Attribute e "values" apos) [] [] cpos) (iDVals f) :=
  PI.conv (pi_values2 (de_frz he) hbase hline) fun σ H R ⟨ad, ρ, S, sg, rs, q⟩ => by
    refine ⟨ad, ρ, S, sg, rs, post_mono (post_bind q) ?_⟩
    rintro v H1 ⟨ad1, w, S1, fr1, r1, rs1, q1⟩
    cases w with
    | fn _ _ _ => exact q1.elim
    | own k => exact q1.elim
    | d x =>
      cases x with
      | dict l =>
        dsimp only at q1
        split at q1
        · rename_i hz
          cases r1 with
          | dic t r => exact ⟨_, _, rfl, .inl ⟨_, t, q1 _ H1 ad1 (Fr.refl _ _) (walk_vals t r (by rw [RepKV.length r]; exact hz)) rs1⟩⟩
          | dicT t r z => exact ⟨_, _, rfl, .inr ⟨_, t, q1 _ H1 ad1 (Fr.refl _ _) (walk_valsT t r (by rw [RepTV.length r]; exact hz)) rs1⟩⟩
        · exact q1.elim
      | _ => exact q1.elim

/-! ### tuple(d.values()) -/
section
variable {prog : Program} {w : World} {A : Around} {E : Value → Shared → Prop} {s : Shared} {r d : Addr}
open PySem.W (KdlSrc kdl_hint_values kdu_collect)
theorem kdl_valuesR {es : Array DictEntry} {ep : Nat} : KdlSrc prog w "dict_values" r d es.size (fun i v => ∃ hi : i < es.size, v = es[i].val) (fun h => h.IsValuesView r d ∧ h.DictRaw d es ep) where
  type := fun _ hm => hm.1.typeIs
  there := fun _ hm => ⟨let ⟨_, ho, _⟩ := hm.1; Heap.lt_size ho, let ⟨_, ho, _⟩ := hm.2; Heap.lt_size ho⟩
  keep := fun _ _ hm hk => ⟨let ⟨o, ho, x⟩ := hm.1; ⟨o, hk r (.inl rfl) o ho, x⟩, hm.2.at fun o e => hk d (.inr rfl) o e⟩
  notList := by decide
  notTuple := by decide
  hint := fun _ _ _ _ hm hq => kdl_hint_values hm.1.typeIs hq
  iter := fun _ s hh hm => by
    have hlt : d < s.heap.objs.size := let ⟨_, ho, _⟩ := hm.2; Heap.lt_size ho
    exact ⟨_, _, (fun _ _ hq => wpAny_pyIter_values_raw hm.1 hm.2 hq), Walks.rawValues hh _ d (Nat.ne_of_lt hlt) es ep, ⟨⟨_, Heap.get?_push_size _ rfl, rfl, rfl⟩, hm.2.at fun o e => Heap.get?_push_of_some _ e⟩⟩
theorem code_tuple_src {T : String} {n : Nat} {P : Nat → Value → Prop} {OK : Heap → Prop} {Q₁ : Value → Shared → Prop} (K : KdlSrc prog w T r d n P OK) (hh : A.handled = none) (hok : OK s.heap) (hsz : n ≤ sizeLine)
    (h : ∀ (h' : Heap) (tk : Nat) (acc : Array Value), (∀ b o, s.heap.get? b = some o → h'.get? b = some o) → ItemsOf P acc n → Q₁ (.ref h'.objs.size) { s with heap := h'.push { cls := .type "tuple", data := .seq acc }, toks := tk }) :
    codeAny (model prog w) A (.call (.builtin "tuple.__new__") ⟨[.type "tuple", .ref r], []⟩) (wants Q₁ E) s := by
  refine codeAny_of_tree ?_
  show wpAny _ A.in1 (do checkBuiltinCall "tuple.__new__" ⟨[.type "tuple", .ref r], []⟩; again (.builtin "tuple.__new__" ⟨[.type "tuple", .ref r], []⟩)) _ _ s
  refine wpAny_bind (wpAny_of_eq (F.newCall_tuple_1 _) (wpAny_pure ⟨plainId_quiet F.plain_tuple_new _, codeAny_builtin F.entry_tuple_new ?_⟩))
  rw [Around.under_plainId F.plain_tuple_new _]
  have hsub := sub_tuple_self
  have hinit := init_tuple_lookup
  have hmh := madeHere_tuple
  have hTI := K.type s hok
  have hnt := K.notTuple
  have hnl := K.notList
  have hh1 : A.in1.handled = none := hh
  wp_walk using wpAny_typeOf hTI, kdu_collect K hh1 hok hsz
  intro h' tk acc hm hacc
  show wpAny _ _ (Builtin.Tuple.tupleExact acc.toList.toArray >>= fun v => ret v) _ _ _
  unfold Builtin.Tuple.tupleExact
  refine wpAny_bind (wpAny_newObj_type ?_ (by show acc.toList.toArray.size ≤ sizeLine; simp only [Array.toArray_toList]; rw [hacc.1]; exact hsz))
  refine wpAny_pure ?_
  have e : acc.toList.toArray = acc := by simp
  rw [e]
  exact h h' tk acc hm hacc
theorem call_tuple_src {T : String} {n : Nat} {P : Nat → Value → Prop} {OK : Heap → Prop} {Q : Value → Shared → Prop} (K : KdlSrc prog w T r d n P OK) (hh : A.handled = none) (hok : OK s.heap) (hsz : n ≤ sizeLine)
    (hQ : ∀ (h' : Heap) (tk : Nat) (acc : Array Value), (∀ b o, s.heap.get? b = some o → h'.get? b = some o) → ItemsOf P acc n → Q (.ref h'.objs.size) { s with heap := h'.push { cls := .type "tuple", data := .seq acc }, toks := tk }) :
    wpAny (model prog w) A (call (.type "tuple") [.ref r]) Q E s := by
  have hh1 : A.in1.handled = none := hh
  refine callType_codes (Q₁ := fun obj s₁ => s₁.TypeIs obj "tuple" ∧ Q obj s₁) F.called_tuple (F.typeCall_tuple_1 _) F.entry_object_init
    (code_tuple_src K hh1 hok hsz fun h' tk acc hm hacc => ⟨⟨_, Heap.get?_push_size _ rfl, rfl⟩, hQ h' tk acc hm hacc⟩) fun obj s₁ h₁ => ?_
  exact ⟨h₁.1, F.args_object_init_2 obj _, object_init_meets F.called_tuple.init.lookup F.called_tuple.made (by decide) prog w A.in1 _ s₁ ⟨h₁.1, rfl, h₁.2⟩⟩
end
theorem reps_of {K : PySem.W.Frag} {H : Hp} : ∀ (us : List Value) (ds : List PyData), us.length = ds.length → (∀ (i : Nat) (u : Value) (d : PyData), us[i]? = some u → ds[i]? = some d → ∃ v, Rep K H v d ∧ RelV v u) → ∃ vs : List V, Vals vs us ∧ Reps K H vs ds
  | [], [], _, _ => ⟨[], .nil, .nil⟩
  | [], _ :: _, h, _ => by simp at h
  | _ :: _, [], h, _ => by simp at h
  | u :: us, d :: ds, h, f => by
    obtain ⟨v, h1, h2⟩ := f 0 u d rfl rfl
    obtain ⟨vs, h3, h4⟩ := reps_of us ds (by simpa using h) fun i u d e1 e2 => f (i + 1) u d (by simpa using e1) (by simpa using e2)
    exact ⟨v :: vs, .cons h2 h3, .cons h1 h4⟩
/-- a dict that stands still, entry by entry -/
theorem dic_raw {X : Cx} {pins : List (Addr × Obj)} {σ : L2.St} {H : Hp} {s : Shared} {a : Addr} {l : List (PyData × PyData)} (I : Inv X pins σ H s) (h : Rep X.K H (.ref a) (.dict l)) :
    (a == sysModules) = false ∧ l.length ≤ sizeLine ∧ ∃ (es : Array DictEntry) (ep : Nat), s.heap.DictRaw a es ep ∧ es.size = l.length ∧
      ∀ (i : Nat) (hi : i < es.size) (d : PyData), (l.map (·.2))[i]? = some d → ∃ v, Rep X.K H v d ∧ RelV v es[i].val := by
  cases h with
  | dic t r =>
    have hl := RepKV.length r
    have hz : _ := (dk_rd I.hok (.inr ⟨_, t⟩)).1
    obtain ⟨hs, hgd, hx, es0, ep0, vs, hdt, hsz, kv, hm⟩ := I.frzK t
    obtain ⟨es, ep, h1, h2, h3⟩ := hm.dictOf.raw
    have hkv : _ = vs.length := Paired.length kv
    refine ⟨hs, by omega, es, ep, h1, by omega, fun i hi d e => ?_⟩
    obtain ⟨k, v, hkvs, rv⟩ := repKV_get r i d e
    obtain ⟨u, hu, ru⟩ := kv_get kv hkvs
    exact ⟨v, rv, by rw [(h3 i hi _ _ hu).2]; exact ru⟩
  | dicT t r z =>
    have hl := RepTV.length r
    obtain ⟨hs, hgd, hx, hz, es, ep, hdt, hsz, ent⟩ := frzTV I t
    refine ⟨hs, by omega, es, ep, ⟨_, hgd, hx, hdt⟩, by omega, fun i hi d e => ?_⟩
    obtain ⟨k, v, hkvs, rv⟩ := repTV_get r i d e
    obtain ⟨en, hen, ru⟩ := ent i k v hkvs
    rw [Array.getElem?_eq_getElem hi] at hen
    cases hen
    exact ⟨v, rv, ru⟩
def eTVals (f : EF) : EF := fun ρ S => ((f ρ S).bind frzW).bind fun w S1 => match w with
  | .d (.dict l) => .ok (.d (.tuple (l.map (·.2)))) S1
  | _ => .bad
theorem de_tupvals {X : Cx} {Wx : WX} {e : Expr} {f : EF} {apos cpos p2 pos2 : Pos} (hgt : Gl X "tuple") (hmt : X.mg "tuple" = none) (hc : X.calm = true) (he : DE X Wx e f)
    (hbase : attributeBase e "values" X.env (eval e X.env) = eval e X.env := by rfl) (hline : (apos.endLine == cpos.line) = true := by rfl)
    (hE : starEach [.Call (.Attribute e "values" apos) [] [] cpos] X.env = (false, eval (.Call (.Attribute e "values" apos) [] [] cpos) X.env) :: starEach [] X.env := by rfl) :
    DE X Wx (.Call (.Name "tuple" p2) [.Call (.Attribute e "values" apos) [] [] cpos] [] pos2) (eTVals f) := by
  refine ⟨fun pins s σ H Q I ⟨ad, ρ, S, sg, rs, q⟩ => ?_⟩
  have boot_tuple : bootBuiltins "tuple" = some (.type "tuple") := by decide +kernel
  refine wpAny_Call_Name_kw (ld_blt I hgt hmt boot_tuple ?_)
  refine PyProof.Rows.callWith_type1 ?_ hE rfl
  rw [hE]
  show wpAny _ _ (spliced ((false, eval (.Call (.Attribute e "values" apos) [] [] cpos) X.env) :: backTo pos2 (starEach [] X.env))) _ _ s
  refine Calls.spliced_cons ?_
  refine wpAny_Call_method (T := "dict") (id := "dict.values") hbase rfl hline F.plainAttrs_dict F.slot_dict_values F.type_dict_values (thn ((de_frz he).run pins s σ H (fun x H1 => ∃ a l, x = .ref a ∧ Rep X.K H1 (.ref a) (.dict l) ∧ ∀ v H', Ex H1 H' → Rep X.K H' v (.tuple (l.map (·.2))) → Q v H') I ⟨ad, ρ, S, sg, rs, ?_⟩) fun u s1 ⟨x, H1, I1, rx, a, l, ex, rp, q⟩ => ?_)
  · refine post_mono (post_bind q) ?_
    rintro v H1 ⟨ad1, w, S1, fr1, r1, rs1, q1⟩
    cases w with
    | fn _ _ _ => exact q1.elim
    | own k => exact q1.elim
    | d x =>
      cases x with
      | dict l =>
        have r1' : Rep X.K H1 v (.dict l) := r1
        have hv : ∃ a, v = .ref a := by cases r1' <;> exact ⟨_, rfl⟩
        obtain ⟨a, rfl⟩ := hv
        exact ⟨a, l, rfl, r1', fun v H' ex rv => q1 v H' ad1 ex.fr rv (rs1.ex ex)⟩
      | _ => exact q1.elim
  · subst ex
    obtain rfl : u = Value.ref a := rx
    obtain ⟨hs, hz, es, ep, hm, hsz, hat⟩ := dic_raw I1 rp
    refine ⟨hm.typeIs, fun b eb => by cases eb; obtain ⟨o, ho, hx, _⟩ := id hm; exact ⟨o, ho, hx.2.1⟩, ?_⟩
    have I2 : Inv X pins σ H1 { s1 with heap := s1.heap.push { cls := .type "dict_values", data := .fields #[.ref a] } } := I1.kept (t' := s1.toks) fun b ob q => Heap.get?_push_of_some _ q
    show wpAny _ _ (callWith cpos (.builtin "dict.values") [.ref a] [] []) _ X.xe s1
    refine method_meetsIn F.slot_dict_values F.entry_dict_values rfl (PySem.evalArgs_none ⟨rfl, hm.typeIs, F.args_dict_values_1 _, _, meets_dict_values_raw a hs, ⟨⟨es, ep, hm⟩, ?_⟩⟩)
    refine Calls.spliced_nil ?_
    refine call_tuple_src (kdl_valuesR (es := es) (ep := ep)) (show X.A.handled = none from I1.ok.hd hc) ⟨⟨_, Heap.get?_push_size _ rfl, rfl, rfl⟩, hm.at fun o e => Heap.get?_push_of_some _ e⟩ (by omega) fun h' tk acc hk hacc => ?_
    obtain ⟨vs, hv, hr⟩ := reps_of (K := X.K) (H := H1) acc.toList (l.map (·.2)) (by rw [List.length_map, Array.length_toList, hacc.1, hsz]) fun i u d e1 e2 => by
      rw [Array.getElem?_toList] at e1
      obtain ⟨hi, rfl⟩ := hacc.2 i u e1
      exact hat i hi d e2
    have I3 : Inv X pins σ H1 { s1 with heap := h', toks := tk } := I1.kept (t' := tk) fun b o e => hk b o (Heap.get?_push_of_some _ e)
    have hfresh : H1 h'.objs.size = none := I3.hok.fresh (Nat.le_refl _)
    have hlen : vs.length = l.length := by rw [hr.length, List.length_map]
    have hacc' : acc.toList.toArray = acc := by simp
    have I4 : Inv X pins σ (upd H1 h'.objs.size (.tup vs)) { s1 with heap := h'.push { cls := .type "tuple", data := .seq acc }, toks := tk } :=
      I3.laid (t' := tk) (fun b o e => Heap.get?_push_of_some _ e) (Nat.le_refl _) (show ObjOk X.prog X.w _ _ _ (.tup vs) from ⟨by omega, acc.toList, hv, by rw [hacc']; exact IsTup.new _ _⟩)
    have ex : Ex H1 (upd H1 h'.objs.size (.tup vs)) := Ex.new hfresh
    exact ⟨.ref h'.objs.size, _, I4, rfl, q _ _ ex (.tup (.inl upd_same) (Reps.stb ex.stb _ hr))⟩
end DL

set_option Elab.async false
set_option linter.all false
set_option maxRecDepth 100000
set_option maxHeartbeats 4000000
/-! D24: dict(list of pairs). -/
namespace DL
open PySem PySem.Spec PyProof.Rows L2
def pairsD : List PyData → Option (List (PyData × PyData))
  | [] => some []
  | .tuple [k, v] :: r => (pairsD r).map ((k, v) :: ·)
  | _ :: _ => none
theorem vals_two {a b : V} {us : List Value} (h : Vals [a, b] us) : ∃ u w, us = [u, w] ∧ RelV a u ∧ RelV b w := by
  cases h with
  | cons h1 t =>
    cases t with
    | cons h2 t2 =>
      cases t2
      exact ⟨_, _, rfl, h1, h2⟩
theorem reps_two {K : PySem.W.Frag} {H : Hp} {vs : List V} {x y : PyData} (h : Reps K H vs [x, y]) : ∃ a b, vs = [a, b] ∧ Rep K H a x ∧ Rep K H b y := by
  cases h with
  | cons h1 t =>
    cases t with
    | cons h2 t2 =>
      cases t2
      exact ⟨_, _, rfl, h1, h2⟩
theorem rows_of {X : Cx} {pins : List (Addr × Obj)} {σ : L2.St} {H : Hp} {s : Shared} (I : Inv X pins σ H s) : ∀ {vs : List V} {ds : List PyData} {its : List Value} {l : List (PyData × PyData)}, Reps X.K H vs ds → Vals vs its → pairsD ds = some l → (l.all fun p => tkey p.1) = true →
    ∃ (rows : List (Addr × List Key × Addr × Value)) (kvs : List (List Key × V)), its = rows.map (fun r => Value.ref r.1) ∧ KT H kvs (rows.map (·.2)) ∧ RepTV X.K H kvs l ∧ ∀ r ∈ rows, PairAt s.heap r.1 (.ref r.2.2.1) r.2.2.2
  | [], _, its, l, r, v, e, k => by
    cases r
    cases v
    cases e
    exact ⟨[], [], rfl, .nil, .nil, fun r h => by cases h⟩
  | x :: vs, ds, its, l, r, v, e, k => by
    cases r with
    | @cons _ _ d ds r1 r2 =>
      cases v with
      | @cons _ u _ us v1 v2 =>
        cases d with
        | tuple m =>
          match m, r1, e with
          | [a, b], r1, e =>
            rw [pairsD] at e
            cases e2 : pairsD ds with
            | none => rw [e2] at e; cases e
            | some l2 =>
              rw [e2] at e
              cases e
              rw [List.all_cons, Bool.and_eq_true] at k
              obtain ⟨rows, kvs, h1, h2, h3, h4⟩ := rows_of I r2 v2 e2 k.2
              cases r1 with
              | @tup t xs _ tq rr =>
                obtain ⟨va, vb, rfl, ra, rb⟩ := reps_two rr
                obtain ⟨its2, rv2, ht, _⟩ := I.tuple tq.sq
                obtain ⟨ua, ub, rfl, ea, eb⟩ := vals_two rv2
                obtain ⟨bb, rfl, hko, ek⟩ := tkey_of k.1
                rcases key_val (.inl ra) ek hko with ⟨c, z, _⟩ | ⟨b', c, e1, e2', rfl, hc⟩
                · cases z
                · cases e1
                  cases ea
                  cases v1
                  refine ⟨(t, bb.map Sum.inl, c, ub) :: rows, (bb.map Sum.inl, vb) :: kvs, by rw [h1]; rfl, .cons ⟨rfl, hc, eb⟩ h2, .cons rb h3, fun r hr => ?_⟩
                  rcases List.mem_cons.mp hr with q | q
                  · rw [q]; exact .inl ht
                  · exact h4 r q
          | [], _, e => simp [pairsD] at e
          | [_], _, e => simp [pairsD] at e
          | _ :: _ :: _ :: _, _, e => simp [pairsD] at e
        | _ => simp [pairsD] at e
theorem call_dict_of {X : Cx} (hu : X.A.units + 64 < cLine) (hc : X.calm = true) : CallR X (.type "dict") (fun xs H Q => ∃ (a : Addr) (vs : List V) (ds : List PyData) (l : List (PyData × PyData)), xs = [.ref a] ∧ SqL X.K H a vs ∧ Reps X.K H vs ds ∧ pairsD ds = some l ∧ (l.all fun p => tkey p.1) = true ∧ l ≠ [] ∧ ∀ v H', Ex H H' → Rep X.K H' v (.dict (mrgD [] l)) → Q v H') := by
  intro pins s σ H xs us Q I r h
  obtain ⟨a, vs, ds, l, rfl, hsq, hr, hp, hk, hne, q⟩ := h
  rw [Vals.ref1 r]
  obtain ⟨its, rv, pl, hz⟩ := I.list hsq
  obtain ⟨rows, kvs, h1, h2, h3, h4⟩ := rows_of I hr rv hp hk
  subst h1
  have hlen1 := rv.length
  have hlen2 : kvs.length = (rows.map (·.2)).length := Paired.length h2
  have hlen3 := RepTV.length h3
  rw [List.length_map] at hlen1 hlen2
  have hrl : rows.length ≤ sizeLine := by omega
  have P := PairArg.list (prog := X.prog) (w := X.w) a (rows.map (fun r => Value.ref r.1)).toArray (fun j => ((rows[j]?).map (·.1)).getD 0) (rows.map fun r => (Value.ref r.2.2.1, r.2.2.2))
  have ok : PlainSeq "list" s.heap a (rows.map (fun r => Value.ref r.1)).toArray ∧ PairItems s.heap (rows.map (fun r => Value.ref r.1)).toArray (fun j => ((rows[j]?).map (·.1)).getD 0) (rows.map fun r => (Value.ref r.2.2.1, r.2.2.2)) := by
    refine ⟨pl, by simp, fun j k v e => ?_⟩
    rw [List.getElem?_map] at e
    cases hj : rows[j]? with
    | none => rw [hj] at e; cases e
    | some row =>
      rw [hj] at e
      cases e
      refine ⟨by simp [hj], ?_⟩
      simp only [hj, Option.map_some, Option.getD_some]
      exact h4 row (List.mem_of_getElem? hj)
  refine call_dict_pairsH (knd := tupleKind (mixKind X.prog X.w)) (ps := rows.map (·.2)) P (show X.A.handled = none from I.ok.hd hc) (tupleKind_room_in1 (by show X.A.units + 1 + 1 < cLine; omega)) ok ⟨by simp, fun i key v e => ?_⟩ (fun h2' hk2 x hx => ?_) (by rw [List.length_map]; exact hrl) fun h'' tk hd hkeep => ?_
  · have e : (rows.map fun r => (Value.ref r.2.2.1, r.2.2.2))[i]? = some (key, v) := e
    rw [List.getElem?_map] at e
    cases hj : rows[i]? with
    | none => rw [hj] at e; cases e
    | some row =>
      rw [hj] at e
      cases e
      exact ⟨row.2.1, row.2.2.1, by rw [List.getElem?_map, hj]; rfl, rfl⟩
  · have : ∀ {l : List (List Key × V)} {m : List (List Key × Addr × Value)}, KT H l m → ∀ x ∈ m, H x.2.1 = some (.tup (x.1.map kV)) := by
      intro l m q0
      induction q0 with
      | nil => intro x hx; exact nomatch hx
      | @cons p q ps qs hq t ih =>
        intro x hx
        rcases List.mem_cons.mp hx with e | hx
        · subst e
          rw [← hq.1]
          exact hq.2.1
        · exact ih x hx
    have hH := this h2 x hx
    obtain ⟨o, items, n, ho, hcl, hdt, hi'⟩ := (show IsTupleKey (mixKind X.prog X.w) s.heap x.1 x.2.1 from key_of I.hok hH)
    exact ⟨o, items, n, hk2 _ _ (Nat.ne_of_lt (Heap.lt_size ho)) (fun hm => nomatch hm) ho, hcl, hdt, hi'⟩
  · obtain ⟨t1, t2⟩ := fold_ps (pa := []) (ka := []) (za := []) h2 h3 .nil .nil
    have hfresh : H s.heap.objs.size = none := I.hok.fresh (Nat.le_refl _)
    have exD : Ex H (upd H s.heap.objs.size (.dT (kvs.foldl (fun acc p => putK acc p.1 p.2) []))) := Ex.new hfresh
    have hz' : (kvs.foldl (fun acc p => putK acc p.1 p.2) ([] : List (List Key × V))).length ≤ sizeLine := by
      have h1 := foldK_len (ka := []) kvs []
      rw [List.length_nil] at h1
      omega
    obtain ⟨o, es, ep, e1, e2, e3, e4, _, e5⟩ := hd
    have hm0 : (s.heap.objs.size == sysModules) = false := beq_eq_false_iff_ne.mpr (Nat.ne_of_gt I.big)
    have new : ObjOk X.prog X.w (upd H s.heap.objs.size (.dT (kvs.foldl (fun acc p => putK acc p.1 p.2) []))) h'' s.heap.objs.size (.dT (kvs.foldl (fun acc p => putK acc p.1 p.2) [])) :=
      ⟨hz', hm0, _, t1.keeps fun b ys e => exD _ _ e, o, es, ep, e1, e2, e3, e4, e5⟩
    have I3 : Inv X pins σ (upd H s.heap.objs.size (.dT (kvs.foldl (fun acc p => putK acc p.1 p.2) []))) { s with heap := h'', toks := tk } :=
      I.turnedNew (t' := tk) (ch := []) (fun b o hb q => hkeep b o (fun q' => nomatch q') q) (fun b hb => nomatch hb) (Nat.le_refl _) new
    obtain ⟨of, I4⟩ := freezeU I3 upd_same trivial
    have ex4 : Ex H (upd (upd H s.heap.objs.size (.dT (kvs.foldl (fun acc p => putK acc p.1 p.2) []))) s.heap.objs.size (.frz of (.dT (kvs.foldl (fun acc p => putK acc p.1 p.2) [])))) := exD.upd2 hfresh
    exact ⟨.ref s.heap.objs.size, _, I4, rfl, q _ _ ex4 (.dicT upd_same (RepTV.stb ex4.stb _ t2) (mrgD_ne _ _ (.inl hne)))⟩
theorem call_dict_none {X : Cx} (hc : X.calm = true) : CallR X (.type "dict") (fun xs H Q => ∃ (a : Addr), xs = [.ref a] ∧ SqL X.K H a [] ∧ ∀ v H', Ex H H' → Rep X.K H' v (.dict []) → Q v H') := by
  intro pins s σ H xs us Q I r h
  obtain ⟨a, rfl, hsq, q⟩ := h
  rw [Vals.ref1 r]
  obtain ⟨its, rv, pl, hz⟩ := I.list hsq
  cases rv
  have P := PairArg.list (prog := X.prog) (w := X.w) a ([] : List Value).toArray (fun _ => 0) []
  have ok : PlainSeq "list" s.heap a ([] : List Value).toArray ∧ PairItems s.heap ([] : List Value).toArray (fun _ => 0) [] := ⟨pl, by simp, fun j k v e => by simp at e⟩
  refine call_dict_pairs (knd := mixKind X.prog X.w) (kvs := []) P (show X.A.handled = none from I.ok.hd hc) ok ⟨rfl, fun i key v e => by simp [PairRel] at e⟩ (by simp) fun h'' tk hd hkeep => ?_
  have hfresh : H s.heap.objs.size = none := I.hok.fresh (Nat.le_refl _)
  have exD : Ex H (upd H s.heap.objs.size (.dK [])) := Ex.new hfresh
  have hm0 : (s.heap.objs.size == sysModules) = false := beq_eq_false_iff_ne.mpr (Nat.ne_of_gt I.big)
  have new : ObjOk X.prog X.w (upd H s.heap.objs.size (.dK [])) h'' s.heap.objs.size (.dK []) := ⟨Nat.zero_le _, hm0, [], .nil, hd⟩
  have I3 : Inv X pins σ (upd H s.heap.objs.size (.dK [])) { s with heap := h'', toks := tk } :=
    I.turnedNew (t' := tk) (ch := []) (fun b o hb q => hkeep b o (fun q' => nomatch q') q) (fun b hb => nomatch hb) (Nat.le_refl _) new
  obtain ⟨of, I4⟩ := freezeU I3 upd_same trivial
  have ex4 : Ex H (upd (upd H s.heap.objs.size (.dK [])) s.heap.objs.size (.frz of (.dK []))) := exD.upd2 hfresh
  exact ⟨.ref s.heap.objs.size, _, I4, rfl, q _ _ ex4 (.dic upd_same .nil)⟩
theorem callR_or {X : Cx} {f : Value} {r r' : List V → Hp → VK → Prop} (h : CallR X f r) (h' : CallR X f r') : CallR X f (fun xs H Q => r xs H Q ∨ r' xs H Q) := fun pins s σ H xs us Q I rl q => q.elim (h pins s σ H xs us Q I rl) (h' pins s σ H xs us Q I rl)
/-- dict(a list of pairs) -/
def eDOf (l : LF) : EF := fun ρ S => (l ρ S).bind fun ws S1 => match ws with
  | [w] => match view S1 w with
    | some (.list ds) => match pairsD ds with
      | some ps => if (ps.all fun p => tkey p.1) = true then .ok (.d (.dict (mrgD [] ps))) S1 else .bad
      | none => .bad
    | _ => .bad
  | _ => .bad
theorem de_dictof {X : Cx} {Wx : WX} {e : Expr} {es : List Expr} {l : LF} {p pos : Pos} (hu : X.A.units + 64 < cLine) (hc : X.calm = true) (hg : Gl X "dict") (hm : X.mg "dict" = none) (ha : DA X Wx (e :: es) l)
    (he : starEach (e :: es) X.env = (false, eval e X.env) :: starEach es X.env := by rfl) (hpl : (backTo pos (starEach es X.env)).any (·.1) = false := by rfl) : DE X Wx (.Call (.Name "dict" p) (e :: es) [] pos) (eDOf l) :=
  PE.conv (pe_callTy (callR_or (call_dict_of hu hc) (call_dict_none hc)) hg hm (by decide +kernel) ha (by decide) (by decide) he hpl) fun σ H Q ⟨ad, ρ, S, sg, rs, q⟩ => by
    refine ⟨ad, ρ, S, sg, rs, ?_⟩
    unfold eDOf at q
    revert q
    cases l ρ S with
    | bad => exact fun z => z
    | exc x S2 => exact fun z => z
    | ok ws S1 =>
      rintro q vs H1 ad1 fr1 r1 rs1
      simp only [Rs.bind] at q
      split at q
      · cases r1 with
        | cons r rr =>
          cases rr
          split at q
          · rename_i ds e0
            obtain ⟨a, us, rfl, t, rp⟩ := (view_rep r rs1 e0).lst
            split at q
            · rename_i ps e1
              split at q
              · rename_i hk
                by_cases hne : ps = []
                · subst hne
                  have hds : ds = [] := by
                    cases ds with
                    | nil => rfl
                    | cons d ds =>
                      cases d with
                      | tuple m =>
                        match m, e1 with
                        | [_, _], e1 => rw [pairsD] at e1; cases h : pairsD ds <;> rw [h] at e1 <;> cases e1
                        | [], e1 => simp [pairsD] at e1
                        | [_], e1 => simp [pairsD] at e1
                        | _ :: _ :: _ :: _, e1 => simp [pairsD] at e1
                      | _ => simp [pairsD] at e1
                  subst hds
                  cases rp
                  exact .inr ⟨a, rfl, t, fun v H' ex rv => q v H' ad1 (fr1.trans ex.fr) rv (rs1.ex ex)⟩
                · exact .inl ⟨a, us, ds, ps, rfl, t, rp, e1, hk, hne, fun v H' ex rv => q v H' ad1 (fr1.trans ex.fr) rv (rs1.ex ex)⟩
              · exact q.elim
            · exact q.elim
          · exact q.elim
      · exact q.elim
end DL

set_option Elab.async false
set_option linter.all false
set_option maxRecDepth 100000
set_option maxHeartbeats 4000000
/-! D25: l.index(x), whatever the items. -/
namespace DL
open PySem PySem.Spec PyProof.Rows L2
section
variable {X : Cx} {Wx : WX} {o e : Expr} {f g : EF} {apos cpos : Pos}
/-- the first place of an equal one -/
def idxD (l : List PyData) (d : PyData) : Option Nat := l.findIdx? fun z => PyData.eqv z d
def eIdx (fo fe : EF) : EF := fun ρ S => (fo ρ S).bind fun w S1 => match w with
  | .d (.list l) => (fe ρ S1).bind fun x S2 => match view S2 x with
    | some d => if (cmpOk (.list l) && cmpOk d) = true then match idxD l d with
      | some j => .ok (.d (.int (j : Nat))) S2
      | none => .bad
      else .bad
    | none => .bad
  | _ => .bad
theorem de_index (hu : X.A.units + 65 < cLine) (ho : DE X Wx o f) (he : DE X Wx e g) (hbase : attributeBase o "index" X.env (eval o X.env) = eval o X.env := by rfl)
    (hfew : ((backTo cpos (starEach [e] X.env)).all (fun x => !x.1) && (backToKw cpos (keywordEach [] X.env)).all (fun x => x.1.isSome)
      && decide ([e].length + ([] : List Keyword).length + (if ([] : List Keyword).isEmpty then 0 else 1) < 30)) = true := by rfl)
    (hline : (apos.endLine == cpos.line) = true := by rfl) (hs : starEach [e] X.env = (false, eval e X.env) :: starEach [] X.env := by rfl) : DE X Wx (.Call (.Attribute o "index" apos) [e] [] cpos) (eIdx f g) :=
  PE.conv (pe_bm PySem.F.plainAttrs_list PySem.F.slot_list_index PySem.F.type_list_index (mt_indexD hu) ho (pa_cons he pa_nil hs) hbase hfew hline hs rfl) fun σ H Q ⟨ad, ρ, S, sg, rs, q⟩ => by
    refine ⟨ad, ρ, S, sg, rs, post_mono (post_bind q) ?_⟩
    rintro x H1 ⟨ad1, w, S1, fr1, r1, rs1, q1⟩
    cases w with
    | own _ => exact q1.elim
    | fn _ _ _ => exact q1.elim
    | d dx =>
      cases dx with
      | list l =>
        dsimp only at q1
        have r1' : Rep X.K H1 x (.list l) := r1
        have hx : ∃ a xs, x = .ref a ∧ SqL X.K H1 a xs := by
          cases r1' with
          | lst t r => exact ⟨_, _, rfl, t.sq⟩
        obtain ⟨a, xs, rfl, hsq⟩ := hx
        refine ⟨.inl ⟨rfl, xs, hsq⟩, ad1, ρ, S1, sg.fr fr1, rs1, post_mono (post_bind q1) ?_⟩
        rintro y H2 ⟨ad2, wy, S2, fr2, r2, rs2, q2⟩
        cases e1 : view S2 wy with
        | none => rw [e1] at q2; exact q2.elim
        | some d =>
          rw [e1] at q2
          dsimp only at q2
          split at q2
          · rename_i hc
            rw [Bool.and_eq_true] at hc
            cases e2 : idxD l d with
            | none => rw [e2] at q2; exact q2.elim
            | some j =>
              rw [e2] at q2
              have hl2 : RepV X.K H2 (.ref a) (.list l) := .inl (Rep.stb fr2.stb _ r1')
              obtain ⟨d1, s1⟩ := hl2.dp hc.1
              obtain ⟨d2, s2⟩ := (view_rep r2 rs2 e1).dp hc.2
              have hj := List.findIdx?_eq_some_iff_getElem.mp e2
              obtain ⟨hlt, h1, h2⟩ := hj
              exact ⟨a, y, d, l, j, l[j], rfl, rfl, d1, d2, s1, s2, List.getElem?_eq_getElem hlt, h1, fun m z' hm hz => by
                have hml : m < l.length := by omega
                rw [List.getElem?_eq_getElem hml] at hz
                cases hz
                simpa using h2 m hm, q2 _ _ ad2 (Fr.refl _ _) (.int _) rs2⟩
          · exact q2.elim
      | _ => exact q1.elim
end
end DL

set_option Elab.async false
set_option linter.all false
set_option maxRecDepth 100000
set_option maxHeartbeats 4000000
/-! D26: try: .. except C as e: .. (one clause, with a name); e.f in it. -/
namespace DL
open PySem PySem.Spec PyProof.Rows L2
/-- an own error that a clause names: its fields may be read -/
def Hd (K : PySem.W.Frag) (mg : Str → Option Value) (x : Str) (fs : List Str) : Prop := ∃ C, mg x = some (.ref C) ∧ XfC K C ∧ (∀ f ∈ fs, PySem.W.findIn K (.ref C) f = some none) ∧ PySem.W.exmOne K (.ref C) (.ref C) = some true
theorem Sig.unset {K : PySem.W.Frag} {ad : List Addr} {H : Hp} {σ : L2.St} {ρ : Rho} (sg : Sig K ad H σ ρ) (i : Nat) : Sig K ad H (σ.set i none) (ρ.set i none) := by
  refine ⟨by rw [List.length_set, List.length_set]; exact sg.len, fun j u e => ?_⟩
  by_cases hj : i = j
  · subst hj
    by_cases hi : i < ρ.length
    · rw [List.getElem?_set_self hi] at e
      cases e
    · rw [List.getElem?_eq_none (by simpa using hi)] at e; cases e
  · rw [List.getElem?_set_ne hj] at e
    obtain ⟨v', e1, e2⟩ := sg.sl j u e
    exact ⟨v', by rw [List.getElem?_set_ne hj]; exact e1, e2⟩
/-- behind a suite the error's name is gone -/
def wipeF (i : Nat) : RF → RF
  | .fl (.nx ρ) S => .fl (.nx (ρ.set i none)) S
  | .fl (.bk ρ) S => .fl (.bk (ρ.set i none)) S
  | .fl (.ct ρ) S => .fl (.ct (ρ.set i none)) S
  | .fl (.rt w) S => .fl (.rt w) S
  | _ => .bad
open Classical in
/-- try: f except x as (slot i): h, whatever address the error has -/
noncomputable def sTry (x : Str) (i : Nat) (f : SF) (h : Addr → Addr → SF) : SF := fun ρ S => match f ρ S with
  | .exc y ρ1 S1 => if y.c = x ∧ y.fs ≠ [] then (if hR : ∃ R, ∀ a dd, wipeF i (h a dd (ρ1.set i (some (.fn a dd y))) S1) = R then hR.choose else .bad) else .bad
  | r => r
theorem ev_try {x : Str} {i : Nat} {f : SF} {h : Addr → Addr → SF} {ρ : Rho} {S S1 : Sto} {r : Fl} (e : f ρ S = .fl r S1) : sTry x i f h ρ S = .fl r S1 := by
  unfold sTry
  rw [e]
theorem ev_tryx {x : Str} {i : Nat} {f : SF} {h : Addr → Addr → SF} {ρ ρ1 : Rho} {S S1 : Sto} {y : Xc} {R : RF} (e : f ρ S = .exc y ρ1 S1) (hy : y.c = x) (hf : y.fs ≠ []) (hR : ∀ a dd, wipeF i (h a dd (ρ1.set i (some (.fn a dd y))) S1) = R) : sTry x i f h ρ S = R := by
  unfold sTry
  rw [e]
  dsimp only
  rw [if_pos ⟨hy, hf⟩]
  have hx : ∃ R, ∀ a dd, wipeF i (h a dd (ρ1.set i (some (.fn a dd y))) S1) = R := ⟨R, hR⟩
  rw [dif_pos hx]
  exact (hx.choose_spec 0 0).symm.trans (hR 0 0)
/-- a field of the error at slot i -/
def eErr (i : Nat) (a dd : Addr) (n : Str) : EF := fun ρ S => match ρ[i]? with
  | some (some (.fn a' d' q)) => if a' = a ∧ d' = dd then match q.fs.lookup n with
    | some d => .ok (.d d) S
    | none => .bad
    else .bad
  | _ => .bad
theorem ev_err {i : Nat} {a dd : Addr} {n : Str} {ρ : Rho} {S : Sto} {q : Xc} {d : PyData} (h : ρ[i]? = some (some (.fn a dd q))) (hl : q.fs.lookup n = some d) : eErr i a dd n ρ S = .ok (.d d) S := by
  unfold eErr
  rw [h]
  simp only [and_self, if_true, hl]
theorem look_paired {K : PySem.W.Frag} {H : Hp} {f : Str} {d : PyData} : ∀ {fs : List (Str × V)} {xs : List (Str × PyData)}, Paired (fun (p : Str × V) (q : Str × PyData) => p.1 = q.1 ∧ Rep K H p.2 q.2) fs xs → xs.lookup f = some d → ∃ v, fs.lookup f = some v ∧ Rep K H v d
  | _, _, .nil, e => by cases e
  | (g, v) :: fs, (g', y) :: xs, .cons h t, e => by
    obtain ⟨h1, h2⟩ := h
    have h1 : g = g' := h1
    subst h1
    simp only [List.lookup] at e ⊢
    split at e
    · cases e
      exact ⟨_, rfl, h2⟩
    · exact look_paired t e
theorem de_err {X : Cx} {Wx : WX} {a C dd : Addr} {oe : Obj} {pn : List (Addr × Obj)} {i : Nat} {x n : Str} {p pos : Pos} (T : XfC X.K C) (hno : PySem.W.findIn X.K (.ref C) n = some none) (hz : Zc (.ref C) (some dd) oe) (hf : ∃ vs, oe.data = .fields vs)
    (he : PE (X.suite a ((a, oe) :: pn)) (.Name x p) (tVar i)) (hb : attributeBase (.Name x p) n X.env (eval (.Name x p) X.env) = eval (.Name x p) X.env := by rfl) :
    DE (X.suite a ((a, oe) :: pn)) Wx (.Attribute (.Name x p) n pos) (eErr i a dd n) := PE.conv (pe_xf T hno hz hf he hb) fun σ H Q ⟨ad, ρ, S, sg, rs, q⟩ => by
  unfold eErr at q
  split at q
  · rename_i a' d' y hρ
    split at q
    · rename_i hc
      obtain ⟨rfl, rfl⟩ := hc
      split at q
      · rename_i d hl
        obtain ⟨v, e1, e2, fs, h1, h2⟩ := sg.sl i _ hρ
        obtain ⟨u, l1, l2⟩ := look_paired h2 hl
        refine ⟨v, e1, e2, rfl, _, fs, u, rfl, h1, l1, q u H ad (Fr.refl _ _) l2 rs⟩
      · exact q.elim
    · exact q.elim
  · exact q.elim
theorem ds_try {X : Cx} {Wx : WX} {x n : Str} {i : Nat} {fs : List Str} {body suite : List Stmt} {b₀ : Stmt} {np pos pos' : Pos} {fb : SF} {h : Addr → Addr → SF} (T : Hd X.K X.mg x fs) (hg : Gl X x) (hs : X.stack = X.env :: X.outer) (hf : X.env.frame = some X.env.locals) (hN : X.N.Nodup) (hi : X.N[i]? = some n) (hln : X.env.kindOf n = some .local) (tk : Takes X Wx)
    (hb : ∀ (W : WX) (pn : List (Addr × Obj)) (xe : Value → Shared → Prop), Takes (X.tr pn xe) W → DSs (X.tr pn xe) W body fb)
    (hsu : ∀ (C : Addr), XfC X.K C → (∀ f ∈ fs, PySem.W.findIn X.K (.ref C) f = some none) → ∀ (a dd : Addr) (oe : Obj) (pn : List (Addr × Obj)), Zc (.ref C) (some dd) oe → (∃ vs, oe.data = .fields vs) → DSs (X.suite a ((a, oe) :: pn)) W0 (b₀ :: suite) (h a dd))
    (hdb : (x == ("__debug__" : Str)) = false := by decide) :
    DS X Wx (.Try body [.ExceptHandler (some (.Name x np)) (some n) (b₀ :: suite) pos'] [] [] pos) (sTry x i fb h) := by
  obtain ⟨C, hm, xf, no, ex⟩ := T
  refine PS.conv (ps_try_as (tb := fun W => tDS X.K X.mg W fb) (ts := fun a cls d D σ H => cls = .ref C ∧ ∃ dd, d = some dd ∧ tDS X.K X.mg W0 (h a dd) D σ H) hs hf hN hi hln ⟨hg, hdb, .inl hm⟩ tk (fun W pn xe t _ => hb W pn xe t) (fun a oe cls d pn hz hf => ⟨fun pins s σ H D I hh => ?_⟩)) fun D σ H ⟨ad, ρ, S, sg, rs, q⟩ => ?_
  · obtain ⟨rfl, dd, rfl, hh⟩ := hh
    exact (hsu C xf no a dd oe pn hz hf).run pins s σ H D I hh
  · refine ⟨ad, ρ, S, sg, rs, ?_⟩
    revert q
    unfold sTry
    cases fb ρ S with
    | bad => exact fun z => z
    | fl r S1 =>
      cases r <;> exact fun z => z
    | exc y ρ1 S1 =>
      intro q cls d σ' H' ad' fr sg' xr rs'
      dsimp only at q
      split at q
      · rename_i hy
        obtain ⟨hy1, hy2⟩ := hy
        obtain ⟨C', hm', rfl, hfs⟩ := xr
        rw [hy1, hm] at hm'
        cases hm'
        rcases hfs with hfs | ⟨dd, fs', rfl, hd, hp⟩
        · exact absurd hfs hy2
        · refine ⟨true, ex, fun _ a ha => ⟨rfl, dd, rfl, ad', _, S1, sg'.set i (w := .fn a dd y) ⟨rfl, fs', hd, hp⟩, rs', ?_⟩, fun z => by cases z⟩
          split at q
          · rename_i hR
            have hc := hR.choose_spec a dd
            rw [← hc] at q
            revert q
            cases h a dd (ρ1.set i (some (.fn a dd y))) S1 with
            | bad => exact fun z => z.elim
            | exc y2 ρ2 S2 => exact fun z => z.elim
            | fl r S2 =>
              cases r with
              | nx ρ2 => exact fun z σ2 H2 ad2 fr2 sg2 rs2 => z (σ2.set i none) H2 ad2 (fr.trans fr2) (sg2.unset i) rs2
              | bk ρ2 => exact fun z σ2 H2 ad2 fr2 sg2 rs2 => z (σ2.set i none) H2 ad2 (fr.trans fr2) (sg2.unset i) rs2
              | ct ρ2 => exact fun z σ2 H2 ad2 fr2 sg2 rs2 => z (σ2.set i none) H2 ad2 (fr.trans fr2) (sg2.unset i) rs2
              | rt w => exact fun z v H2 ad2 fr2 rw2 rs2 => z v H2 ad2 (fr.trans fr2) rw2 rs2
          · exact q.elim
      · exact q.elim
/-! ### bool(x) -/
def boolG : List PyData → Option PyData
  | [.int i] => some (.bool (i != 0))
  | [.bool b] => some (.bool b)
  | _ => none
theorem cp_bool {X : Cx} : CallP X (.type "bool") boolG := by
  intro pins s σ H xs us Q I r ⟨ds, d, h, e, q⟩
  unfold boolG at e
  split at e
  · cases e
    obtain ⟨x, rfl, r1⟩ := repV1 h
    cases r1.int
    exact call_bool1 pins s σ H _ us Q I r (.inl ⟨_, rfl, q _ H (Ex.refl H) (.bl _)⟩)
  · cases e
    obtain ⟨x, rfl, r1⟩ := repV1 h
    cases r1.bool
    exact call_bool1 pins s σ H _ us Q I r (.inr ⟨_, rfl, q _ H (Ex.refl H) (.bl _)⟩)
  · cases e
end DL

set_option Elab.async false
set_option linter.all false
set_option maxRecDepth 100000
set_option maxHeartbeats 4000000
/-! D27: try: .. except C1 as e: .. except C2 as e: .. (clauses with one and the same name). -/
namespace DL
open PySem PySem.Spec PyProof.Rows L2
abbrev TsA := Addr → Value → Option Addr → TS
def endsAs (i : Nat) (D : Ends) : Ends := { nx := fun τ K' => D.nx (τ.set i none) K', rt := D.rt, bk := fun τ K' => D.bk (τ.set i none) K', ct := fun τ K' => D.ct (τ.set i none) K' }
/-- what the clauses wish of an error that has come -/
def wLs (K : PySem.W.Frag) (i : Nat) (Wo : WX) (D : Ends) : List (Value × TsA) → WX
  | [] => Wo
  | p :: more => fun cl d τ G => ∃ yes, PySem.W.exmOne K cl p.1 = some yes ∧ (yes = true → ∀ z, G z = none → p.2 z cl d (endsAs i D) (τ.set i (some (.ref z))) G) ∧ (yes = false → wLs K i Wo D more cl d τ G)
/-- the clauses fit to their readings -/
inductive ClsOk (X : Cx) (n : Str) : List ExceptHandler → List (Value × TsA) → Prop
  | nil : ClsOk X n [] []
  | cons {x : Str} {v : Value} {ts : TsA} {b : Stmt} {bs : List Stmt} {p1 p2 : Pos} {hs : List ExceptHandler} {ps : List (Value × TsA)} (nm : Names X x v)
      (su : ∀ (z : Addr) (oz : Obj) (cl : Value) (d : Option Addr) (pn : List (Addr × Obj)), Zc cl d oz → (∃ fs, oz.data = .fields fs) → PSs (X.suite z ((z, oz) :: pn)) (b :: bs) (ts z cl d)) (rest : ClsOk X n hs ps) :
      ClsOk X n (.ExceptHandler (some (.Name x p1)) (some n) (b :: bs) p2 :: hs) ((v, ts) :: ps)
section
variable {X : Cx} {pins : List (Addr × Obj)} {D : Ends} {Wo : WX} {n : Str} {i : Nat}
/-- an object with fields is no frame of ours -/
theorem fields_off {B h : Heap} {z : Addr} {oz : Obj} {fs : Array Value} (ff : h.FunFrames B (X.env :: X.outer)) (hz : h.get? z = some oz) (hd : oz.data = .fields fs) : z ∉ frs (X.env :: X.outer) := by
  intro hm
  obtain ⟨_, o2, e2, no⟩ := ff.mem hm
  cases hz.symm.trans e2
  exact no _ hd
/-- the clauses are gone through, the error z being held -/
theorem clauses_run (stk : X.stack = X.env :: X.outer) (fr : X.env.frame = some X.env.locals) (nd : X.N.Nodup) (at_ : X.N[i]? = some n) (loc : X.env.kindOf n = some .local) (tk : Takes X Wo) (okX : X.Ok)
    {z : Addr} {B : Heap} {cl : Value} {d : Option Addr} {τ : L2.St} {G : Hp} {s0 s1 : Shared} {h3 : Heap} (J : Inv X pins τ G s0) (nb : ∀ a o, s0.heap.get? a = some o → a ∉ frs X.stack → B.get? a = some o)
    (up3 : s0.heap.UpToSlots h3) (os : s1.os = s0.os) (ag : AllBare s1.gens) (na : G z = none) (fl3 : HandSPX.FlyingZ B (X.env :: X.outer) z (Zc cl d) h3) :
    ∀ {hs : List ExceptHandler} {ps : List (Value × TsA)}, ClsOk X n hs ps → wLs X.K i Wo D ps cl d τ G → wpAny (model X.prog X.w) X.A (handleBy (.ref z) X.env hs) (SP X pins D) X.xe { s1 with heap := h3 } := by
  have J3 : Inv X pins τ G { s1 with heap := h3 } := J.landed nb fl3.1 up3 os ag
  obtain ⟨o3, f3, g3, z3, d3⟩ := fl3.there
  have off := fields_off (X := X) fl3.2.2.1 g3 d3
  have offL : z ≠ X.env.locals := fun q => off (List.mem_filterMap.mpr ⟨X.env, List.mem_cons_self, by rw [fr, q]⟩)
  have offF : z ∉ X.fs := fun hm => by
    obtain ⟨e, h1, h2⟩ := List.mem_filterMap.mp hm
    exact off (List.mem_filterMap.mpr ⟨e, List.mem_cons_of_mem _ h1, h2⟩)
  have S3 := J3.suite g3 d3 na offL offF
  intro hs ps hk
  induction hk with
  | nil =>
    intro wish
    refine wpAny_handleBy_nil ?_
    obtain ⟨k1, k2, k3, oe, vs, T, oT, tr, ge, ze, de, e1, hr⟩ := id fl3
    unfold PySem.passOn
    refine wpAny_bind (wpAny_field ge de e1 ?_)
    rw [if_neg (by simp : ¬ ((Value.ref T == Value.none) = true))]
    have last : wpAny (model X.prog X.w) X.A (setFlight (.ref z) X.env.frame) (fun _ s4 => wpAny (model X.prog X.w) X.A (throw (.ref z) : Sem Flow) (SP X pins D) X.xe s4) X.xe { s1 with heap := h3 } := by
      rw [fr]
      exact HandSPX.setFlight_upZ fl3 fun h4 hh4 up4 => wpAny_throw (tk _ _ ⟨z, B, s0, pins, τ, G, cl, d, rfl, J, nb, up3.trans up4, .inr (.inr (by rw [stk]; exact hh4)), na, os, ag, wish⟩)
    first | exact wpAny_bind (wpAny_pure (wpAny_bind last)) | exact wpAny_bind last
  | @cons x v ts b bs p1 p2 hs ps nm su rest ih =>
    intro wish
    obtain ⟨yes, hy, h1, h0⟩ := wish
    refine wpAny_handleBy_cons (codeAny_handlers_test ?_) nofun
    have look : PySem.W.Looks (model X.prog X.w) h3 (typeOf (.ref z)) cl := fun A Q E s k q => wpAny_typeOf_ref (k _ _ g3) (by rw [z3.1]; exact q)
    have one := PySem.W.exm_one (M := model X.prog X.w) J3.kIn look hy
    have tst : ∀ {Q E : Value → Shared → Prop}, Q v { s1 with heap := h3 } → wpAny (model X.prog X.w) (X.A.mark (some (.ref z))) (eval (.Name x p1) X.env) Q E { s1 with heap := h3 } := by
      intro Q E q
      obtain ⟨gl, db, hm⟩ := nm
      rcases hm with hm | ⟨hm, hv, hn⟩
      · exact ld_glob (X := X.suite z ((z, o3) :: (X.pn ++ pins))) S3 gl hm q db
      · exact ld_blt (X := X.suite z ((z, o3) :: (X.pn ++ pins))) S3 gl hm hv q hn db
    refine tst (one.here ?_)
    cases yes with
    | false => exact ih (h0 rfl)
    | true =>
      refine codeAny_handlers_suite_as (HandSPX.lands_againZ fl3 fun h4 fl4 up4 => ?_)
      have J4 : Inv X pins τ G { s1 with heap := h4 } := J.landed nb fl4.1 (up3.trans up4) os ag
      obtain ⟨o4, f4, g4, z4, d4⟩ := fl4.there
      refine store_ok (X := X.suite z ((z, o4) :: (X.pn ++ pins))) (v := .ref z) (J4.suite g4 d4 na offL offF) nd at_ (.inl loc) rfl (fun s5 S5 => ?_) (.inr loc)
      refine wpAny_mono ((su z o4 cl d (X.pn ++ pins) z4 ⟨_, d4⟩).run [] s5 _ G _ S5 (h1 rfl z na)) (fun f s6 out => ?_) (fun _ _ q => q.elim)
      have gone : ∀ {τ6 : L2.St} {G6 : Hp} {Q : Shared → Prop}, Inv (X.suite z ((z, o4) :: (X.pn ++ pins))) [] τ6 G6 s6 → (∀ s7, Inv X pins (τ6.set i none) G6 s7 → Q s7) → wpAny (model X.prog X.w) X.A (do bindName X.env n .none; unbindBehindTheSuite X.env n p2) (fun _ s7 => Q s7) X.xe s6 :=
        fun S6 k => gone_ok (S6.unsuite okX) nd at_ loc k
      cases f with
      | next => obtain ⟨τ6, G6, S6, q6⟩ := out; exact gone S6 fun s7 J7 => ⟨_, _, J7, q6⟩
      | brk => obtain ⟨τ6, G6, S6, q6⟩ := out; exact gone S6 fun s7 J7 => ⟨_, _, J7, q6⟩
      | cont => obtain ⟨τ6, G6, S6, q6⟩ := out; exact gone S6 fun s7 J7 => ⟨_, _, J7, q6⟩
      | ret u => obtain ⟨v6, τ6, G6, S6, r6, q6⟩ := out; exact gone S6 fun s7 J7 => ⟨_, _, _, J7, r6, q6⟩
/-- the rule -/
theorem ps_tryLs {body : List Stmt} {h0 : ExceptHandler} {hs : List ExceptHandler} {ps : List (Value × TsA)} {pos : Pos} {tb : WX → TS} (stk : X.stack = X.env :: X.outer) (fr : X.env.frame = some X.env.locals) (nd : X.N.Nodup) (at_ : X.N[i]? = some n) (loc : X.env.kindOf n = some .local) (tk : Takes X Wo)
    (hb : ∀ (W : WX) (pn : List (Addr × Obj)) (xe : Value → Shared → Prop), Takes (X.tr pn xe) W → PSs (X.tr pn xe) body (tb W)) (hk : ClsOk X n (h0 :: hs) ps) :
    PS X (.Try body (h0 :: hs) [] [] pos) (fun D τ G => tb (wLs X.K i Wo D ps) D τ G) := by
  refine ⟨fun pins s τ G D I q => wpAny_Try_except ?_⟩
  have okX := I.ok
  have hfr : X.A.frames = some (X.env :: X.outer) := okX.frames.trans (by rw [stk])
  refine wpAny_mono ((hb (wLs X.K i Wo D ps) (X.pn ++ pins) (fun e t1 => wpAny (model X.prog X.w) X.A (noteFrame e X.env) (fun _ t2 => wpAny (model X.prog X.w) X.A (setFlight e none) (fun _ t3 => wpAny (model X.prog X.w) X.A (handleBy e X.env (h0 :: hs)) (SP X pins D) X.xe t3) X.xe t2) X.xe t1) (fun u t xx => ?_)).run [] s τ G D (I.toTry _) q) (fun f t out => ?_) (fun _ _ q => q)
  · obtain ⟨z, B, s0, pins', τ', G', cl, d, rfl, J', nb, up, sky, na, os, ag, wish⟩ := xx
    have sk : Sky B (X.env :: X.outer) z (Zc cl d) X.env.locals t.heap := by rw [← stk]; exact sky
    show wpAny (model X.prog X.w) X.A (noteFrame (.ref z) X.env) _ _ _
    exact Sky.land Zc.steady hfr fr sk fun h3 fl3 up3 => clauses_run stk fr nd at_ loc tk okX (J'.ofTry okX) nb (up.trans up3) os ag na fl3 hk wish
  · cases f with
    | next => obtain ⟨τ', G', J', q'⟩ := out; exact wpAny_execs_nil ⟨τ', G', J'.ofTry okX, q'⟩
    | brk => obtain ⟨τ', G', J', q'⟩ := out; exact ⟨τ', G', J'.ofTry okX, q'⟩
    | cont => obtain ⟨τ', G', J', q'⟩ := out; exact ⟨τ', G', J'.ofTry okX, q'⟩
    | ret u => obtain ⟨v, τ', G', J', r', q'⟩ := out; exact ⟨v, τ', G', J'.ofTry okX, r', q'⟩
end
end DL

set_option Elab.async false
set_option linter.all false
set_option maxRecDepth 100000
set_option maxHeartbeats 4000000
/-! D28: several clauses, read; x(lambda: e) where x hears several errors. -/
namespace DL
open PySem PySem.Spec PyProof.Rows L2 LamX
abbrev Cl := Str × (Addr → Addr → SF)
open Classical in
/-- the clause that fits is run, whatever address the error has -/
noncomputable def pickR (i : Nat) (cl : List Cl) (y : Xc) (ρ : Rho) (S : Sto) : RF := match cl.find? fun p => decide (p.1 = y.c) with
  | some p => if y.fs ≠ [] then (if hR : ∃ R, ∀ a dd, wipeF i (p.2 a dd (ρ.set i (some (.fn a dd y))) S) = R then hR.choose else .bad) else .bad
  | none => .bad
theorem pick_eq {i : Nat} {cl : List Cl} {y : Xc} {ρ : Rho} {S : Sto} {p : Cl} {R : RF} (h1 : cl.find? (fun p => decide (p.1 = y.c)) = some p) (h2 : y.fs ≠ []) (h3 : ∀ a dd, wipeF i (p.2 a dd (ρ.set i (some (.fn a dd y))) S) = R) : pickR i cl y ρ S = R := by
  have hx : ∃ R, ∀ a dd, wipeF i (p.2 a dd (ρ.set i (some (.fn a dd y))) S) = R := ⟨R, h3⟩
  unfold pickR
  rw [h1]
  dsimp only
  rw [if_pos h2, dif_pos hx]
  exact (hx.choose_spec 0 0).symm.trans (h3 0 0)
noncomputable def sTryN (i : Nat) (f : SF) (cl : List Cl) : SF := fun ρ S => match f ρ S with
  | .exc y ρ1 S1 => pickR i cl y ρ1 S1
  | r => r
/-- classes that are no kin -/
def Apart (K : PySem.W.Frag) (mg : Str → Option Value) (x x' : Str) : Prop := ∀ C C', mg x = some (.ref C) → mg x' = some (.ref C') → PySem.W.exmOne K (.ref C') (.ref C) = some false
theorem apart_mk {K : PySem.W.Frag} {mg : Str → Option Value} {x x' : Str} {C C' : Addr} (h1 : mg x = some (.ref C)) (h2 : mg x' = some (.ref C')) (h : PySem.W.exmOne K (.ref C') (.ref C) = some false) : Apart K mg x x' := fun A A' e e' => by
  cases h1.symm.trans e
  cases h2.symm.trans e'
  exact h
inductive ClsD (X : Cx) (n : Str) : List ExceptHandler → List Cl → Prop
  | nil : ClsD X n [] []
  | cons {x : Str} {fs : List Str} {b : Stmt} {bs : List Stmt} {p1 p2 : Pos} {hs : List ExceptHandler} {cl : List Cl} {h : Addr → Addr → SF} (T : Hd X.K X.mg x fs) (gl : Gl X x) (db : (x == ("__debug__" : Str)) = false)
      (su : ∀ (C : Addr), XfC X.K C → (∀ f ∈ fs, PySem.W.findIn X.K (.ref C) f = some none) → ∀ (a dd : Addr) (oe : Obj) (pn : List (Addr × Obj)), Zc (.ref C) (some dd) oe → (∃ vs, oe.data = .fields vs) → DSs (X.suite a ((a, oe) :: pn)) W0 (b :: bs) (h a dd))
      (ap : ∀ p ∈ cl, Apart X.K X.mg x p.1) (rest : ClsD X n hs cl) : ClsD X n (.ExceptHandler (some (.Name x p1)) (some n) (b :: bs) p2 :: hs) ((x, h) :: cl)
theorem suite_post {K : PySem.W.Frag} {mg : Str → Option Value} {Wx : WX} {ad ad' : List Addr} {H H' : Hp} {i : Nat} {r : RF} {D : Ends} (fr : Fr ad H ad' H') (q : postS K mg Wx ad H (wipeF i r) D) : postS K mg W0 ad' H' r (endsAs i D) := by
  cases r with
  | bad => exact q.elim
  | exc y ρ S => exact q.elim
  | fl g S =>
    cases g with
    | nx ρ => exact fun σ2 H2 ad2 fr2 sg2 rs2 => q (σ2.set i none) H2 ad2 (fr.trans fr2) (sg2.unset i) rs2
    | bk ρ => exact fun σ2 H2 ad2 fr2 sg2 rs2 => q (σ2.set i none) H2 ad2 (fr.trans fr2) (sg2.unset i) rs2
    | ct ρ => exact fun σ2 H2 ad2 fr2 sg2 rs2 => q (σ2.set i none) H2 ad2 (fr.trans fr2) (sg2.unset i) rs2
    | rt w => exact fun v H2 ad2 fr2 rw2 rs2 => q v H2 ad2 (fr.trans fr2) rw2 rs2
theorem find_tail {x : Str} {h : Addr → Addr → SF} {cl : List Cl} {y : Xc} (hx : x ≠ y.c) : ((x, h) :: cl).find? (fun p => decide (p.1 = y.c)) = cl.find? fun p => decide (p.1 = y.c) := by
  rw [List.find?_cons]
  simp [hx]
/-- the clauses' readings, and what they wish -/
theorem cls_of {X : Cx} {n : Str} {i : Nat} : ∀ {hs : List ExceptHandler} {cl : List Cl}, ClsD X n hs cl → ∃ ps, ClsOk X n hs ps ∧ ∀ {Wo Wx : WX} {D : Ends} {ad ad' : List Addr} {H H' : Hp} {cls : Value} {d : Option Addr} {σ' : L2.St} {y : Xc} {ρ1 : Rho} {S1 : Sto}, Fr ad H ad' H' → Sig X.K ad' H' σ' ρ1 → XRep X.K X.mg H' cls d y → RS X.K ad' H' S1 → postS X.K X.mg Wx ad H (pickR i cl y ρ1 S1) D → wLs X.K i Wo D ps cls d σ' H'
  | _, _, .nil => ⟨[], .nil, fun _ _ _ _ q => q.elim⟩
  | _, _, .cons (x := x) (fs := fs) (cl := cl) (h := h) T gl db su ap rest => by
    obtain ⟨C, hm, xf, no, ex⟩ := T
    obtain ⟨ps, k1, k2⟩ := cls_of (i := i) rest
    refine ⟨(.ref C, fun a cls d D σ H => cls = .ref C ∧ ∃ dd, d = some dd ∧ tDS X.K X.mg W0 (h a dd) D σ H) :: ps, .cons ⟨gl, db, .inl hm⟩ (fun a oe cl d pn hz hf => ⟨fun pins s σ H D I hh => ?_⟩) k1, ?_⟩
    · obtain ⟨rfl, dd, rfl, hh⟩ := hh
      exact (su C xf no a dd oe pn hz hf).run pins s σ H D I hh
    · intro Wo Wx D ad ad' H H' cls d σ' y ρ1 S1 fr sg xr rs q
      obtain ⟨C', hm', rfl, hfs⟩ := id xr
      by_cases hy : x = y.c
      · subst hy
        cases hm.symm.trans hm'
        refine ⟨true, ex, fun _ a ha => ?_, fun z => by cases z⟩
        unfold pickR at q
        rw [List.find?_cons, decide_eq_true rfl] at q
        dsimp only at q
        split at q
        · rename_i hne
          rcases hfs with hfs | ⟨dd, fs', rfl, hd, hp⟩
          · exact absurd hfs hne
          · refine ⟨rfl, dd, rfl, ad', _, S1, sg.set i (w := .fn a dd y) ⟨rfl, fs', hd, hp⟩, rs, ?_⟩
            split at q
            · rename_i hR
              rw [← hR.choose_spec a dd] at q
              exact suite_post fr q
            · exact q.elim
        · exact q.elim
      · have hq : pickR i ((x, h) :: cl) y ρ1 S1 = pickR i cl y ρ1 S1 := by
          unfold pickR
          rw [find_tail hy]
        rw [hq] at q
        have hin : ∃ p ∈ cl, p.1 = y.c := by
          unfold pickR at q
          cases hf : cl.find? (fun p => decide (p.1 = y.c)) with
          | none => rw [hf] at q; exact q.elim
          | some p => exact ⟨p, List.mem_of_find?_eq_some hf, of_decide_eq_true (List.find?_some (p := fun p : Cl => decide (p.1 = y.c)) hf)⟩
        obtain ⟨p, hp, e⟩ := hin
        refine ⟨false, ap p hp C C' hm (by rw [e]; exact hm'), (fun z => by cases z), fun _ => k2 fr sg xr rs q⟩
theorem ds_tryN {X : Cx} {Wx : WX} {n : Str} {i : Nat} {body : List Stmt} {h0 : ExceptHandler} {hs : List ExceptHandler} {pos : Pos} {fb : SF} {cl : List Cl} (hs0 : X.stack = X.env :: X.outer) (hf : X.env.frame = some X.env.locals) (hN : X.N.Nodup) (hi : X.N[i]? = some n) (hln : X.env.kindOf n = some .local) (tk : Takes X Wx)
    (hb : ∀ (W : WX) (pn : List (Addr × Obj)) (xe : Value → Shared → Prop), Takes (X.tr pn xe) W → DSs (X.tr pn xe) W body fb) (hk : ClsD X n (h0 :: hs) cl) : DS X Wx (.Try body (h0 :: hs) [] [] pos) (sTryN i fb cl) := by
  obtain ⟨ps, k1, k2⟩ := cls_of (i := i) hk
  refine PS.conv (ps_tryLs (tb := fun W => tDS X.K X.mg W fb) hs0 hf hN hi hln tk hb k1) fun D σ H ⟨ad, ρ, S, sg, rs, q⟩ => ?_
  refine ⟨ad, ρ, S, sg, rs, ?_⟩
  revert q
  unfold sTryN
  cases fb ρ S with
  | bad => exact fun z => z
  | fl r S1 => cases r <;> exact fun z => z
  | exc y ρ1 S1 => exact fun q cls d σ' H' ad' fr sg' xr rs' => k2 fr sg' xr rs' q
/-! ### defs that hear what they got -/
def toldW (w1 : Option Str) (x : PyData) : PyData := match w1 with
  | some w => .tuple [.str w, x]
  | none => x
/-- told, or what the clause that fits gives (the error's name at slot 1) -/
noncomputable def ttN (w1 : Option Str) (cl : List Cl) : TTh := fun th S => match th S with
  | .bad => .bad
  | .ok w S1 => match w with
    | .d x => .ok (.d (toldW w1 x)) S1
    | _ => .bad
  | .exc y S1 => match pickR 1 cl y [none, none] S1 with
    | .fl (.rt (.d r)) S2 => .ok (.d r) S2
    | _ => .bad
theorem gives_post {X : Cx} {Ng : List Str} {f : Addr} {x : Str} {sg : Scope} {g : Addr} {cdg : Value} {s : Shared} {H : Hp} {ad : List Addr} {cl : List Cl} {i : Nat} {ps : List (Value × TsA)} {Q : VK} {D : Ends} (hD : D.rt = Q)
    (k2 : ∀ {Wo Wx : WX} {D : Ends} {ad ad' : List Addr} {H H' : Hp} {cls : Value} {d : Option Addr} {σ' : L2.St} {y : Xc} {ρ1 : Rho} {S1 : Sto}, Fr ad H ad' H' → Sig X.K ad' H' σ' ρ1 → XRep X.K X.mg H' cls d y → RS X.K ad' H' S1 → postS X.K X.mg Wx ad H (pickR i cl y ρ1 S1) D → wLs X.K i Wo D ps cls d σ' H') {y : Xc} {S1 : Sto} {ρ1 : Rho} {σ0 : L2.St}
    (hq : post X.K X.mg W0 [] ad H (RepW X.K) (match pickR i cl y ρ1 S1 with | .fl (.rt (.d r)) S2 => .ok (.d r) S2 | _ => .bad : Rs Wv) Q) (hsg : ∀ ad' H', Fr ad H ad' H' → Sig X.K ad' H' σ0 ρ1) {cls : Value} {d : Option Addr} {H' : Hp} {ad' : List Addr} (fr : Fr ad H ad' H') (xr : XRep X.K X.mg H' cls d y) (rs' : RS X.K ad' H' S1) : wLs X.K i W0 D ps cls d σ0 H' := by
  refine k2 (Wx := W0) fr (hsg _ _ fr) xr rs' ?_
  revert hq
  cases pickR i cl y ρ1 S1 with
  | bad => exact fun z => z.elim
  | exc y2 ρ2 S2 => exact fun z => z.elim
  | fl r S2 =>
    cases r with
    | nx ρ => exact fun z => z.elim
    | bk ρ => exact fun z => z.elim
    | ct ρ => exact fun z => z.elim
    | rt w =>
      cases w with
      | own k => exact fun z => z.elim
      | fn _ _ _ => exact fun z => z.elim
      | d r => exact fun z v H2 ad2 fr2 rw2 rs2 => by rw [hD]; exact z v H2 ad2 fr2 rw2 rs2
section
variable {X : Cx}
theorem start2 {f : Addr} {a n : Str} : ∀ {ad : List Addr} {H : Hp}, Sig X.K ad H (L2.start [a, n] [V.ref f]) [none, none] := by
  intro ad H
  refine ⟨rfl, fun i w e => ?_⟩
  match i with
  | 0 => cases e
  | 1 => cases e
  | i + 2 => simp at e
theorem givesN {x a n q w1 : Str} {sg : Scope} {g : Addr} {cdg : Value} {j1 : Nat} {x1} {p1 p2 p3 p4 p5 p6 : Pos} {h0 : ExceptHandler} {hs : List ExceptHandler} {cl : List Cl} (hnd : [a, n].Nodup) (hn : sg.names.lookup n = some .local) (g1 : strG w1 = true)
    (hk : ∀ (f : Addr) (s : Shared) (H : Hp), ClsD (hCx X [a, n] x sg g cdg s H).nox n (h0 :: hs) cl) :
    GivesD X [a, n] x sg g cdg [.Try [.Return (some (.Tuple [.Constant (.str w1) j1 p1, .Call (.Name a p2) [] [] p3] x1 p4)) p5] (h0 :: hs) [] [] p6] a q (ttN (some w1) cl) := by
  intro f c' s H Q ad S th tl rs act hc htl hq
  obtain ⟨ps, k1, k2⟩ := cls_of (i := 1) (hk f s H)
  refine ⟨_, pss_one (ps_tryLs (X := (hCx X [a, n] x sg g cdg s H).nox) (i := 1) (Wo := W0)
      (tb := fun W D σ H => ∃ Ech : XK, (∀ cls d H', Ech cls d H' → W cls d (L2.start [a, n] [V.ref f]) H') ∧ σ = L2.start [a, n] [V.ref f] ∧ H c' = some (CodeO c' q) ∧ tl Ech H fun v H1 => [V.str w1, v].length ≤ sizeLine ∧ ∀ p, H1 p = none → D.rt (.ref p) (upd H1 p (.tup [.str w1, v])))
      rfl rfl hnd rfl hn LamX.takes0 (fun W pn xe tk => ?_) k1), ?_⟩
  · refine ⟨fun pins s' σ H' D I h' => ?_⟩
    obtain ⟨Ech, hW, h1, h2, h3⟩ := h'
    have hp := act W pn xe Ech p2 p3 tk hW
    have hr := pss_one (ps_ret (pos := p5) (pe_tup (x1 := x1) (pos := p4) (pa_cons (pe_str (x := w1) (j := j1) (pos := p1)) (pa_cons hp pa_nil))))
    exact hr.run pins s' σ H' D I ⟨h1, by rw [h1]; rfl, h2, h3⟩
  · have hsz : ∀ u v : V, [u, v].length ≤ sizeLine := fun u v => by show 2 ≤ sizeLine; decide
    refine ⟨_, fun cls d H' h => h, rfl, hc, htl _ _ ?_⟩
    revert hq
    unfold ttN
    cases th S with
    | bad => exact fun z => z
    | ok w S1 =>
      cases w with
      | own k => exact fun z => z.elim
      | fn _ _ _ => exact fun z => z.elim
      | d y =>
        intro hq v H' ad' fr r rs'
        refine ⟨hsz _ _, fun p hp => ?_⟩
        have ex : Ex H' (upd H' p (.tup [.str w1, v])) := Ex.new hp
        exact hq _ _ ad' (fr.trans ex.fr) (.tup (.inl upd_same) (.cons (.str _ g1) (.cons (Rep.stb ex.stb _ r) .nil))) (rs'.ex ex)
    | exc y S1 =>
      intro hq cls d H' ad' fr xr rs'
      exact gives_post (X := X) (Ng := [a, n]) (f := f) (x := x) (sg := sg) (g := g) (cdg := cdg) (s := s) rfl k2 hq (fun _ _ _ => start2) fr xr rs'
end
end DL

set_option Elab.async false
set_option linter.all false
set_option maxRecDepth 100000
set_option maxHeartbeats 4000000
/-! D29: [..] * e. -/
namespace DL
open PySem PySem.Spec PyProof.Rows L2
theorem dm_repE {X : Cx} {Wx : WX} {o e : Expr} {m : MF} {f : EF} {pos : Pos} (he : DM X Wx o m) (hf : DE X Wx e f) : DM X Wx (.BinOp o .Mult e pos) (mRep m f) := PE.conv (pe_op op_rep he hf) fun σ H Q ⟨ad, ρ, S, sg, rs, q⟩ => by
  refine ⟨ad, ρ, S, sg, rs, ?_⟩
  unfold mRep at q
  revert q
  cases m ρ S with
  | bad => exact fun z => z
  | exc x S2 => exact fun z => z
  | ok xs S1 =>
    rintro q y H1 ad1 fr1 ⟨p, us, rfl, h0, hn, hp, rp⟩ rs1
    refine ⟨ad1, ρ, S1, sg.fr fr1, rs1, ?_⟩
    simp only [Rs.bind] at q
    revert q
    cases f ρ S1 with
    | bad => exact fun z => z
    | exc x S2 => exact fun q cls d H' ad' fr => q cls d H' ad' (fr1.trans fr)
    | ok w S2 =>
      intro q v H2 ad2 fr2 rw2 rs2
      dsimp only at q
      split at q
      · split at q
        · rename_i k hz
          obtain ⟨z1, z2, z3⟩ := hz
          cases rw2
          have hp2 : H2 p = some (.lst us) := fr2.keep p _ hp hn
          have rp2 := Reps.stb fr2.stb _ rp
          have h9 : xs.length * k.toNat ≤ 1000 * 1000 := Nat.mul_le_mul z3 (by omega)
          have h8 : (1000 * 1000 : Nat) ≤ sizeLine := by decide
          refine ⟨p, k, us, rfl, rfl, hp2, by omega, by omega, by rw [rp2.length]; omega, fun p2 hq2 => ?_⟩
          obtain ⟨h12, hn2⟩ := fr2.back rs2 hq2
          obtain ⟨h02, _⟩ := fr1.back rs1 h12
          have ex : Ex H2 (upd H2 p2 (.lst (List.replicate k.toNat us).flatten)) := Ex.new hq2
          exact q _ _ ad2 ((fr1.trans fr2).trans ex.fr) ⟨p2, _, rfl, h02, hn2, upd_same, Reps.stb ex.stb _ (Reps.rep rp2 _)⟩ (rs2.ex ex)
        · exact q.elim
      · exact q.elim
end DL

set_option Elab.async false
set_option linter.all false
set_option maxRecDepth 100000
set_option maxHeartbeats 4000000
/-! D30: x in l, x not in l for a list of data of any depth. -/
namespace DL
open PySem PySem.Spec PyProof.Rows L2
section
variable {X : Cx}
def inDD (x y : PyData) : Option PyData := match y with
  | .list l => if (cmpOk x && cmpOk (.list l)) = true then some (.bool (l.any fun z => PyData.eqv z x)) else none
  | _ => none
def notInDD (x y : PyData) : Option PyData := match y with
  | .list l => if (cmpOk x && cmpOk (.list l)) = true then some (.bool (!l.any fun z => PyData.eqv z x)) else none
  | _ => none
theorem op_inDD (hu : X.A.units + 65 < cLine) : OpP X (compareOp .In) inDD := opP_of fun dx dy d e pins s σ H x y v u Q I rx ry h1 h2 q => by
  unfold inDD at e
  split at e
  · split at e
    · rename_i l hc
      cases e
      rw [Bool.and_eq_true] at hc
      obtain ⟨d1, s1⟩ := h1.dp hc.1
      obtain ⟨d2, s2⟩ := h2.dp hc.2
      exact L2.op_inD hu pins s σ H x y v u Q I rx ry ⟨dx, l, d1, d2, s1, s2, q _ H (Ex.refl H) (.bl _)⟩
    · cases e
  · cases e
theorem op_notInDD (hu : X.A.units + 65 < cLine) : OpP X (compareOp .NotIn) notInDD := opP_of fun dx dy d e pins s σ H x y v u Q I rx ry h1 h2 q => by
  unfold notInDD at e
  split at e
  · split at e
    · rename_i l hc
      cases e
      rw [Bool.and_eq_true] at hc
      obtain ⟨d1, s1⟩ := h1.dp hc.1
      obtain ⟨d2, s2⟩ := h2.dp hc.2
      exact L2.op_notInD hu pins s σ H x y v u Q I rx ry ⟨dx, l, d1, d2, s1, s2, q _ H (Ex.refl H) (.bl _)⟩
    · cases e
  · cases e
/-- a, b, c = e1, e2, e3, names -/
def sPar3 (i j l : Nat) (f g h : EF) : SF := fun ρ S => bindS (f ρ S) ρ fun x S1 => bindS (g ρ S1) ρ fun y S2 => bindS (h ρ S2) ρ fun z S3 => .fl (.nx (((ρ.set i (some x)).set j (some y)).set l (some z))) S3
theorem ds_par3 {Wx : WX} {i j l : Nat} {x y z : Str} {a b c : Expr} {f g h : EF} {px py pz pt pos : Pos} {kt k2 pt2} (hc : X.calm = true) (hN : X.N.Nodup) (hi : X.N[i]? = some x) (hj : X.N[j]? = some y) (hl : X.N[l]? = some z) (hij : i ≠ j) (hil : i ≠ l) (hjl : j ≠ l)
    (hx : X.env.scope.names.lookup x = some .local) (hy : X.env.scope.names.lookup y = some .local) (hz : X.env.scope.names.lookup z = some .local) (ha : DE X Wx a f) (hb : DE X Wx b g) (hd : DE X Wx c h)
    (hs0 : starEach (a :: [b, c]) X.env = (false, eval a X.env) :: starEach [b, c] X.env := by rfl) (hs1 : starEach (b :: [c]) X.env = (false, eval b X.env) :: starEach [c] X.env := by rfl) (hs2 : starEach (c :: []) X.env = (false, eval c X.env) :: starEach [] X.env := by rfl)
    (hw : swappedStores [.Tuple [.Name x px, .Name y py, .Name z pz] kt pt] (.Tuple [a, b, c] k2 pt2) X.env = pure (some [x, y, z]) := by rfl)
    (hs : swapsWithSole [.Tuple [.Name x px, .Name y py, .Name z pz] kt pt] (.Tuple [a, b, c] k2 pt2) pos.line X.env = pure false := by rfl) :
    DS X Wx (.Assign [.Tuple [.Name x px, .Name y py, .Name z pz] kt pt] (.Tuple [a, b, c] k2 pt2) pos) (sPar3 i j l f g h) :=
  PS.conv (ps_par3 hc hN hi hj hl hij hil hjl hx hy hz (pa_cons ha (pa_cons hb (pa_cons hd pa_nil hs2) hs1) hs0) hw hs) fun D σ H ⟨ad, ρ, S, sg, rs, q⟩ => by
    refine ⟨ad, ρ, S, sg, rs, post_mono (bindS_post (Rel := RepW X.K) sg q) ?_⟩
    rintro v H1 ⟨ad1, w, S1, fr, rel, rs1, q1⟩
    refine ⟨ad1, ρ, S1, sg.fr fr, rs1, post_mono (bindS_post (Rel := RepW X.K) (sg.fr fr) q1) ?_⟩
    rintro v2 H2 ⟨ad2, w2, S2, fr2, rel2, rs2, q2⟩
    refine ⟨ad2, ρ, S2, (sg.fr fr).fr fr2, rs2, post_mono (bindS_post (Rel := RepW X.K) ((sg.fr fr).fr fr2) q2) ?_⟩
    rintro v3 H3 ⟨ad3, w3, S3, fr3, rel3, rs3, q3⟩
    exact ⟨v, v2, v3, rfl, q3 _ H3 ad3 (Fr.refl _ _) ((((((sg.fr fr).fr fr2).fr fr3).set i ((rel.fr fr2).fr fr3)).set j (rel2.fr fr3)).set l rel3) rs3⟩
theorem ev_par3 {i j l : Nat} {f g h : EF} {ρ : Rho} {S S1 S2 S3 : Sto} {w u t : Wv} (h1 : f ρ S = .ok w S1) (h2 : g ρ S1 = .ok u S2) (h3 : h ρ S2 = .ok t S3) : sPar3 i j l f g h ρ S = .fl (.nx (((ρ.set i (some w)).set j (some u)).set l (some t))) S3 := by
  unfold sPar3; rw [h1]; simp only [bindS]; rw [h2]; simp only [bindS]; rw [h3]
end
end DL

set_option Elab.async false
set_option linter.all false
set_option maxRecDepth 100000
set_option maxHeartbeats 4000000
/-! D31: {k: v for t in i if c}, keys tuples of ints (HandS.DictComp has keys that are ints or texts; the loop's steps are those of its rule, the object and the store of a pair are others). -/
namespace DL
open PySem PySem.Spec PyProof.Rows L2
/-- a comprehension stores a pair, the key a tuple -/
theorem d_dictSetT {X : Cx} {pins : List (Addr × Obj)} {σ : L2.St} {H : Hp} {s : Shared} {A : Around} {E : Value → Shared → Prop} {D b : Addr} {kvs : List (List Key × V)} {k : List Key} {v : V} {u r : Value} {Q : Unit → Shared → Prop} (hu : A.units + 1 < cLine) (I : Inv X pins σ H s) (hD : H D = some (.dT kvs)) (eb : H b = some (.tup (k.map kV))) (hz : kvs.length < sizeLine)
    (ry : RelV (.ref b) u) (rv : RelV v r) (h : ∀ s', Inv X pins σ (upd H D (.dT (putK kvs k v))) s' → Q () s') : wpAny (model X.prog X.w) A (dictSet D u r) Q E s := by
  cases (show u = Value.ref b from ry)
  obtain ⟨z, hd, xs, rel, dd⟩ := dt_of I.hok hD
  have hx : xs.length ≤ sizeLine := by rw [← Paired.length rel]; exact z
  have hl : (putK kvs k v).length ≤ sizeLine := by have := length_putK kvs k v; omega
  refine wpAny_dictSet_heap (hsz := hx) (show A.units < cLine by omega) (key_of I.hok eb) dd fun h' dd' hs => h _ ?_
  obtain ⟨q, es, ep, hq, h2, h3, h4, _, h5⟩ := dd'
  refine d_write I (by rw [hD]; exact True.intro) hs ⟨q, hq⟩ ⟨hl, hd, _, (rel.put k eb rv).keeps fun c ys ec => ?_, q, es, ep, hq, h2, h3, h4, h5⟩
  rw [upd_ne (ne_of ec hD (fun z => nomatch z))]
  exact ec
section
variable {X : Cx}
/-- the terms: D is the new dict -/
def tDcT (wi : TI) (g : TG) (tt : TT) (tk tv : TE) (vs : List Nat) : TE := fun σ H Q => wi σ H fun J H1 => ∀ D, H1 D = none → ∃ W : Nat → Nat → Hp → Prop, (∃ m, W 0 m (upd H1 D (.dT []))) ∧ ∀ i m H, W i m H →
  (J.stop i H ∧ Q (.ref D) H) ∨ (J.go i H ∧ ∃ Nx : Hp → Prop, (∀ H', Nx H' → ∃ m', m' < m ∧ W (i + 1) m' H') ∧ ∀ x H', J.yld i H x H' → g x (wipe σ vs) H' fun σ2 H2 => wipe σ2 vs = wipe σ vs ∧ tt σ2 H2 fun b H3 =>
    if b = true then tk σ2 H3 fun y H4 => tv σ2 H4 fun z H5 => ∃ kvs k c, y = .ref c ∧ H5 c = some (.tup (k.map kV)) ∧ H5 D = some (.dT kvs) ∧ kvs.length < sizeLine ∧ Nx (upd H5 D (.dT (putK kvs k z))) else Nx H3)
theorem pe_dcT {kx vx tg iter : Expr} {ifs : List Expr} {scope : Scope} {own : List (Str × Nat)} {pos : Pos} {wi : TI} {g : TG} {tt : TT} {tk tv : TE} (hu : X.A.units + 64 < cLine) (hc : X.calm = true) (hN : X.N.Nodup) (hi : PI X tg iter wi) (ok : BlkOk X.N X.env.scope scope own)
    (hg : ∀ (s : Shared) (H : Hp) (C : Addr) (cl : List (Str × Addr)) (fp : List Addr), PG (X.blk s H scope (compEnvC scope cl C X.env) fp) tg g) (ht : ∀ (s : Shared) (H : Hp) (C : Addr) (cl : List (Str × Addr)) (fp : List Addr), PTs (X.blk s H scope (compEnvC scope cl C X.env) fp) ifs tt)
    (hk : ∀ (s : Shared) (H : Hp) (C : Addr) (cl : List (Str × Addr)) (fp : List Addr), PE (X.blk s H scope (compEnvC scope cl C X.env) fp) kx tk)
    (he : ∀ (s : Shared) (H : Hp) (C : Addr) (cl : List (Str × Addr)) (fp : List Addr), PE (X.blk s H scope (compEnvC scope cl C X.env) fp) vx tv) (hs : ∀ x, foldedSetIterable iter X.env x = pure x := by intro _; rfl) :
    PE X (.DictComp kx vx [⟨tg, iter, ifs, 0⟩] scope pos) (tDcT wi g tt tk tv (own.map (·.2))) := by
  refine ⟨fun pins s σ H Q I h => ?_⟩
  rw [arm_eval_DictComp]
  have hfree : ∀ y ∈ scope.names, y.2 = .free → ∃ c, X.env.cells.lookup y.1 = some c := fun y hy e => (ok.free y hy e).elim (fun k => I.ok.has _ (.inl k)) fun k => I.ok.has _ (.inr k)
  refine wpAny_comprehension_free rfl hs (closure_ok hfree) ok.kind (fun y hy e => by rw [ok.uniq y hy, e]) (thn (hi.run pins s σ H _ I h) fun xv s1 hx => thn hx fun itv s2 h2 => ?_)
  obtain ⟨it, fp, tn, J, H2, e, I2, T, st2, f2, q⟩ := h2
  subst e
  refine wpAny_newObj_type (newEnv_comp ?_)
  generalize hD : s2.heap.objs.size = D
  obtain ⟨W, ⟨m0, w0⟩, turn⟩ := q D (I2.hok.fresh (Nat.le_of_eq hD))
  generalize hs3 : ({ s2 with heap := s2.heap.push { cls := .type "dict", data := .dict #[] } } : Shared) = s3
  have h3 : s3.heap = s2.heap.push { cls := .type "dict", data := .dict #[] } := by rw [← hs3]
  generalize hH3 : upd H2 D (.dT []) = H3 at w0
  have I3 : Inv X pins σ H3 s3 := by
    rw [← hs3, ← hH3]
    refine I2.laid (t' := s2.toks) (fun b o e => Heap.get?_push_of_some _ e) (Nat.le_of_eq hD) ?_
    rw [← hD]
    exact dt_empty s2.heap I2.big
  have f3 : ∀ b ∈ fp, FpOk X pins H3 b ∧ b < s3.heap.objs.size := fun b hb => by
    obtain ⟨o, e, _⟩ := T.obj _ _ st2 b hb
    have hlt := Heap.lt_size e
    refine ⟨⟨?_, (f2 b hb).2⟩, by rw [h3, Heap.size_push]; exact Nat.lt_succ_of_lt hlt⟩
    rw [← hH3, upd_ne (by rw [← hD]; exact Nat.ne_of_lt hlt)]
    exact (f2 b hb).1
  have nfp : ∀ b ∈ fp, H3 b = none := fun b hb => (f3 b hb).1.1
  have st3 : tn 0 s3.heap := T.keep _ _ _ st2 fun b _ o e => by rw [h3]; exact Heap.get?_push_of_some _ e
  have I4 := block_start I3 ok hN f3
  have pg := hg s3 H3 s3.heap.objs.size (cellsFrom (s3.heap.objs.size + 1) scope.names (cloFrom X.env.cells scope.names [])) fp
  have pt := ht s3 H3 s3.heap.objs.size (cellsFrom (s3.heap.objs.size + 1) scope.names (cloFrom X.env.cells scope.names [])) fp
  have pk := hk s3 H3 s3.heap.objs.size (cellsFrom (s3.heap.objs.size + 1) scope.names (cloFrom X.env.cells scope.names [])) fp
  have pe := he s3 H3 s3.heap.objs.size (cellsFrom (s3.heap.objs.size + 1) scope.names (cloFrom X.env.cells scope.names [])) fp
  show codeAny _ _ (.compStart (.DictComp kx vx [⟨tg, iter, ifs, 0⟩] scope pos) 0 (.ref it) (.ref D) (compEnvC scope (cellsFrom (s3.heap.objs.size + 1) scope.names (cloFrom X.env.cells scope.names [])) s3.heap.objs.size X.env)) (compPost (model X.prog X.w) X.A X.xe _ _ (.ref D) s3.heap.objs.size) { s3 with heap := pushCells (s3.heap.push { cls := .type "dict", data := .dict #[] }) scope.names }
  generalize hce : compEnvC scope (cellsFrom (s3.heap.objs.size + 1) scope.names (cloFrom X.env.cells scope.names [])) s3.heap.objs.size X.env = ce at I4 pg pt pk pe ⊢
  have cL : ce.locals = s3.heap.objs.size := by subst hce; rfl
  generalize hs4 : ({ s3 with heap := pushCells (s3.heap.push { cls := .type "dict", data := .dict #[] }) scope.names } : Shared) = s4 at I4 ⊢
  have st4 : tn 0 s4.heap := T.keep _ _ _ st3 fun b _ o e => by rw [← hs4]; exact pushCells_keeps _ _ _ _ (Heap.get?_push_of_some _ e)
  have stat : ∀ {σ' : L2.St} {H' : Hp} {s' : Shared}, Inv (X.blk s3 H3 scope ce fp) [] σ' H' s' → (∀ b ∈ fp, H' b = none) → ∀ b ∈ fp, FpOk (X.blk s3 H3 scope ce fp) [] H' b := fun I' hn b hb =>
    ⟨hn b hb, (I'.ok.exf b hb).1, I'.ok.exfs b hb, .inl hb, fun x c e => (I'.ok.exf b hb).2 x c e, fun p hp => absurd (show p ∈ ([] : List (Addr × Obj)) ++ [] from hp) (by simp)⟩
  refine (fun loop => codeAny_compStart_dict loop (T.self X.A 0 _ _ _ st4 loop)) ?_
  refine compLoop_anyD (fun n s' => ∃ i H', Inv (X.blk s3 H3 scope ce fp) [] (wipe σ (own.map (·.2))) H' s' ∧ tn i s'.heap ∧ (∀ b ∈ fp, H' b = none) ∧ W i n H') ?_ m0 ⟨0, H3, I4, st4, nfp, w0⟩
  rintro n s5 ⟨i, H5, I5, st5, n5, w5⟩
  rcases turn i n H5 w5 with ⟨stop, qq⟩ | ⟨go, Nx, hNx, step⟩
  · refine thnF (T.done (X.blk s3 H3 scope ce fp) rfl rfl rfl hc i [] s5 _ H5 (fun _ _ => False) I5 (stat I5 n5) st5 stop) fun r s6 ⟨hr, I6⟩ => ?_
    subst hr
    have I7 : Inv X pins σ H5 s6 := I3.call' (ch := fp) I6.os I6.base I6.hok I6.bare fun b hb => ⟨(f3 b hb).1.2.2.2.1, (f3 b hb).1.2.1, (f3 b hb).1.2.2.2.2.1, (f3 b hb).1.2.2.2.2.2⟩
    have nC : H5 s3.heap.objs.size = none := by
      have z : H5 ce.locals = none := I6.free
      rwa [cL] at z
    obtain ⟨m, hn, _⟩ := I6.loc
    have hn : s6.heap.Ns ce.locals m := hn
    rw [cL] at hn
    refine ⟨m, hn, fun h'' sb => ?_⟩
    obtain ⟨f0, f1, _, f3, f4, f5⟩ := I3.fpOk (Nat.le_refl _) nC
    exact ⟨.ref D, H5, I7.turned (t' := s6.toks) (fun b o hb e => (sb.2 b hb).trans e) f0 f1 f3 f4 f5, rfl, qq⟩
  · refine thnF (T.item (X.blk s3 H3 scope ce fp) rfl rfl rfl hc i [] s5 _ H5 (fun _ _ => False) I5 (stat I5 n5) st5 go) fun r s6 ⟨u, hr, h6⟩ => ?_
    subst hr
    refine thnF h6 fun _ s7 ⟨x, H7, I7, r7, y7, st7, n7⟩ => ?_
    have I7' := I7.pinned (stat I7 n7) (T.obj _ _ st7)
    refine thnF (pg.run _ s7 _ H7 x u _ I7' r7 (step x H7 y7)) fun _ s8 ⟨σ8, H8, I8, hw8, q8⟩ => ?_
    refine thnF (pt.run _ s8 σ8 H8 _ I8 q8) fun b s9 ⟨H9, I9, q9⟩ => ?_
    have fin : ∀ {s' : Shared} {H' : Hp}, Inv (X.blk s3 H3 scope ce fp) ([] ++ pinsAt fp s7.heap) σ8 H' s' → Nx H' → ∃ m, m < n ∧ ∃ i H', Inv (X.blk s3 H3 scope ce fp) [] (wipe σ (own.map (·.2))) H' s' ∧ tn i s'.heap ∧ (∀ b ∈ fp, H' b = none) ∧ W i m H' := fun {s' H'} I' nx => by
      obtain ⟨m', hm, w'⟩ := hNx H' nx
      have pin' : ∀ b ∈ fp, ∀ o, s7.heap.get? b = some o → s'.heap.get? b = some o ∧ H' b = none := fun b hb o e =>
        let z := I'.pin (b, o) (List.mem_append_right _ (List.mem_append_right _ (mem_pinsAt hb e)))
        ⟨z.1, z.2.1⟩
      have hl : (wipe σ (own.map (·.2))).length = σ8.length := by rw [← hw8, wipe_length]
      refine ⟨m', hm, i + 1, H', (I'.unpinned (pins := [])).weak hl (fun j v e => ?_), T.keep _ _ _ st7 fun b hb o e => (pin' b hb o e).1, fun b hb => ?_, w'⟩
      · rw [← hw8] at e
        exact (wipe_some e).1
      · obtain ⟨o, e, _⟩ := T.obj _ _ st7 b hb
        exact (pin' b hb o e).2
    cases b with
    | false =>
      simp only [Bool.false_eq_true, if_false] at q9 ⊢
      exact fin I9 q9
    | true =>
      simp only [if_true] at q9 ⊢
      refine thnF (pk.run _ s9 σ8 H9 _ I9 q9) fun z s10 ⟨yk, H10, I10, r10, q10⟩ => ?_
      refine thnF (pe.run _ s10 σ8 H10 _ I10 q10) fun z2 s11 ⟨yv, H11, I11, r11, kvs, k, c, ek, ec, hD11, hz11, nx⟩ => ?_
      subst ek
      exact d_dictSetT (X := X.blk s3 H3 scope ce fp) (by omega) I11 hD11 ec hz11 r10 r11 fun s12 I12 => fin I12 nx
end
/-! ### what it gives -/
abbrev PF := Rho → Sto → Rs (List (PyData × PyData))
def dcRun (t : GF) (c : BF) (fk fv : EF) (ρ : Rho) : List PyData → List (PyData × PyData) → Sto → Rs (List (PyData × PyData))
  | [], acc, S => .ok acc S
  | d :: l, acc, S => match t d ρ with
    | some ρ1 => match c ρ1 S with
      | .ok true S1 => match fk ρ1 S1 with
        | .ok (.d k) S2 => match fv ρ1 S2 with
          | .ok (.d y) S3 => if tkey k = true then dcRun t c fk fv ρ l (putD acc k y) S3 else .bad
          | _ => .bad
        | _ => .bad
      | .ok false S1 => dcRun t c fk fv ρ l acc S1
      | _ => .bad
    | none => .bad
def pDc (i : IF) (t : GF) (c : BF) (fk fv : EF) (vs : List Nat) : PF := fun ρ S => (i ρ S).bind fun l S1 => dcRun t c fk fv (wipeR ρ vs) l [] S1
def MadeP (K : PySem.W.Frag) (H : Hp) (ad' : List Addr) (H' : Hp) (v : V) (l : List (PyData × PyData)) : Prop := ∃ p ps, v = .ref p ∧ H p = none ∧ p ∉ ad' ∧ H' p = some (.dT ps) ∧ RepTV K H' ps l
def tDP (K : PySem.W.Frag) (mg : Str → Option Value) (Wx : WX) (f : PF) : TE := fun σ H Q => ∃ ad ρ S, Sig K ad H σ ρ ∧ RS K ad H S ∧ post K mg Wx σ ad H (MadeP K H) (f ρ S) Q
abbrev DPr (X : Cx) (Wx : WX) (e : Expr) (f : PF) : Prop := PE X e (tDP X.K X.mg Wx f)
def eFzP (f : PF) : EF := fun ρ S => (f ρ S).bind fun l S1 => if l.isEmpty = true then .bad else .ok (.d (.dict l)) S1
def eOwnP (f : PF) : EF := fun ρ S => (f ρ S).bind fun l S1 => if l.isEmpty = true then .bad else .ok (.own S1.length) (S1 ++ [.dct l])
theorem length_putD (l : List (PyData × PyData)) (k y : PyData) : (putD l k y).length ≤ l.length + 1 := by
  unfold putD
  split
  · rw [List.length_map]; omega
  · rw [List.length_append]; simp
theorem dcRun_noexc {t : GF} {c : BF} {fk fv : EF} {ρ : Rho} {x : Xc} {S' : Sto} : ∀ (l : List PyData) (acc : List (PyData × PyData)) (S : Sto), dcRun t c fk fv ρ l acc S ≠ .exc x S'
  | [], _, _, h => by cases h
  | d :: l, acc, S, h => by
    unfold dcRun at h
    cases ht : t d ρ with
    | none => rw [ht] at h; cases h
    | some ρ1 =>
      rw [ht] at h
      dsimp only at h
      split at h
      · split at h
        · split at h
          · split at h
            · exact dcRun_noexc l _ _ h
            · cases h
          · cases h
        · cases h
      · exact dcRun_noexc l _ _ h
      · cases h
theorem dc_conv {K : PySem.W.Frag} {mg : Str → Option Value} {Wx : WX} {i : IF} {t : GF} {c : BF} {fk fv : EF} {vs ix : List Nat} (hv : ∀ j ∈ ix, j ∈ vs) {σ : L2.St} {H : Hp} {Q : VK} (q : tDP K mg Wx (pDc i t c fk fv vs) σ H Q) :
    tDcT (tDI K mg Wx i) (tDG K ix t) (tDT K mg W0 c) (tD K mg W0 fk) (tD K mg W0 fv) vs σ H Q := by
  obtain ⟨ad, ρ, S, sg, rs, q⟩ := q
  refine ⟨ad, ρ, S, sg, rs, post_mono (post_bind q) ?_⟩
  rintro J H1 ⟨ad1, l, S1, fr1, ⟨hz, wk⟩, rs1, q1⟩ D hD
  obtain ⟨h0, hDn⟩ := fr1.back rs1 hD
  obtain ⟨R, hR⟩ : ∃ R, R = dcRun t c fk fv (wipeR ρ vs) l [] S1 := ⟨_, rfl⟩
  rw [← hR] at q1
  have sg1 := sig_wipe (sg.fr fr1) vs
  refine ⟨fun n m H' => m = l.length - n ∧ n ≤ l.length ∧ ∃ ad' S' accV accD, Fr ad1 H1 ad' H' ∧ RS K ad' H' S' ∧ D ∉ ad' ∧ H' D = some (.dT accV) ∧ RepTV K H' accV accD ∧ accD.length ≤ n ∧ dcRun t c fk fv (wipeR ρ vs) (l.drop n) accD S' = R,
    ⟨l.length, by simp, Nat.zero_le _, ad1, S1, [], [], (Ex.new hD).fr, rs1.ex (Ex.new hD), hDn, upd_same, .nil, Nat.le_refl _, by rw [hR]; simp⟩, ?_⟩
  rintro n m H' ⟨rfl, hn, ad', S', accV, accD, fr', rs', hn', hD', rp, hle, e⟩
  obtain ⟨stop, go⟩ := wk H' fr'.stb
  by_cases hlt : n < l.length
  · refine .inr ?_
    obtain ⟨hgo, yl⟩ := go n l[n] (by simp [hlt])
    refine ⟨hgo, fun H2 => ∃ ad' S' accV accD, Fr ad1 H1 ad' H2 ∧ RS K ad' H2 S' ∧ D ∉ ad' ∧ H2 D = some (.dT accV) ∧ RepTV K H2 accV accD ∧ accD.length ≤ n + 1 ∧ dcRun t c fk fv (wipeR ρ vs) (l.drop (n + 1)) accD S' = R,
      fun H2 z => ⟨l.length - (n + 1), by omega, rfl, hlt, z⟩, fun x H2 y => ?_⟩
    obtain ⟨ex, rx⟩ := yl x H2 y
    have fr2 := fr'.trans (ex.fr (ad := ad'))
    have nb : R ≠ .bad := fun z => by rw [z] at q1; exact q1
    rw [← e, List.drop_eq_getElem_cons hlt] at nb
    rw [List.drop_eq_getElem_cons hlt] at e
    unfold dcRun at nb e
    cases ht : t l[n] (wipeR ρ vs) with
    | none => rw [ht] at nb; exact absurd rfl nb
    | some ρ1 =>
      rw [ht] at nb e
      refine ⟨ad', wipeR ρ vs, l[n], ρ1, sg1.fr fr2, rx, ht, fun σ2 sg2 sb => ⟨(wipe_same hv sb).trans (wipe_wipe σ vs), ?_⟩⟩
      refine ⟨ad', ρ1, S', sg2, rs'.ex ex, ?_⟩
      dsimp only at nb e
      cases hc : c ρ1 S' with
      | bad => rw [hc] at nb; exact absurd rfl nb
      | exc x S2 => rw [hc] at nb; exact absurd rfl nb
      | ok b S2 =>
        rw [hc] at nb e
        intro b' H3 ad3 fr3 eb rs3
        subst eb
        have hD3 : H3 D = some (.dT accV) := fr3.keep D _ (ex D _ hD') hn'
        have hn3 : D ∉ ad3 := fun z => by
          have := fr3.new D z hn'
          rw [ex D _ hD'] at this; cases this
        cases b' with
        | false =>
          rw [if_neg Bool.false_ne_true]
          exact ⟨ad3, S2, accV, accD, fr2.trans fr3, rs3, hn3, hD3, RepTV.stb (ex.stb.trans fr3.stb) _ rp, Nat.le_succ_of_le hle, e⟩
        | true =>
          rw [if_pos rfl]
          refine ⟨ad3, ρ1, S2, sg2.fr fr3, rs3, ?_⟩
          dsimp only at nb e
          cases hf : fk ρ1 S2 with
          | bad => rw [hf] at nb; exact absurd rfl nb
          | exc x S3 => rw [hf] at nb; exact absurd rfl nb
          | ok w S3 =>
            rw [hf] at nb e
            cases w with
            | fn _ _ _ => exact absurd rfl nb
            | own k => exact absurd rfl nb
            | d dk =>
              intro kv H4 ad4 fr4 rk rs4
              have hD4 : H4 D = some (.dT accV) := fr4.keep D _ hD3 hn3
              have hn4 : D ∉ ad4 := fun z => by
                have := fr4.new D z hn3
                rw [hD3] at this; cases this
              dsimp only at nb e
              refine ⟨ad4, ρ1, S3, (sg2.fr fr3).fr fr4, rs4, ?_⟩
              cases hg : fv ρ1 S3 with
              | bad => rw [hg] at nb; exact absurd rfl nb
              | exc x S4 => rw [hg] at nb; exact absurd rfl nb
              | ok w2 S4 =>
                rw [hg] at nb e
                cases w2 with
                | fn _ _ _ => exact absurd rfl nb
                | own k => exact absurd rfl nb
                | d y =>
                  intro yv H5 ad5 fr5 ry rs5
                  have hD5 : H5 D = some (.dT accV) := fr5.keep D _ hD4 hn4
                  have hn5 : D ∉ ad5 := fun z => by
                    have := fr5.new D z hn4
                    rw [hD4] at this; cases this
                  dsimp only at nb e
                  by_cases htk : tkey dk = true
                  · rw [if_pos htk] at nb e
                    obtain ⟨bb, rfl, hko, ek⟩ := tkey_of htk
                    rcases key_val (.inl (Rep.stb fr5.stb _ rk)) ek hko with ⟨cc, z, _⟩ | ⟨b', cc, e1, _, rfl, hcc⟩
                    · cases z
                    · cases e1
                      have st : Stb H5 (upd H5 D (.dT (putK accV (bb.map Sum.inl) yv))) := stb_upd hD5
                      have hlen := RepTV.length rp
                      have hpl := length_putD accD (.tuple (bb.map PyData.int)) y
                      refine ⟨accV, bb.map Sum.inl, cc, rfl, hcc, hD5, by omega, ad5, S4, putK accV (bb.map Sum.inl) yv, putD accD (.tuple (bb.map PyData.int)) y, fr_upd (((fr2.trans fr3).trans fr4).trans fr5) hD hn5 hD5, rs_upd rs5 hn5 hD5, hn5, upd_same, ?_, by omega, e⟩
                      exact RepTV.put bb (Rep.stb st _ ry) (RepTV.stb ((((ex.stb.trans fr3.stb).trans fr4.stb).trans fr5.stb).trans st) _ rp)
                  · rw [if_neg htk] at nb; exact absurd rfl nb
  · have en : n = l.length := by omega
    subst en
    rw [List.drop_length] at e
    refine .inl ⟨stop, ?_⟩
    rw [← e] at q1
    exact q1 (.ref D) H' ad' fr' ⟨D, accV, rfl, h0, hn', hD', rp⟩ rs'
section
variable {X : Cx} {Wx : WX} {kx vx e tg iter : Expr} {ifs : List Expr} {scope : Scope} {own : List (Str × Nat)} {i : IF} {t : GF} {c : BF} {fk fv : EF} {m : PF} {ix : List Nat} {pos : Pos}
theorem dp_dc (hu : X.A.units + 64 < cLine) (hc : X.calm = true) (hN : X.N.Nodup) (hi : DI X Wx tg iter i) (ok : BlkOk X.N X.env.scope scope own) (hv : ∀ j ∈ ix, j ∈ own.map (·.2))
    (hg : ∀ (s : Shared) (H : Hp) (C : Addr) (cl : List (Str × Addr)) (fp : List Addr), DG (X.blk s H scope (compEnvC scope cl C X.env) fp) ix tg t) (ht : ∀ (s : Shared) (H : Hp) (C : Addr) (cl : List (Str × Addr)) (fp : List Addr), DTs (X.blk s H scope (compEnvC scope cl C X.env) fp) W0 ifs c)
    (hk : ∀ (s : Shared) (H : Hp) (C : Addr) (cl : List (Str × Addr)) (fp : List Addr), DE (X.blk s H scope (compEnvC scope cl C X.env) fp) W0 kx fk)
    (he : ∀ (s : Shared) (H : Hp) (C : Addr) (cl : List (Str × Addr)) (fp : List Addr), DE (X.blk s H scope (compEnvC scope cl C X.env) fp) W0 vx fv) (hs : ∀ x, foldedSetIterable iter X.env x = pure x := by intro _; rfl) :
    DPr X Wx (.DictComp kx vx [⟨tg, iter, ifs, 0⟩] scope pos) (pDc i t c fk fv (own.map (·.2))) := PE.conv (pe_dcT hu hc hN hi ok hg ht hk he hs) fun σ H Q q => dc_conv hv q
theorem de_fzP (h : DPr X Wx e m) : DE X Wx e (eFzP m) := PE.conv (pe_frzIf h) fun σ H Q ⟨ad, ρ, S, sg, rs, q⟩ => by
  refine ⟨ad, ρ, S, sg, rs, ?_⟩
  unfold eFzP at q
  revert q
  cases m ρ S with
  | bad => exact fun z => z
  | exc x S' => exact fun z => z
  | ok l S' =>
    simp only [Rs.bind]
    split
    · exact fun z => z.elim
    · rename_i hne
      intro q v H1 ad1 fr ⟨p, ps, e1, h0, hp, e2, r⟩ rs1
      subst e1
      refine .inr ⟨p, .dT ps, rfl, trivial, e2, fun o => ?_⟩
      have st : Stb H1 (upd H1 p (.frz o (.dT ps))) := stb_upd e2
      exact q _ _ ad1 (fr_upd fr h0 hp e2) (.dicT upd_same (RepTV.stb st _ r) (fun z => hne (by rw [z]; rfl))) (rs_upd rs1 hp e2)
theorem de_ownP (h : DPr X Wx e m) : DE X Wx e (eOwnP m) := PE.conv h fun σ H Q ⟨ad, ρ, S, sg, rs, q⟩ => by
  refine ⟨ad, ρ, S, sg, rs, ?_⟩
  unfold eOwnP at q
  revert q
  cases m ρ S with
  | bad => exact fun z => z
  | exc x S' => exact fun z => z
  | ok l S' =>
    simp only [Rs.bind]
    split
    · exact fun z => z.elim
    · rename_i hne
      intro q v H1 ad1 fr ⟨p, ps, e1, h0, hp, e2, r⟩ rs1
      subst e1
      have hl := rs1.len
      refine q _ _ (ad1 ++ [p]) ⟨?_, fr.keep, fun a ha hn => ?_, fr.stb⟩ ⟨p, ?_, rfl⟩ ⟨?_, ?_, fun (k : Nat) (ob : MO) z => ?_⟩
      · obtain ⟨t, e⟩ := fr.ext
        exact ⟨t ++ [p], by rw [e, List.append_assoc]⟩
      · rcases List.mem_append.mp ha with z | z
        · exact fr.new a z hn
        · have : a = p := by simpa using z
          rw [this]; exact h0
      · rw [← hl]; simp
      · simp [hl]
      · rw [List.nodup_append]
        exact ⟨rs1.nd, by simp, fun a ha b hb z => by
          have : b = p := by simpa using hb
          subst z this
          exact hp ha⟩
      · by_cases hk : k < S'.length
        · rw [List.getElem?_append_left hk] at z
          obtain ⟨a, z1, z2⟩ := rs1.ob k ob z
          exact ⟨a, by rw [List.getElem?_append_left (by rw [hl]; exact hk)]; exact z1, z2⟩
        · rw [List.getElem?_append_right (by omega)] at z
          have hk2 : k - S'.length = 0 := by
            by_cases hh : k - S'.length = 0
            · exact hh
            · rw [List.getElem?_eq_none (by simp; omega)] at z; cases z
          rw [hk2] at z
          simp at z
          subst z
          refine ⟨p, ?_, .inr ⟨ps, e2, r, fun z => hne (by rw [z]; rfl)⟩⟩
          rw [List.getElem?_append_right (by omega), hl, hk2]; rfl
end
end DL

set_option Elab.async false
set_option linter.all false
set_option maxRecDepth 100000
set_option maxHeartbeats 4000000
/-! D32: {k: v for ..} with ints as keys; list(d), len(d) of such; len(set(list of ints)). -/
namespace DL
open PySem PySem.Spec PyProof.Rows L2
def ikey : PyData → Bool
  | .int _ => true
  | _ => false
theorem ikey_of {d : PyData} (h : ikey d = true) : ∃ i, d = .int i := by
  cases d with
  | int i => exact ⟨i, rfl⟩
  | _ => cases h
def dcRunI (t : GF) (c : BF) (fk fv : EF) (ρ : Rho) : List PyData → List (PyData × PyData) → Sto → Rs (List (PyData × PyData))
  | [], acc, S => .ok acc S
  | d :: l, acc, S => match t d ρ with
    | some ρ1 => match c ρ1 S with
      | .ok true S1 => match fk ρ1 S1 with
        | .ok (.d k) S2 => match fv ρ1 S2 with
          | .ok (.d y) S3 => if ikey k = true then dcRunI t c fk fv ρ l (putD acc k y) S3 else .bad
          | _ => .bad
        | _ => .bad
      | .ok false S1 => dcRunI t c fk fv ρ l acc S1
      | _ => .bad
    | none => .bad
def pDcI (i : IF) (t : GF) (c : BF) (fk fv : EF) (vs : List Nat) : PF := fun ρ S => (i ρ S).bind fun l S1 => dcRunI t c fk fv (wipeR ρ vs) l [] S1
def MadeI (K : PySem.W.Frag) (H : Hp) (ad' : List Addr) (H' : Hp) (v : V) (l : List (PyData × PyData)) : Prop := ∃ p ps, v = .ref p ∧ H p = none ∧ p ∉ ad' ∧ H' p = some (.dK ps) ∧ RepKV K H' ps l
def tDPI (K : PySem.W.Frag) (mg : Str → Option Value) (Wx : WX) (f : PF) : TE := fun σ H Q => ∃ ad ρ S, Sig K ad H σ ρ ∧ RS K ad H S ∧ post K mg Wx σ ad H (MadeI K H) (f ρ S) Q
abbrev DPrI (X : Cx) (Wx : WX) (e : Expr) (f : PF) : Prop := PE X e (tDPI X.K X.mg Wx f)
def eFzI (f : PF) : EF := fun ρ S => (f ρ S).bind fun l S1 => .ok (.d (.dict l)) S1
def eOwnI (f : PF) : EF := fun ρ S => (f ρ S).bind fun l S1 => .ok (.own S1.length) (S1 ++ [.dct l])
theorem dcRunI_noexc {t : GF} {c : BF} {fk fv : EF} {ρ : Rho} {x : Xc} {S' : Sto} : ∀ (l : List PyData) (acc : List (PyData × PyData)) (S : Sto), dcRunI t c fk fv ρ l acc S ≠ .exc x S'
  | [], _, _, h => by cases h
  | d :: l, acc, S, h => by
    unfold dcRunI at h
    cases ht : t d ρ with
    | none => rw [ht] at h; cases h
    | some ρ1 =>
      rw [ht] at h
      dsimp only at h
      split at h
      · split at h
        · split at h
          · split at h
            · exact dcRunI_noexc l _ _ h
            · cases h
          · cases h
        · cases h
      · exact dcRunI_noexc l _ _ h
      · cases h
theorem dc_convI {K : PySem.W.Frag} {mg : Str → Option Value} {Wx : WX} {i : IF} {t : GF} {c : BF} {fk fv : EF} {vs ix : List Nat} (hv : ∀ j ∈ ix, j ∈ vs) {σ : L2.St} {H : Hp} {Q : VK} (q : tDPI K mg Wx (pDcI i t c fk fv vs) σ H Q) :
    tDc (tDI K mg Wx i) (tDG K ix t) (tDT K mg W0 c) (tD K mg W0 fk) (tD K mg W0 fv) vs σ H Q := by
  obtain ⟨ad, ρ, S, sg, rs, q⟩ := q
  refine ⟨ad, ρ, S, sg, rs, post_mono (post_bind q) ?_⟩
  rintro J H1 ⟨ad1, l, S1, fr1, ⟨hz, wk⟩, rs1, q1⟩ D hD
  obtain ⟨h0, hDn⟩ := fr1.back rs1 hD
  obtain ⟨R, hR⟩ : ∃ R, R = dcRunI t c fk fv (wipeR ρ vs) l [] S1 := ⟨_, rfl⟩
  rw [← hR] at q1
  have sg1 := sig_wipe (sg.fr fr1) vs
  refine ⟨fun n m H' => m = l.length - n ∧ n ≤ l.length ∧ ∃ ad' S' accV accD, Fr ad1 H1 ad' H' ∧ RS K ad' H' S' ∧ D ∉ ad' ∧ H' D = some (.dK accV) ∧ RepKV K H' accV accD ∧ accD.length ≤ n ∧ dcRunI t c fk fv (wipeR ρ vs) (l.drop n) accD S' = R,
    ⟨l.length, by simp, Nat.zero_le _, ad1, S1, [], [], (Ex.new hD).fr, rs1.ex (Ex.new hD), hDn, upd_same, .nil, Nat.le_refl _, by rw [hR]; simp⟩, ?_⟩
  rintro n m H' ⟨rfl, hn, ad', S', accV, accD, fr', rs', hn', hD', rp, hle, e⟩
  obtain ⟨stop, go⟩ := wk H' fr'.stb
  by_cases hlt : n < l.length
  · refine .inr ?_
    obtain ⟨hgo, yl⟩ := go n l[n] (by simp [hlt])
    refine ⟨hgo, fun H2 => ∃ ad' S' accV accD, Fr ad1 H1 ad' H2 ∧ RS K ad' H2 S' ∧ D ∉ ad' ∧ H2 D = some (.dK accV) ∧ RepKV K H2 accV accD ∧ accD.length ≤ n + 1 ∧ dcRunI t c fk fv (wipeR ρ vs) (l.drop (n + 1)) accD S' = R,
      fun H2 z => ⟨l.length - (n + 1), by omega, rfl, hlt, z⟩, fun x H2 y => ?_⟩
    obtain ⟨ex, rx⟩ := yl x H2 y
    have fr2 := fr'.trans (ex.fr (ad := ad'))
    have nb : R ≠ .bad := fun z => by rw [z] at q1; exact q1
    rw [← e, List.drop_eq_getElem_cons hlt] at nb
    rw [List.drop_eq_getElem_cons hlt] at e
    unfold dcRunI at nb e
    cases ht : t l[n] (wipeR ρ vs) with
    | none => rw [ht] at nb; exact absurd rfl nb
    | some ρ1 =>
      rw [ht] at nb e
      refine ⟨ad', wipeR ρ vs, l[n], ρ1, sg1.fr fr2, rx, ht, fun σ2 sg2 sb => ⟨(wipe_same hv sb).trans (wipe_wipe σ vs), ?_⟩⟩
      refine ⟨ad', ρ1, S', sg2, rs'.ex ex, ?_⟩
      dsimp only at nb e
      cases hc : c ρ1 S' with
      | bad => rw [hc] at nb; exact absurd rfl nb
      | exc x S2 => rw [hc] at nb; exact absurd rfl nb
      | ok b S2 =>
        rw [hc] at nb e
        intro b' H3 ad3 fr3 eb rs3
        subst eb
        have hD3 : H3 D = some (.dK accV) := fr3.keep D _ (ex D _ hD') hn'
        have hn3 : D ∉ ad3 := fun z => by
          have := fr3.new D z hn'
          rw [ex D _ hD'] at this; cases this
        cases b' with
        | false =>
          rw [if_neg Bool.false_ne_true]
          exact ⟨ad3, S2, accV, accD, fr2.trans fr3, rs3, hn3, hD3, RepKV.stb (ex.stb.trans fr3.stb) _ rp, Nat.le_succ_of_le hle, e⟩
        | true =>
          rw [if_pos rfl]
          refine ⟨ad3, ρ1, S2, sg2.fr fr3, rs3, ?_⟩
          dsimp only at nb e
          cases hf : fk ρ1 S2 with
          | bad => rw [hf] at nb; exact absurd rfl nb
          | exc x S3 => rw [hf] at nb; exact absurd rfl nb
          | ok w S3 =>
            rw [hf] at nb e
            cases w with
            | fn _ _ _ => exact absurd rfl nb
            | own k => exact absurd rfl nb
            | d dk =>
              intro kv H4 ad4 fr4 rk rs4
              have hD4 : H4 D = some (.dK accV) := fr4.keep D _ hD3 hn3
              have hn4 : D ∉ ad4 := fun z => by
                have := fr4.new D z hn3
                rw [hD3] at this; cases this
              dsimp only at nb e
              refine ⟨ad4, ρ1, S3, (sg2.fr fr3).fr fr4, rs4, ?_⟩
              cases hg : fv ρ1 S3 with
              | bad => rw [hg] at nb; exact absurd rfl nb
              | exc x S4 => rw [hg] at nb; exact absurd rfl nb
              | ok w2 S4 =>
                rw [hg] at nb e
                cases w2 with
                | fn _ _ _ => exact absurd rfl nb
                | own k => exact absurd rfl nb
                | d y =>
                  intro yv H5 ad5 fr5 ry rs5
                  have hD5 : H5 D = some (.dK accV) := fr5.keep D _ hD4 hn4
                  have hn5 : D ∉ ad5 := fun z => by
                    have := fr5.new D z hn4
                    rw [hD4] at this; cases this
                  dsimp only at nb e
                  by_cases htk : ikey dk = true
                  · rw [if_pos htk] at nb e
                    obtain ⟨i0, rfl⟩ := ikey_of htk
                    cases rk
                    have st : Stb H5 (upd H5 D (.dK (putK accV (.inl i0) yv))) := stb_upd hD5
                    have hlen := RepKV.length rp
                    have hpl := length_putD accD (.int i0) y
                    refine ⟨accV, .inl i0, rfl, hD5, by omega, ad5, S4, putK accV (.inl i0) yv, putD accD (.int i0) y, fr_upd (((fr2.trans fr3).trans fr4).trans fr5) hD hn5 hD5, rs_upd rs5 hn5 hD5, hn5, upd_same, ?_, by omega, e⟩
                    exact RepKV.put (.inl i0) (Rep.stb st _ ry) (RepKV.stb ((((ex.stb.trans fr3.stb).trans fr4.stb).trans fr5.stb).trans st) _ rp)
                  · rw [if_neg htk] at nb; exact absurd rfl nb
  · have en : n = l.length := by omega
    subst en
    rw [List.drop_length] at e
    refine .inl ⟨stop, ?_⟩
    rw [← e] at q1
    exact q1 (.ref D) H' ad' fr' ⟨D, accV, rfl, h0, hn', hD', rp⟩ rs'
section
variable {X : Cx} {Wx : WX} {kx vx e tg iter : Expr} {ifs : List Expr} {scope : Scope} {own : List (Str × Nat)} {i : IF} {t : GF} {c : BF} {fk fv : EF} {m : PF} {ix : List Nat} {pos : Pos}
theorem dp_dcI (hc : X.calm = true) (hN : X.N.Nodup) (hi : DI X Wx tg iter i) (ok : BlkOk X.N X.env.scope scope own) (hv : ∀ j ∈ ix, j ∈ own.map (·.2))
    (hg : ∀ (s : Shared) (H : Hp) (C : Addr) (cl : List (Str × Addr)) (fp : List Addr), DG (X.blk s H scope (compEnvC scope cl C X.env) fp) ix tg t) (ht : ∀ (s : Shared) (H : Hp) (C : Addr) (cl : List (Str × Addr)) (fp : List Addr), DTs (X.blk s H scope (compEnvC scope cl C X.env) fp) W0 ifs c)
    (hk : ∀ (s : Shared) (H : Hp) (C : Addr) (cl : List (Str × Addr)) (fp : List Addr), DE (X.blk s H scope (compEnvC scope cl C X.env) fp) W0 kx fk)
    (he : ∀ (s : Shared) (H : Hp) (C : Addr) (cl : List (Str × Addr)) (fp : List Addr), DE (X.blk s H scope (compEnvC scope cl C X.env) fp) W0 vx fv) (hs : ∀ x, foldedSetIterable iter X.env x = pure x := by intro _; rfl) :
    DPrI X Wx (.DictComp kx vx [⟨tg, iter, ifs, 0⟩] scope pos) (pDcI i t c fk fv (own.map (·.2))) := PE.conv (pe_dc hc hN hi ok hg ht hk he hs) fun σ H Q q => dc_convI hv q
theorem de_ownI (h : DPrI X Wx e m) : DE X Wx e (eOwnI m) := PE.conv h fun σ H Q ⟨ad, ρ, S, sg, rs, q⟩ => by
  refine ⟨ad, ρ, S, sg, rs, ?_⟩
  unfold eOwnI at q
  revert q
  cases m ρ S with
  | bad => exact fun z => z
  | exc x S' => exact fun z => z
  | ok l S' =>
    · intro q v H1 ad1 fr ⟨p, ps, e1, h0, hp, e2, r⟩ rs1
      subst e1
      have hl := rs1.len
      refine q _ _ (ad1 ++ [p]) ⟨?_, fr.keep, fun a ha hn => ?_, fr.stb⟩ ⟨p, ?_, rfl⟩ ⟨?_, ?_, fun (k : Nat) (ob : MO) z => ?_⟩
      · obtain ⟨t, e⟩ := fr.ext
        exact ⟨t ++ [p], by rw [e, List.append_assoc]⟩
      · rcases List.mem_append.mp ha with z | z
        · exact fr.new a z hn
        · have : a = p := by simpa using z
          rw [this]; exact h0
      · rw [← hl]; simp
      · simp [hl]
      · rw [List.nodup_append]
        exact ⟨rs1.nd, by simp, fun a ha b hb z => by
          have : b = p := by simpa using hb
          subst z this
          exact hp ha⟩
      · by_cases hk : k < S'.length
        · rw [List.getElem?_append_left hk] at z
          obtain ⟨a, z1, z2⟩ := rs1.ob k ob z
          exact ⟨a, by rw [List.getElem?_append_left (by rw [hl]; exact hk)]; exact z1, z2⟩
        · rw [List.getElem?_append_right (by omega)] at z
          have hk2 : k - S'.length = 0 := by
            by_cases hh : k - S'.length = 0
            · exact hh
            · rw [List.getElem?_eq_none (by simp; omega)] at z; cases z
          rw [hk2] at z
          simp at z
          subst z
          refine ⟨p, ?_, .inl ⟨ps, e2, r⟩⟩
          rw [List.getElem?_append_right (by omega), hl, hk2]; rfl
end
/-! ### list(d) -/
def keysI (l : List (PyData × PyData)) : Bool := l.all fun p => ikey p.1
def mKeys (f : LF) : MF := fun ρ S => (f ρ S).bind fun ws S1 => match ws with
  | [.own k] => match S1[k]? with
    | some (.dct l) => if keysI l = true then .ok (l.map (·.1)) S1 else .bad
    | _ => .bad
  | _ => .bad
theorem repKV_keysI {K : PySem.W.Frag} {H : Hp} : ∀ {ps : List (Key × V)} {l : List (PyData × PyData)}, RepKV K H ps l → keysI l = true → Reps K H (ps.map fun kv => kV kv.1) (l.map (·.1))
  | _, _, .nil, _ => .nil
  | _, _, .cons (k := k) h t, hk => by
    unfold keysI at hk
    rw [List.all_cons, Bool.and_eq_true] at hk
    have ih := repKV_keysI t hk.2
    cases k with
    | inl i => exact .cons (.int i) ih
    | inr x => exact absurd hk.1 (by simp [kD, ikey])
theorem keysI_dT {K : PySem.W.Frag} {H : Hp} {ps : List (List Key × V)} {l : List (PyData × PyData)} (h : RepTV K H ps l) (hk : keysI l = true) : l = [] := by
  cases h with
  | nil => rfl
  | cons h t => simp [keysI, ikey] at hk
section
variable {X : Cx} {Wx : WX} {e : Expr} {p pos : Pos}
theorem dm_keys {l : LF} (hc : X.calm = true) (hg : Gl X "list") (hm : X.mg "list" = none) (ha : DA X Wx [e] l)
    (he : starEach [e] X.env = (false, eval e X.env) :: starEach [] X.env := by rfl) (hpl : (backTo pos (starEach [] X.env)).any (·.1) = false := by rfl) : DM X Wx (.Call (.Name "list" p) [e] [] pos) (mKeys l) :=
  PE.conv (pe_callTy (call_list_dK hc) hg hm PyProof.Rows.boot_list ha (by decide) (by decide) he hpl) fun σ H Q ⟨ad, ρ, S, sg, rs, q⟩ => by
    refine ⟨ad, ρ, S, sg, rs, ?_⟩
    unfold mKeys at q
    revert q
    cases l ρ S with
    | bad => exact fun z => z
    | exc x S2 => exact fun z => z
    | ok ws S1 =>
      rintro q vs H1 ad1 fr1 r1 rs1
      simp only [Rs.bind] at q
      split at q
      · rename_i k
        cases r1 with
        | cons r rr =>
          cases rr
          split at q
          · rename_i l0 hk
            split at q
            · rename_i hki
              obtain ⟨a, ha', rfl⟩ := r
              obtain ⟨a', ha2, ob⟩ := rs1.ob _ _ hk
              rw [ha'] at ha2; cases ha2
              rcases ob with ⟨ps, h1, h2⟩ | ⟨ps, h1, h2, h3⟩
              · refine ⟨a, ps, rfl, h1, fun p hp => ?_⟩
                obtain ⟨h0, hn⟩ := fr1.back rs1 hp
                have ex : Ex H1 (upd H1 p (.lst (ps.map fun kv => kV kv.1))) := Ex.new hp
                exact q _ _ ad1 (fr1.trans ex.fr) ⟨p, _, rfl, h0, hn, upd_same, Reps.stb ex.stb _ (repKV_keysI h2 hki)⟩ (rs1.ex ex)
              · exact absurd (keysI_dT h2 hki) h3
            · exact q.elim
          · exact q.elim
      · exact q.elim
end
/-! ### len(d) -/
def lenKG : List PyData → Option PyData
  | [.dict l] => if keysI l = true then some (.int (l.length : Nat)) else none
  | _ => none
theorem cp_lenK {X : Cx} : CallP X (.builtin "len") lenKG := by
  intro pins s σ H xs us Q I r ⟨ds, d, h, e, q⟩
  unfold lenKG at e
  split at e
  · split at e
    · rename_i l hk
      cases e
      obtain ⟨x, rfl, r1⟩ := repV1 h
      obtain ⟨a, rfl, hd⟩ := r1.dic
      rw [Vals.ref1 r]
      rcases hd with ⟨ps, h1, h2⟩ | ⟨ps, h1, h2, h3⟩
      · refine d_len (Q := EP X pins σ Q) I h1 fun t s' I' => ⟨.int ps.length, H, I', ⟨t, rfl⟩, ?_⟩
        rw [RepKV.length h2]
        exact q _ H (Ex.refl H) (.int _)
      · exact absurd (keysI_dT h2 hk) h3
    · cases e
  · cases e
/-! ### len(set(l)) -/
def lenSetG : List PyData → Option PyData
  | [.list l] => match intsD l with
    | some ns => if ns.length ≤ 4000 then some (.int ((PyProof.Rows.firstMet (fun i => ns.getD i 0) ns.length).length : Nat)) else none
    | none => none
  | _ => none
theorem intsD_of : ∀ {l : List PyData} {ns : List Int}, intsD l = some ns → l = ns.map PyData.int
  | [], ns, h => by cases h; rfl
  | x :: l, ns, h => by
    cases x with
    | int i =>
      rw [intsD] at h
      cases e : intsD l with
      | none => rw [e] at h; cases h
      | some m =>
        rw [e] at h
        cases h
        rw [intsD_of e]
        rfl
    | _ => simp [intsD] at h
theorem ints_vals : ∀ {ns : List Int} {us : List Value}, Vals (ns.map V.int) us → PyProof.Rows.IntsAre us ns
  | [], _, .nil => .nil
  | n :: ns, _, .cons r t => by
    obtain ⟨k, rfl⟩ := r
    exact .cons n k (ints_vals t)
section
variable {X : Cx} {Wx : WX} {a : Expr} {f : EF} {p p2 q pos : Pos}
def tLenSetA (K : PySem.W.Frag) (ta : TE) : TE := fun σ H Q => ta σ H fun x H1 => ∃ (l : Addr) (ns : List Int), x = .ref l ∧ SqL K H1 l (ns.map V.int) ∧ ns.length ≤ 4000 ∧ Q (.int ((PyProof.Rows.firstMet (fun i => ns.getD i 0) ns.length).length : Nat)) H1
theorem pe_lenSetA {ta : TE} (hg : Gl X "len") (hm : X.mg "len" = none) (hg2 : Gl X "set") (hm2 : X.mg "set" = none) (ha : PE X a ta) (hc : X.calm = true)
    (na : starEach [a] X.env = (false, eval a X.env) :: starEach [] X.env := by rfl) : PE X (.Call (.Name "len" p) [.Call (.Name "set" p2) [a] [] q] [] pos) (tLenSetA X.K ta) := by
  refine ⟨fun pins s σ H Q I h => ?_⟩
  refine Call_ (ld_blt I hg hm boot_len ?_)
  refine PyProof.Rows.callWith_builtin1 (PyProof.Rows.args_cons ?_ rfl) rfl rfl
  refine Call_ (ld_blt I hg2 hm2 PyProof.Rows.boot_set ?_)
  refine PyProof.Rows.callWith_type1 (PyProof.Rows.args_cons (thn (ha.run pins s σ H _ I h) fun v s1 ⟨x, H1, I1, r1, q1⟩ => PyProof.Rows.args_nil ?_) na) na rfl
  obtain ⟨l, ns, rfl, hq, hl, q1⟩ := q1
  cases r1
  obtain ⟨its, r, pl, hz⟩ := I1.list hq
  have hlen : its.toArray.size = ns.length := by rw [List.size_toArray, ← r.length, List.length_map]
  refine call_set_list (I1.ok.hd hc) pl.isList (by simpa using ints_vals r) (by rw [hlen]; unfold scanBound; omega) fun h' tk hS hk => ?_
  refine PyProof.Rows.args_nil ?_
  rw [hlen] at hS
  obtain ⟨o, es, ep, t, ho, hex, hd, _, _, _, hf, hn⟩ := hS
  have hfl := PyProof.Rows.firstMet_length_le (fun i => ns.getD i 0) ns.length
  have I2 : Inv X pins σ H1 { s1 with heap := h', toks := tk } := I1.kept fun b o e => hk b o (Heap.lt_size e) e
  exact call_len_set ho hex hd hf (by rw [hn] <;> omega) ⟨.int _, H1, I2.tok _, ⟨_, by rw [hn]⟩, q1⟩
def eLenSet (f : EF) : EF := fun ρ S => (f ρ S).bind fun w S1 => match view S1 w with
  | some d => match lenSetG [d] with
    | some r => .ok (.d r) S1
    | none => .bad
  | none => .bad
theorem de_lenset (hg : Gl X "len") (hm : X.mg "len" = none) (hg2 : Gl X "set") (hm2 : X.mg "set" = none) (hc : X.calm = true) (ha : DE X Wx a f) (na : starEach [a] X.env = (false, eval a X.env) :: starEach [] X.env := by rfl) : DE X Wx (.Call (.Name "len" p) [.Call (.Name "set" p2) [a] [] q] [] pos) (eLenSet f) :=
  PE.conv (pe_lenSetA hg hm hg2 hm2 ha hc na) fun σ H Q ⟨ad, ρ, S, sg, rs, q⟩ => by
    refine ⟨ad, ρ, S, sg, rs, post_mono (post_bind q) ?_⟩
    rintro v H1 ⟨ad1, w, S1, fr1, r1, rs1, q1⟩
    cases ev : view S1 w with
    | none => rw [ev] at q1; exact q1.elim
    | some d =>
      rw [ev] at q1
      dsimp only at q1
      cases el : lenSetG [d] with
      | none => rw [el] at q1; exact q1.elim
      | some r =>
        rw [el] at q1
        cases d with
        | list l0 =>
          unfold lenSetG at el
          dsimp only at el
          cases en : intsD l0 with
          | none => rw [en] at el; cases el
          | some ns =>
            rw [en] at el
            dsimp only at el
            split at el
            · rename_i hz
              cases el
              obtain ⟨a0, vs, rfl, t, rr⟩ := (view_rep r1 rs1 ev).lst
              rw [intsD_of en] at rr
              rw [reps_intsL rr] at t
              exact ⟨a0, ns, rfl, t, hz, q1 _ _ ad1 (Fr.refl _ _) (.int _) rs1⟩
            · cases el
        | _ => cases el
end
end DL

set_option Elab.async false
set_option linter.all false
set_option maxRecDepth 100000
set_option maxHeartbeats 4000000
/-! D33: x = {k: v for ..} (ints as keys). -/
namespace DL
open PySem PySem.Spec PyProof.Rows L2
theorem sw_trueD {kx vx : Expr} {gs : List Comprehension} {scope : Scope} {pos py : Pos} {y : Str} {l : Nat} {env : Env} (hk : env.scope.kind = .function) (hy : env.scope.names.lookup y = some .local) (hl : (py.line == pos.line) = true)
    (ha : (scope.names.any fun (n, k) => n == y && (k == .local || k == .cell)) = false) : swapsWith (.DictComp kx vx gs scope pos) (some (.Name y py)) l env = pure true := by
  have ky : env.kindOf y = some .local := hy
  have hb : env.blockKind = .function := by unfold Env.blockKind; rw [hk]; rfl
  unfold swapsWith
  simp only [hb, ky, ha, Expr.pos, hl]
  rfl
theorem made_ownD {K : PySem.W.Frag} {ad ad1 : List Addr} {H H1 : Hp} {p : Addr} {vs : List (Key × V)} {l : List (PyData × PyData)} {S : Sto} (fr : Fr ad H ad1 H1) (h0 : H p = none) (hp : p ∉ ad1) (e : H1 p = some (.dK vs)) (r : RepKV K H1 vs l) (rs : RS K ad1 H1 S) :
    Fr ad H (ad1 ++ [p]) H1 ∧ RepW K (ad1 ++ [p]) H1 (.ref p) (.own S.length) ∧ RS K (ad1 ++ [p]) H1 (S ++ [.dct l]) := by
  have hl := rs.len
  refine ⟨⟨?_, fr.keep, fun a ha hn => ?_, fr.stb⟩, ⟨p, ?_, rfl⟩, ⟨?_, ?_, fun (k : Nat) (ob : MO) z => ?_⟩⟩
  · obtain ⟨t, e⟩ := fr.ext
    exact ⟨t ++ [p], by rw [e, List.append_assoc]⟩
  · rcases List.mem_append.mp ha with z | z
    · exact fr.new a z hn
    · have : a = p := by simpa using z
      rw [this]; exact h0
  · rw [← hl]; simp
  · simp [hl]
  · rw [List.nodup_append]
    exact ⟨rs.nd, by simp, fun a ha b hb z => by
      have : b = p := by simpa using hb
      subst z this
      exact hp ha⟩
  · by_cases hk : k < S.length
    · rw [List.getElem?_append_left hk] at z
      obtain ⟨a, z1, z2⟩ := rs.ob k ob z
      exact ⟨a, by rw [List.getElem?_append_left (by rw [hl]; exact hk)]; exact z1, z2⟩
    · rw [List.getElem?_append_right (by omega)] at z
      have hk2 : k - S.length = 0 := by
        by_cases hh : k - S.length = 0
        · exact hh
        · rw [List.getElem?_eq_none (by simp; omega)] at z; cases z
      rw [hk2] at z
      simp at z
      subst z
      refine ⟨p, ?_, .inl ⟨vs, e, r⟩⟩
      rw [List.getElem?_append_right (by omega), hl, hk2]; rfl
section
variable {X : Cx}
theorem ps_setDc {i : Nat} {y : Str} {py : Pos} {kx vx tg iter : Expr} {ifs : List Expr} {scope : Scope} {own : List (Str × Nat)} {pos spos : Pos} {wi : TI} {g : TG} {tt : TT} {tk tv : TE} (hc : X.calm = true) (hN : X.N.Nodup) (hy : X.N[i]? = some y) (hyl : X.env.scope.names.lookup y = some .local)
    (hsw : swapsWith (.DictComp kx vx [⟨tg, iter, ifs, 0⟩] scope pos) (some (.Name y py)) spos.line X.env = pure true) (hi : PI X tg iter wi) (ok : BlkOk X.N X.env.scope scope own)
    (hg : ∀ (s : Shared) (H : Hp) (C : Addr) (cl : List (Str × Addr)) (fp : List Addr), PG (X.blk s H scope (compEnvC scope cl C X.env) fp) tg g) (ht : ∀ (s : Shared) (H : Hp) (C : Addr) (cl : List (Str × Addr)) (fp : List Addr), PTs (X.blk s H scope (compEnvC scope cl C X.env) fp) ifs tt)
    (hk : ∀ (s : Shared) (H : Hp) (C : Addr) (cl : List (Str × Addr)) (fp : List Addr), PE (X.blk s H scope (compEnvC scope cl C X.env) fp) kx tk)
    (he : ∀ (s : Shared) (H : Hp) (C : Addr) (cl : List (Str × Addr)) (fp : List Addr), PE (X.blk s H scope (compEnvC scope cl C X.env) fp) vx tv) (hs : ∀ x, foldedSetIterable iter X.env x = pure x := by intro _; rfl) :
    PS X (.Assign [.Name y py] (.DictComp kx vx [⟨tg, iter, ifs, 0⟩] scope pos) spos) (tAsg (tDc wi g tt tk tv (own.map (·.2))) (gName i)) := by
  refine ⟨fun pins s σ H D I h => ?_⟩
  rw [exec_Assign_Name_used _ _ _ _ hsw]
  refine wpAny_bind (wpAny_standAt (wpAny_bind ?_))
  show wpAny _ X.A (do let _ ← comprehension (.DictComp kx vx [⟨tg, iter, ifs, 0⟩] scope pos) scope X.env (firstIterPos [⟨tg, iter, ifs, 0⟩] pos) newDict false (eval iter X.env) (some (assign (.Name y py) X.env))) _ _ s
  have h : tDc wi g tt tk tv (own.map (·.2)) σ H (fun x H1 => gName i x σ H1 D.nx) := h
  refine wpAny_bind (thn (dc_core (Qf := fun _ s' => SP X pins D .next s') hc hN I hi ok hg ht hk he hs h fun L C s' m H' I' q hn f => ?_) fun _ s' hq => wpAny_pure (wpAny_pure hq))
  show wpAny _ _ (assign (.Name y py) X.env (.ref L)) _ _ _
  refine wpAny_assign_Name (store_ok2 (v := V.ref L) I' hN hy (.inl hyl) rfl (fun s2 I2 ⟨a, sb, ha⟩ => ?_) (.inr hyl))
  obtain ⟨f0, f1, f2, f3, f4, f5⟩ := f
  have haC : C ≠ a := by
    rcases ha with z | z
    · rw [z]; exact f1
    · exact fun e => f4 y a z e.symm
  refine ⟨m, hn.sameBut sb haC, fun h3 sb3 => ?_⟩
  exact ⟨_, H', I2.turned (t' := s2.toks) (fun b o hb e => (sb3.2 b hb).trans e) f0 f1 f3 f4 f5, q⟩
end
section
variable {X : Cx} {Wx : WX} {kx vx tg iter : Expr} {ifs : List Expr} {scope : Scope} {own : List (Str × Nat)} {i : IF} {t : GF} {c : BF} {fk fv : EF} {ix : List Nat} {pos spos py : Pos} {y : Str} {j : Nat}
theorem ds_setDcO (hc : X.calm = true) (hN : X.N.Nodup) (hy : X.N[j]? = some y) (hyl : X.env.scope.names.lookup y = some .local) (hsw : swapsWith (.DictComp kx vx [⟨tg, iter, ifs, 0⟩] scope pos) (some (.Name y py)) spos.line X.env = pure true)
    (hi : DI X Wx tg iter i) (ok : BlkOk X.N X.env.scope scope own) (hv : ∀ j ∈ ix, j ∈ own.map (·.2))
    (hg : ∀ (s : Shared) (H : Hp) (C : Addr) (cl : List (Str × Addr)) (fp : List Addr), DG (X.blk s H scope (compEnvC scope cl C X.env) fp) ix tg t) (ht : ∀ (s : Shared) (H : Hp) (C : Addr) (cl : List (Str × Addr)) (fp : List Addr), DTs (X.blk s H scope (compEnvC scope cl C X.env) fp) W0 ifs c)
    (hk : ∀ (s : Shared) (H : Hp) (C : Addr) (cl : List (Str × Addr)) (fp : List Addr), DE (X.blk s H scope (compEnvC scope cl C X.env) fp) W0 kx fk)
    (he : ∀ (s : Shared) (H : Hp) (C : Addr) (cl : List (Str × Addr)) (fp : List Addr), DE (X.blk s H scope (compEnvC scope cl C X.env) fp) W0 vx fv) (hs : ∀ x, foldedSetIterable iter X.env x = pure x := by intro _; rfl) :
    DS X Wx (.Assign [.Name y py] (.DictComp kx vx [⟨tg, iter, ifs, 0⟩] scope pos) spos) (sSet j (eOwnI (pDcI i t c fk fv (own.map (·.2))))) := by
  have p : PS X (.Assign [.Name y py] (.DictComp kx vx [⟨tg, iter, ifs, 0⟩] scope pos) spos) (tAsg (tDc (tDI X.K X.mg Wx i) (tDG X.K ix t) (tDT X.K X.mg W0 c) (tD X.K X.mg W0 fk) (tD X.K X.mg W0 fv) (own.map (·.2))) (gName j)) := ps_setDc hc hN hy hyl hsw hi ok hg ht hk he hs
  refine PS.conv p fun D σ H ⟨ad, ρ, S, sg, rs, q⟩ => ?_
  refine dc_convI (Wx := Wx) hv ⟨ad, ρ, S, sg, rs, ?_⟩
  unfold sSet eOwnI at q
  revert q
  cases pDcI i t c fk fv (own.map (·.2)) ρ S with
  | bad => exact fun z => z
  | exc x S' => exact fun q cls d H' ad' fr xr rs' => q cls d σ H' ad' fr (sg.fr fr) xr rs'
  | ok l S' =>
    rintro q v H1 ad1 fr ⟨p, vs, rfl, h0, hp, e2, r⟩ rs1
    obtain ⟨a1, a2, a3⟩ := made_ownD fr h0 hp e2 r rs1
    exact q _ _ _ a1 ((sg.fr a1).set j a2) a3
end
end DL

set_option Elab.async false
set_option linter.all false
set_option maxRecDepth 100000
set_option maxHeartbeats 4000000
namespace DL
open PySem PySem.Spec PyProof.Rows L2
def top (i : Nat) : Stmt := PySem.Challenge.pw_basketfair_k29_greatest_excess_and_cheap.main.body.getD i (.Pass ⟨0, 0, 0, 0⟩)
theorem boot_abs : bootBuiltins "abs" = some (.builtin "abs") := by decide +kernel
theorem boot_bool : bootBuiltins "bool" = some (.type "bool") := by decide +kernel
theorem boot_enumerate : bootBuiltins "enumerate" = some (.type "enumerate") := by decide +kernel
theorem boot_int : bootBuiltins "int" = some (.type "int") := by decide +kernel
theorem boot_isinstance : bootBuiltins "isinstance" = some (.builtin "isinstance") := by decide +kernel
theorem boot_len : bootBuiltins "len" = some (.builtin "len") := by decide +kernel
theorem boot_list : bootBuiltins "list" = some (.type "list") := by decide +kernel
theorem boot_max : bootBuiltins "max" = some (.builtin "max") := by decide +kernel
theorem boot_min : bootBuiltins "min" = some (.builtin "min") := by decide +kernel
theorem boot_range : bootBuiltins "range" = some (.type "range") := by decide +kernel
theorem boot_set : bootBuiltins "set" = some (.type "set") := by decide +kernel
theorem boot_sorted : bootBuiltins "sorted" = some (.builtin "sorted") := by decide +kernel
theorem boot_str : bootBuiltins "str" = some (.type "str") := by decide +kernel
theorem boot_tuple : bootBuiltins "tuple" = some (.type "tuple") := by decide +kernel
theorem boot_zip : bootBuiltins "zip" = some (.type "zip") := by decide +kernel
def k_MOST_OF_DEAL : PyData := (.int 12)
def lamQ : Str := "law.<locals>.<lambda>"
theorem sc_one_piece : FnScope ["shop", "at", "place"] ["shop", "at"] (defScope (top 5)) := ⟨rfl, rfl, rfl, by decide +kernel, rfl, by decide +kernel, by decide +kernel⟩
noncomputable def b_one_piece : SF := (sRet (eB tupG (lCons (eFz (mLc (iRange1 (lCons (eB lenG (lCons (eBin ixD (eVar 0) (eC (.int 0))) lNil)) lNil)) (gNm 2) bYes (eB intG (lCons (eBin eqD (eVar 2) (eVar 1)) lNil)) [2])) lNil)))
noncomputable def f_one_piece : FD := runDef 3 2 (b_one_piece)
theorem sc_choices_of : FnScope ["shop", "singles", "at", "name", "price"] ["shop"] (defScope (top 6)) := ⟨rfl, rfl, rfl, by decide +kernel, rfl, by decide +kernel, by decide +kernel⟩
noncomputable def b_choices_of : SF := (sSeq (sSet 1 (eFz (mLc (iEnum1 (lCons (eBin ixD (eVar 0) (eC (.int 0))) lNil)) (gTp 2 (gsCons (gNm 2) (gsCons (gTp 2 (gsCons (gNm 3) (gsCons (gNm 4) gsNil))) gsNil))) bYes (eTup (lCons (eCall 2 f_one_piece (lCons (eVar 0) (lCons (eVar 2) lNil))) (lCons (eVar 4) lNil))) [2, 3, 4]))) (sRet (eTup (lStar (eVar 1) (lStar (eBin ixD (eVar 0) (eC (.int 1))) lNil)))))
noncomputable def f_choices_of : FD := runDef 5 1 (b_choices_of)
theorem sc_need_one : FnScope ["shop"] ["shop"] (defScope (top 9)) := ⟨rfl, rfl, rfl, by decide +kernel, rfl, by decide +kernel, by decide +kernel⟩
noncomputable def b_need_one : SF := (sIf (tCmpB neD (eB lenG (lCons (eBin ixD (eVar 0) (eC (.int 0))) lNil)) (eC (.int 1))) (sRaise "Refused" ["why"] (lCons (eC (.str (PySem.Str.ofString "products"))) lNil)) sNil)
noncomputable def f_need_one : FD := runDef 1 1 (b_need_one)
theorem sc_plain_choices : FnScope ["shop", "bundle", "cost"] ["shop"] (defScope (top 10)) := ⟨rfl, rfl, rfl, by decide +kernel, rfl, by decide +kernel, by decide +kernel⟩
noncomputable def b_plain_choices : SF := (sRet (eFz (mLc (iVal (eCall 1 f_choices_of (lCons (eVar 0) lNil))) (gTp 2 (gsCons (gNm 1) (gsCons (gNm 2) gsNil))) bYes (eTup (lCons (eBin ixD (eVar 1) (eC (.int 0))) (lCons (eVar 2) lNil))) [1, 2])))
noncomputable def f_plain_choices : FD := runDef 3 1 (b_plain_choices)
theorem sc_best_rate : FnScope ["shop", "found", "many", "cost", "this", "best"] ["shop"] (defScope (top 11)) := ⟨rfl, rfl, rfl, by decide +kernel, rfl, by decide +kernel, by decide +kernel⟩
noncomputable def b_best_rate : SF := (sSeq (sExpr (eCall 1 f_need_one (lCons (eVar 0) lNil))) (sSeq (sSet 1 (eBin ixD (eCall 1 f_plain_choices (lCons (eVar 0) lNil)) (eC (.int 0)))) (sSeq (sFor (iVal (eCall 1 f_plain_choices (lCons (eVar 0) lNil))) (gTp 2 (gsCons (gNm 2) (gsCons (gNm 3) gsNil))) (sSeq (sPar 4 5 (eBin mulD (eVar 3) (eBin ixD (eVar 1) (eC (.int 0)))) (eBin mulD (eBin ixD (eVar 1) (eC (.int 1))) (eVar 2))) (sIf (tOrB (tCmpB ltD (eVar 4) (eVar 5)) (tAndB (tCmpB eqD (eVar 4) (eVar 5)) (tCmpB ltD (eVar 2) (eBin ixD (eVar 1) (eC (.int 0)))))) (sSet 1 (eTup (lCons (eVar 2) (lCons (eVar 3) lNil)))) sNil))) (sRet (eVar 1)))))
noncomputable def f_best_rate : FD := runDef 6 1 (b_best_rate)
theorem sc_table_of : FnScope ["shop", "many", "found", "number", "few", "cost"] ["shop", "many"] (defScope (top 12)) := ⟨rfl, rfl, rfl, by decide +kernel, rfl, by decide +kernel, by decide +kernel⟩
noncomputable def b_table_of : SF := (sSeq (sSet 2 (eOwn (mLst (lCons (eC (.int 0)) lNil)))) (sSeq (sFor (iRange2 (lCons (eC (.int 1)) (lCons (eBin addD (eVar 1) (eC (.int 1))) lNil))) (gNm 3) (sExpr (eApp (eVar 2) (eFrz (eB minLG (lCons (eFz (mLc (iVal (eCall 1 f_plain_choices (lCons (eVar 0) lNil))) (gTp 2 (gsCons (gNm 4) (gsCons (gNm 5) gsNil))) (tCmpB leD (eVar 4) (eVar 3)) (eBin addD (eBin ixD (eVar 2) (eBin subD (eVar 3) (eVar 4))) (eVar 5)) [4, 5])) lNil)))))) (sRet (eFrz (eVar 2)))))
noncomputable def f_table_of : FD := runDef 6 2 (b_table_of)
theorem sc_calm_from : FnScope ["shop"] ["shop"] (defScope (top 13)) := ⟨rfl, rfl, rfl, by decide +kernel, rfl, by decide +kernel, by decide +kernel⟩
noncomputable def b_calm_from : SF := (sRet (eBin mulD (eC k_MOST_OF_DEAL) (eBin ixD (eCall 1 f_best_rate (lCons (eVar 0) lNil)) (eC (.int 0)))))
noncomputable def f_calm_from : FD := runDef 1 1 (b_calm_from)
theorem sc_many_price : FnScope ["shop", "many", "pieces", "cost", "calm", "turns"] ["shop", "many"] (defScope (top 14)) := ⟨rfl, rfl, rfl, by decide +kernel, rfl, by decide +kernel, by decide +kernel⟩
noncomputable def b_many_price : SF := (sSeq (sAsg (eCall 1 f_best_rate (lCons (eVar 0) lNil)) (gTp 2 (gsCons (gNm 2) (gsCons (gNm 3) gsNil)))) (sSeq (sSet 4 (eCall 1 f_calm_from (lCons (eVar 0) lNil))) (sSeq (sSet 5 (eB maxLG (lCons (eC (.int 0)) (lCons (eBin fdivD (eBin subD (eVar 1) (eVar 4)) (eVar 2)) lNil)))) (sRet (eBin addD (eBin ixD (eCall 2 f_table_of (lCons (eVar 0) (lCons (eBin subD (eVar 1) (eBin mulD (eVar 5) (eVar 2))) lNil))) (eB negG (lCons (eC (.int 1)) lNil))) (eBin mulD (eVar 5) (eVar 3)))))))
noncomputable def f_many_price : FD := runDef 6 2 (b_many_price)
theorem sc_excess : FnScope ["shop", "many", "pieces", "cost"] ["shop", "many"] (defScope (top 15)) := ⟨rfl, rfl, rfl, by decide +kernel, rfl, by decide +kernel, by decide +kernel⟩
noncomputable def b_excess : SF := (sSeq (sAsg (eCall 1 f_best_rate (lCons (eVar 0) lNil)) (gTp 2 (gsCons (gNm 2) (gsCons (gNm 3) gsNil)))) (sRet (eBin subD (eBin mulD (eCall 2 f_many_price (lCons (eVar 0) (lCons (eVar 1) lNil))) (eVar 2)) (eBin mulD (eVar 3) (eVar 1)))))
noncomputable def f_excess : FD := runDef 4 2 (b_excess)
theorem sc_gain_of : FnScope ["told", "calm", "pieces", "period", "gains", "at"] ["told", "calm", "pieces", "period"] (defScope (top 16)) := ⟨rfl, rfl, rfl, by decide +kernel, rfl, by decide +kernel, by decide +kernel⟩
noncomputable def b_gain_of : SF := (sSeq (sSet 4 (eOwnI (pDcI (iRange2 (lCons (eVar 1) (lCons (eBin addD (eVar 1) (eVar 2)) lNil))) (gNm 5) bYes (eBin subD (eBin ixD (eVar 0) (eBin addD (eVar 5) (eVar 3))) (eBin ixD (eVar 0) (eVar 5))) (eC (.bool true)) [5]))) (sRet (eIf (tCmpB eqD (eB lenKG (lCons (eVar 4) lNil)) (eC (.int 1))) (eBin ixD (eFz (mKeys (lCons (eVar 4) lNil))) (eC (.int 0))) (eC .none))))
noncomputable def f_gain_of : FD := runDef 6 4 (b_gain_of)
theorem sc_round_of : FnScope ["shop", "pieces", "cost", "calm", "told", "period", "start", "gain", "one"] ["shop"] (defScope (top 17)) := ⟨rfl, rfl, rfl, by decide +kernel, rfl, by decide +kernel, by decide +kernel⟩
noncomputable def b_round_of : SF := (sSeq (sAsg (eCall 1 f_best_rate (lCons (eVar 0) lNil)) (gTp 2 (gsCons (gNm 1) (gsCons (gNm 2) gsNil)))) (sSeq (sSet 3 (eCall 1 f_calm_from (lCons (eVar 0) lNil))) (sSeq (sSet 4 (eCall 2 f_table_of (lCons (eVar 0) (lCons (eBin addD (eBin addD (eVar 3) (eVar 1)) (eC k_MOST_OF_DEAL)) lNil)))) (sSeq (sSet 5 (eBin ixD (eFz (mLc (iRange2 (lCons (eC (.int 1)) (lCons (eBin addD (eVar 1) (eC (.int 1))) lNil))) (gNm 8) (tCmpB isNotNoneD (eCall 4 f_gain_of (lCons (eVar 4) (lCons (eVar 3) (lCons (eVar 1) (lCons (eVar 8) lNil))))) (eC .none)) (eVar 8) [8])) (eC (.int 0)))) (sSeq (sPar 6 7 (eVar 3) (eCall 4 f_gain_of (lCons (eVar 4) (lCons (eVar 3) (lCons (eVar 1) (lCons (eVar 5) lNil)))))) (sSeq (sWhile (tAndB (tCmpB gtD (eVar 6) (eC (.int 0))) (tCmpB eqD (eBin ixD (eVar 4) (eBin addD (eBin subD (eVar 6) (eC (.int 1))) (eVar 5))) (eBin addD (eBin ixD (eVar 4) (eBin subD (eVar 6) (eC (.int 1)))) (eVar 7)))) (sAug 6 subD (eC (.int 1)))) (sRet (eTup (lCons (eVar 6) (lCons (eVar 5) (lCons (eVar 7) (lCons (eB tupG (lCons (eSl (eVar 4) oNon (oSom (eBin addD (eVar 6) (eVar 5)))) lNil)) lNil))))))))))))
noncomputable def f_round_of : FD := runDef 9 1 (b_round_of)
theorem sc_worst : FnScope ["shop", "pieces", "cost", "found", "many"] ["shop"] (defScope (top 18)) := ⟨rfl, rfl, rfl, by decide +kernel, rfl, by decide +kernel, by decide +kernel⟩
noncomputable def b_worst : SF := (sSeq (sAsg (eCall 1 f_best_rate (lCons (eVar 0) lNil)) (gTp 2 (gsCons (gNm 1) (gsCons (gNm 2) gsNil)))) (sSeq (sSet 3 (eFz (mLc (iRange1 (lCons (eVar 1) lNil)) (gNm 4) bYes (eCall 2 f_excess (lCons (eVar 0) (lCons (eVar 4) lNil))) [4]))) (sRet (eTup (lCons (eIdx (eVar 3) (eB maxLG (lCons (eVar 3) lNil))) (lCons (eB maxLG (lCons (eVar 3) lNil)) lNil))))))
noncomputable def f_worst : FD := runDef 5 1 (b_worst)
theorem sc_even_from : FnScope ["shop", "pieces", "cost", "calm", "told", "left", "start", "many"] ["shop"] (defScope (top 19)) := ⟨rfl, rfl, rfl, by decide +kernel, rfl, by decide +kernel, by decide +kernel⟩
noncomputable def b_even_from : SF := (sSeq (sAsg (eCall 1 f_best_rate (lCons (eVar 0) lNil)) (gTp 2 (gsCons (gNm 1) (gsCons (gNm 2) gsNil)))) (sSeq (sSet 3 (eCall 1 f_calm_from (lCons (eVar 0) lNil))) (sSeq (sSet 4 (eCall 2 f_table_of (lCons (eVar 0) (lCons (eBin addD (eVar 3) (eVar 1)) lNil)))) (sSeq (sSet 5 (eFz (mLc (iRange1 (lCons (eB lenG (lCons (eVar 4) lNil)) lNil)) (gNm 7) bYes (eBin subD (eBin mulD (eBin ixD (eVar 4) (eVar 7)) (eVar 1)) (eBin mulD (eVar 2) (eVar 7))) [7]))) (sSeq (sIf (tCmpB neD (eB maxLG (lCons (eSl (eVar 5) (oSom (eVar 3)) oNon) lNil)) (eB minLG (lCons (eSl (eVar 5) (oSom (eVar 3)) oNon) lNil))) (sRet (eC .none)) sNil) (sSeq (sSet 6 (eVar 3)) (sSeq (sWhile (tAndB (tCmpB gtD (eVar 6) (eC (.int 0))) (tCmpB eqD (eBin ixD (eVar 5) (eBin subD (eVar 6) (eC (.int 1)))) (eBin ixD (eVar 5) (eVar 3)))) (sAug 6 subD (eC (.int 1)))) (sRet (eVar 6)))))))))
noncomputable def f_even_from : FD := runDef 8 1 (b_even_from)
theorem sc_cheaper_more : FnScope ["shop", "start", "period", "gain", "prices", "many"] ["shop"] (defScope (top 20)) := ⟨rfl, rfl, rfl, by decide +kernel, rfl, by decide +kernel, by decide +kernel⟩
noncomputable def b_cheaper_more : SF := (sSeq (sAsg (eCall 1 f_round_of (lCons (eVar 0) lNil)) (gTp 4 (gsCons (gNm 1) (gsCons (gNm 2) (gsCons (gNm 3) (gsCons (gNm 4) gsNil)))))) (sRet (eB tupG (lCons (eFz (mLc (iRange1 (lCons (eBin addD (eVar 1) (eVar 2)) lNil)) (gNm 5) (tCmpB ltD (eCall 2 f_many_price (lCons (eVar 0) (lCons (eBin addD (eVar 5) (eC (.int 1))) lNil))) (eBin ixD (eVar 4) (eVar 5))) (eVar 5) [5])) lNil))))
noncomputable def f_cheaper_more : FD := runDef 6 1 (b_cheaper_more)
theorem sc__law_bag : FnScope ["script", "cell"] ["script"] (defScope (top 22)) := ⟨rfl, rfl, rfl, by decide +kernel, rfl, by decide +kernel, by decide +kernel⟩
noncomputable def b__law_bag : SF := (sRet (eOwn (mLst (lCons (eC (.int 0)) (lCons (eC (.int 1234567891)) (lCons (eC (.int 0)) (lCons (eFz (mLc (iVal (eSl (eVar 0) oNon (oSom (eC (.int 63))))) (gNm 1) bYes (eB absG (lCons (eVar 1) lNil)) [1])) lNil)))))))
noncomputable def f__law_bag : FD := runDef 2 1 (b__law_bag)
theorem sc__law_take : FnScope ["bag", "many", "cell", "stirred", "value", "begin", "second"] ["bag", "many"] (defScope (top 23)) := ⟨rfl, rfl, rfl, by decide +kernel, rfl, by decide +kernel, by decide +kernel⟩
noncomputable def b__law_take : SF := (sSeq (sIf (tCmpB eqD (eBin ixD (eVar 0) (eC (.int 0))) (eC (.int 0))) (sSeq (sSet 2 (eBin ixD (eBin addD (eSl (eBin ixD (eVar 0) (eC (.int 3))) (oSom (eBin ixD (eVar 0) (eC (.int 2)))) oNon) (eFz (mLst (lCons (eC (.int 0)) lNil)))) (eC (.int 0)))) (sSeq (sAugI iaddD (eVar 0) (eC (.int 2)) (eC (.int 1))) (sSeq (sIf (tCmpB geD (eVar 2) (eBin powD (eC (.int 10)) (eC (.int 18)))) (sPut (eVar 0) (eC (.int 0)) (eVar 2)) sNil) (sSeq (sSet 3 (eBin addD (eBin addD (eBin mulD (eBin ixD (eVar 0) (eC (.int 1))) (eC (.int 48271))) (eBin modD (eB intG (lCons (eVar 2) lNil)) (eC (.int 2147483647)))) (eBin mulD (eC (.int 7919)) (eBin ixD (eVar 0) (eC (.int 2)))))) (sPut (eVar 0) (eC (.int 1)) (eBin modD (eB intG (lCons (eVar 3) lNil)) (eC (.int 2147483647)))))))) sNil) (sSeq (sIf (tCmpB gtD (eBin ixD (eVar 0) (eC (.int 0))) (eC (.int 0))) (sSeq (sSet 4 (eBin modD (eB intG (lCons (eBin ixD (eVar 0) (eC (.int 0))) lNil)) (eVar 1))) (sSeq (sPut (eVar 0) (eC (.int 0)) (eBin fdivD (eB intG (lCons (eBin ixD (eVar 0) (eC (.int 0))) lNil)) (eVar 1))) (sRet (eVar 4)))) sNil) (sSeq (sSet 5 (eBin modD (eB intG (lCons (eBin mulD (eBin addD (eBin ixD (eVar 0) (eC (.int 1))) (eC (.int 1))) (eC (.int 39373))) lNil)) (eC (.int 1000000007)))) (sSeq (sSet 6 (eBin modD (eB intG (lCons (eBin mulD (eBin modD (eB intG (lCons (eBin mulD (eVar 5) (eVar 5)) lNil)) (eC (.int 998244353))) (eC (.int 30011))) lNil)) (eC (.int 998244353)))) (sRet (eBin modD (eB intG (lCons (eBin fdivD (eVar 6) (eC (.int 7))) lNil)) (eVar 1)))))))
noncomputable def f__law_take : FD := runDef 7 2 (b__law_take)
theorem sc__law_some : FnScope ["bag", "things"] ["bag", "things"] (defScope (top 24)) := ⟨rfl, rfl, rfl, by decide +kernel, rfl, by decide +kernel, by decide +kernel⟩
noncomputable def b__law_some : SF := (sRet (eBin ixD (eVar 1) (eCall 2 f__law_take (lCons (eVar 0) (lCons (eB lenG (lCons (eVar 1) lNil)) lNil)))))
noncomputable def f__law_some : FD := runDef 2 2 (b__law_some)
theorem sc__law_alike : FnScope ["found", "due", "pairs", "at", "one", "other"] ["found", "due"] (defScope (top 25)) := ⟨rfl, rfl, rfl, by decide +kernel, rfl, by decide +kernel, by decide +kernel⟩
noncomputable def b__law_alike : SF := (sSeq (sPar 2 3 (eOwn (mLst (lCons (eTup (lCons (eVar 0) (lCons (eVar 1) lNil))) lNil))) (eC (.int 0))) (sSeq (sWhile (tCmpB ltD (eVar 3) (eB lenG (lCons (eVar 2) lNil))) (sSeq (sAsg (eBin ixD (eVar 2) (eVar 3)) (gTp 2 (gsCons (gNm 4) (gsCons (gNm 5) gsNil)))) (sSeq (sAug 3 iaddD (eC (.int 1))) (sSeq (sIf (tOrB (tCmpB neD (eIsi ["bool"] (eVar 4)) (eIsi ["bool"] (eVar 5))) (tCmpB neD (eIsi ["str"] (eVar 4)) (eIsi ["str"] (eVar 5)))) (sRet (eC (.bool false))) sNil) (sSeq (sIf (tCmpB neD (eIsi ["tuple", "list"] (eVar 4)) (eIsi ["tuple", "list"] (eVar 5))) (sRet (eC (.bool false))) sNil) (sIf (tTru (eIsi ["tuple", "list"] (eVar 4))) (sSeq (sIf (tOrB (tCmpB neD (eIsi ["tuple"] (eVar 4)) (eIsi ["tuple"] (eVar 5))) (tCmpB neD (eB lenG (lCons (eVar 4) lNil)) (eB lenG (lCons (eVar 5) lNil)))) (sRet (eC (.bool false))) sNil) (sExpr (eExt (eVar 2) (mZip (lCons (eVar 4) (lCons (eVar 5) lNil)))))) (sIf (tCmpB neD (eVar 4) (eVar 5)) (sRet (eC (.bool false))) sNil))))))) (sRet (eC (.bool true)))))
noncomputable def f__law_alike : FD := runDef 6 2 (b__law_alike)
theorem sc__law_piece : FnScope ["many", "at", "place"] ["many", "at"] (defScope (top 26)) := ⟨rfl, rfl, rfl, by decide +kernel, rfl, by decide +kernel, by decide +kernel⟩
noncomputable def b__law_piece : SF := (sRet (eB tupG (lCons (eFz (mLc (iRange1 (lCons (eVar 0) lNil)) (gNm 2) bYes (eB intG (lCons (eBin eqD (eVar 2) (eVar 1)) lNil)) [2])) lNil)))
noncomputable def f__law_piece : FD := runDef 3 2 (b__law_piece)
theorem sc__law_choices : FnScope ["shop", "singles", "at", "name", "price"] ["shop"] (defScope (top 27)) := ⟨rfl, rfl, rfl, by decide +kernel, rfl, by decide +kernel, by decide +kernel⟩
noncomputable def b__law_choices : SF := (sSeq (sSet 1 (eFz (mLc (iEnum1 (lCons (eBin ixD (eVar 0) (eC (.int 0))) lNil)) (gTp 2 (gsCons (gNm 2) (gsCons (gTp 2 (gsCons (gNm 3) (gsCons (gNm 4) gsNil))) gsNil))) bYes (eTup (lCons (eCall 2 f__law_piece (lCons (eB lenG (lCons (eBin ixD (eVar 0) (eC (.int 0))) lNil)) (lCons (eVar 2) lNil))) (lCons (eVar 4) lNil))) [2, 3, 4]))) (sRet (eBin addD (eVar 1) (eFz (mLstOf (lCons (eBin ixD (eVar 0) (eC (.int 1))) lNil))))))
noncomputable def f__law_choices : FD := runDef 5 1 (b__law_choices)
theorem sc__law_one_list : FnScope ["bag", "price", "found", "turn", "many", "bundle"] ["bag"] (defScope (top 28)) := ⟨rfl, rfl, rfl, by decide +kernel, rfl, by decide +kernel, by decide +kernel⟩
noncomputable def b__law_one_list : SF := (sSeq (sPar 1 2 (eCall 2 f__law_some (lCons (eVar 0) (lCons (eFz (mLst (lCons (eC (.int 10)) (lCons (eC (.int 7)) (lCons (eC (.int 100)) (lCons (eC (.int 3)) lNil)))))) lNil))) eDNew) (sSeq (sFor (iRange1 (lCons (eCall 2 f__law_take (lCons (eVar 0) (lCons (eC (.int 6)) lNil))) lNil)) (gNm 3) (sSeq (sSet 4 (eBin addD (eC (.int 2)) (eCall 2 f__law_take (lCons (eVar 0) (lCons (eCall 2 f__law_some (lCons (eVar 0) (lCons (eFz (mLst (lCons (eC (.int 4)) (lCons (eC (.int 11)) (lCons (eC (.int 11)) lNil))))) lNil))) lNil))))) (sDput (eVar 2) (eTup (lCons (eVar 4) lNil)) (eB maxLG (lCons (eC (.int 0)) (lCons (eBin subD (eBin mulD (eVar 4) (eVar 1)) (eCall 2 f__law_some (lCons (eVar 0) (lCons (eFz (mLst (lCons (eC (.int 0)) (lCons (eC (.int 1)) (lCons (eC (.int 2)) (lCons (eVar 1) (lCons (eVar 4) (lCons (eBin mulD (eVar 4) (eVar 1)) (lCons (eB negG (lCons (eC (.int 1)) lNil)) (lCons (eBin mulD (eVar 1) (eC (.int 2))) lNil)))))))))) lNil)))) lNil)))))) (sRet (eTup (lCons (eTup (lCons (eTup (lCons (eC (.str (PySem.Str.ofString "bun"))) (lCons (eVar 1) lNil))) lNil)) (lCons (eB tupG (lCons (eFz (mLc (iVal (eB srtG (lCons (eVar 2) lNil))) (gNm 5) bYes (eTup (lCons (eVar 5) (lCons (eBin ixD (eVar 2) (eVar 5)) lNil))) [5])) lNil)) lNil))))))
noncomputable def f__law_one_list : FD := runDef 6 1 (b__law_one_list)
theorem sc__law_table : FnScope ["shop", "most", "choices", "found", "many", "bundle", "price", "few"] ["shop", "most"] (defScope (top 29)) := ⟨rfl, rfl, rfl, by decide +kernel, rfl, by decide +kernel, by decide +kernel⟩
noncomputable def b__law_table : SF := (sSeq (sPar 2 3 (eFz (mLc (iVal (eCall 1 f__law_choices (lCons (eVar 0) lNil))) (gTp 2 (gsCons (gNm 5) (gsCons (gNm 6) gsNil))) bYes (eTup (lCons (eBin ixD (eVar 5) (eC (.int 0))) (lCons (eVar 6) lNil))) [5, 6])) (eOwn (mLst (lCons (eC (.int 0)) lNil)))) (sSeq (sFor (iRange2 (lCons (eC (.int 1)) (lCons (eBin addD (eVar 1) (eC (.int 1))) lNil))) (gNm 4) (sExpr (eApp (eVar 3) (eFrz (eB minLG (lCons (eFz (mLc (iVal (eVar 2)) (gTp 2 (gsCons (gNm 7) (gsCons (gNm 6) gsNil))) (tCmpB leD (eVar 7) (eVar 4)) (eBin addD (eBin ixD (eVar 3) (eBin subD (eVar 4) (eVar 7))) (eVar 6)) [7, 6])) lNil)))))) (sRet (eFrz (eVar 3)))))
noncomputable def f__law_table : FD := runDef 8 2 (b__law_table)
theorem sc__law_best : FnScope ["shop", "found", "many", "price"] ["shop"] (defScope (top 30)) := ⟨rfl, rfl, rfl, by decide +kernel, rfl, by decide +kernel, by decide +kernel⟩
noncomputable def b__law_best : SF := (sSeq (sSet 1 (eTup (lCons (eC (.int 1)) (lCons (eBin ixD (eBin ixD (eBin ixD (eVar 0) (eC (.int 0))) (eC (.int 0))) (eC (.int 1))) lNil)))) (sSeq (sFor (iVal (eCall 1 f__law_choices (lCons (eVar 0) lNil))) (gTp 2 (gsCons (gTp 1 (gsCons (gNm 2) gsNil)) (gsCons (gNm 3) gsNil))) (sIf (tOrB (tCmpB ltD (eBin mulD (eVar 3) (eBin ixD (eVar 1) (eC (.int 0)))) (eBin mulD (eBin ixD (eVar 1) (eC (.int 1))) (eVar 2))) (tAndB (tCmpB eqD (eBin mulD (eVar 3) (eBin ixD (eVar 1) (eC (.int 0)))) (eBin mulD (eBin ixD (eVar 1) (eC (.int 1))) (eVar 2))) (tCmpB ltD (eVar 2) (eBin ixD (eVar 1) (eC (.int 0)))))) (sSet 1 (eTup (lCons (eVar 2) (lCons (eVar 3) lNil)))) sNil)) (sRet (eVar 1))))
noncomputable def f__law_best : FD := runDef 4 1 (b__law_best)
theorem sc__law_even : FnScope ["left", "found"] ["left"] (defScope (top 32)) := ⟨rfl, rfl, rfl, by decide +kernel, rfl, by decide +kernel, by decide +kernel⟩
noncomputable def b__law_even : SF := (sSeq (sIf (tCmpB neD (eLenSet (eSl (eVar 0) (oSom (eC (.int 300))) oNon)) (eC (.int 1))) (sRet (eC .none)) sNil) (sSeq (sSet 1 (eC (.int 400))) (sSeq (sWhile (tAndB (tCmpB gtD (eVar 1) (eC (.int 0))) (tCmpB eqD (eBin ixD (eVar 0) (eBin subD (eVar 1) (eC (.int 1)))) (eBin ixD (eVar 0) (eC (.int 400))))) (sAug 1 subD (eC (.int 1)))) (sRet (eVar 1)))))
noncomputable def f__law_even : FD := runDef 2 1 (b__law_even)
theorem sc_law : FnScope ["script", "bag", "turn", "shop", "told", "pieces", "price", "left", "start", "period", "gain", "prices", "falls", "due", "many"] ["script"] (defScope (top 33)) := ⟨rfl, rfl, rfl, by decide +kernel, rfl, by decide +kernel, by decide +kernel⟩
noncomputable def b_law : SF := (sSeq (sSet 1 (eCall 1 f__law_bag (lCons (eVar 0) lNil))) (sSeq (sFor (iRange1 (lCons (eC (.int 6)) lNil)) (gNm 2) (sSeq (sSet 3 (eIf (tCmpB gtD (eVar 2) (eC (.int 0))) (eCall 1 f__law_one_list (lCons (eVar 1) lNil)) (eTup (lCons (eTup (lCons (eTup (lCons (eC (.str (PySem.Str.ofString "bun"))) (lCons (eBin addD (eC (.int 1)) (eCall 2 f__law_take (lCons (eVar 1) (lCons (eC (.int 9)) lNil)))) lNil))) lNil)) (lCons (eTup lNil) lNil))))) (sSeq (sAsg (eTup (lCons (eCall 2 f__law_table (lCons (eVar 3) (lCons (eC (.int 420)) lNil))) (lCons (eCall 1 f__law_best (lCons (eVar 3) lNil)) lNil))) (gTp 2 (gsCons (gNm 4) (gsCons (gTp 2 (gsCons (gNm 5) (gsCons (gNm 6) gsNil))) gsNil)))) (sSeq (sSet 7 (eFz (mLc (iRange1 (lCons (eC (.int 421)) lNil)) (gNm 14) bYes (eBin subD (eBin mulD (eBin ixD (eVar 4) (eVar 14)) (eVar 5)) (eBin mulD (eVar 6) (eVar 14))) [14]))) (sSeq (sAsg (eCall 1 f_round_of (lCons (eVar 3) lNil)) (gTp 4 (gsCons (gNm 8) (gsCons (gNm 9) (gsCons (gNm 10) (gsCons (gNm 11) gsNil)))))) (sSeq (sSet 12 (eFz (mLc (iRange1 (lCons (eC (.int 420)) lNil)) (gNm 14) (tCmpB ltD (eBin ixD (eVar 4) (eBin addD (eVar 14) (eC (.int 1)))) (eBin ixD (eVar 4) (eVar 14))) (eVar 14) [14]))) (sSeq (sSet 13 (eFz (mLst (lCons (eTup (lCons (eIdx (eVar 7) (eB maxLG (lCons (eVar 7) lNil))) (lCons (eB maxLG (lCons (eVar 7) lNil)) lNil))) (lCons (eCall 1 f__law_even (lCons (eVar 7) lNil)) (lCons (eB tupG (lCons (eFz (mLc (iVal (eVar 12)) (gNm 14) (tCmpB ltD (eVar 14) (eBin addD (eVar 8) (eVar 9))) (eVar 14) [14])) lNil)) lNil)))))) (sSeq (sIf (tNotB (tTru (eCall 2 f__law_alike (lCons (eFz (mLst (lCons (eCall 1 f_worst (lCons (eVar 3) lNil)) (lCons (eCall 1 f_even_from (lCons (eVar 3) lNil)) (lCons (eCall 1 f_cheaper_more (lCons (eVar 3) lNil)) lNil))))) (lCons (eVar 13) lNil))))) (sRet (eC (.bool false))) sNil) (sIf (tCmpB neD (eFz (mLc (iRange2 (lCons (eVar 8) (lCons (eC (.int 380)) lNil))) (gNm 14) (tCmpB neD (eBin inDD (eVar 14) (eVar 12)) (eBin inDD (eBin addD (eVar 14) (eVar 9)) (eVar 12))) (eVar 14) [14])) (eFz (mLst lNil))) (sRet (eC (.bool false))) sNil))))))))) (sRet (eC (.bool true)))))
noncomputable def f_law : FD := runDef 15 1 (b_law)
structure Txt (P : Program) (w : World) (K : PySem.W.Frag) (mg : Str → Option Value) : Prop where
  b_abs : mg "abs" = none
  b_bool : mg "bool" = none
  b_enumerate : mg "enumerate" = none
  b_int : mg "int" = none
  b_isinstance : mg "isinstance" = none
  b_len : mg "len" = none
  b_list : mg "list" = none
  b_max : mg "max" = none
  b_min : mg "min" = none
  b_range : mg "range" = none
  b_set : mg "set" = none
  b_sorted : mg "sorted" = none
  b_str : mg "str" = none
  b_tuple : mg "tuple" = none
  b_zip : mg "zip" = none
  g_MOST_OF_DEAL : Gv K mg "MOST_OF_DEAL" k_MOST_OF_DEAL
section
variable {P : Program} {w : World} {K : PySem.W.Frag} {mg : Str → Option Value} {base : Heap}
theorem fn_one_piece (T : Txt P w K mg)  {f : Addr} {fd : FuncData} (F : Fun K "one_piece" "one_piece" (top 5) f fd) (hm : mg "one_piece" = some (.ref f)) (hb : Binds K fd ["shop", "at"] []) : Fn P w K mg base 1 "one_piece" 2 f_one_piece :=
  Fn.mk' F sc_one_piece hm hb fun cdv A outer s H E hr => by
    have hu : (A.deeper (envOfC "one_piece" (defScope (top 5)) s.heap.objs.size f cdv)).units + 64 < cLine := hr.units
    have tk : Takes (cxOf (L2.CX P w) P w K mg base ["shop", "at", "place"] "one_piece" (defScope (top 5)) f cdv A outer s H E) (fun cls d _ H => E cls d H) := takes_of rfl rfl rfl rfl
    exact (ds_one (ds_ret (de_bty cp_tup rfl T.b_tuple boot_tuple (da_cons (de_fz (dm_lc rfl sc_one_piece.nd (di_range1 rfl T.b_range (da_cons (de_blt cp_len rfl T.b_len boot_len (da_cons (de_ix hu (de_var (pv 0)) de_int) da_nil)) da_nil)) (own := [("place", 2)]) (blkOk_by (by kernel_rfl)) (by decide) (fun _ _ _ _ _ => (dg_name (pg_name sc_one_piece.nd (i := 2) rfl (by first | exact .inl rfl | exact .inr rfl)))) (fun _ _ _ _ _ => dts_nil) (fun _ _ _ _ _ => (de_bty cp_int rfl T.b_int boot_int (da_cons (de_cmp (op_eqDD hu) (de_var (pv 2)) (de_var (pv 1))) da_nil))))) da_nil))))
theorem fn_choices_of (T : Txt P w K mg) (F_one_piece : Fn P w K mg base 1 "one_piece" 2 f_one_piece) {f : Addr} {fd : FuncData} (F : Fun K "choices_of" "choices_of" (top 6) f fd) (hm : mg "choices_of" = some (.ref f)) (hb : Binds K fd ["shop"] []) : Fn P w K mg base 2 "choices_of" 1 f_choices_of :=
  Fn.mk' F sc_choices_of hm hb fun cdv A outer s H E hr => by
    have hu : (A.deeper (envOfC "choices_of" (defScope (top 6)) s.heap.objs.size f cdv)).units + 64 < cLine := hr.units
    have tk : Takes (cxOf (L2.CX P w) P w K mg base ["shop", "singles", "at", "name", "price"] "choices_of" (defScope (top 6)) f cdv A outer s H E) (fun cls d _ H => E cls d H) := takes_of rfl rfl rfl rfl
    exact (ds_cons (ds_setLc (j := 1) rfl sc_choices_of.nd rfl rfl (sw_true rfl rfl rfl (by kernel_rfl)) (di_enum rfl T.b_enumerate (da_cons (de_ix hu (de_var (pv 0)) de_int) da_nil)) (own := [("at", 2), ("name", 3), ("price", 4)]) (blkOk_by (by kernel_rfl)) (by decide) (fun _ _ _ _ _ => (dg_tup rfl (dgs_cons (dg_name (pg_name sc_choices_of.nd (i := 2) rfl (by first | exact .inl rfl | exact .inr rfl))) (dgs_cons (dg_tup rfl (dgs_cons (dg_name (pg_name sc_choices_of.nd (i := 3) rfl (by first | exact .inl rfl | exact .inr rfl))) (dgs_cons (dg_name (pg_name sc_choices_of.nd (i := 4) rfl (by first | exact .inl rfl | exact .inr rfl))) dgs_nil))) dgs_nil)))) (fun _ _ _ _ _ => dts_nil) (fun _ _ _ _ _ => (de_tup (da_cons (de_call (F_one_piece.mono (by decide : 1 ≤ 1)) hr takes0 rfl (da_cons (de_var (pv 0)) (da_cons (de_var (pv 2)) da_nil))) (da_cons (de_var (pv 4)) da_nil))))) (ds_one (ds_ret (de_tup (da_star (de_var (pv 1)) (da_star (de_ix hu (de_var (pv 0)) de_int) da_nil))))))
theorem fn_need_one (T : Txt P w K mg) (E_Refused : Er P w K mg base 1 "Refused" ["why"]) {f : Addr} {fd : FuncData} (F : Fun K "need_one" "need_one" (top 9) f fd) (hm : mg "need_one" = some (.ref f)) (hb : Binds K fd ["shop"] []) : Fn P w K mg base 3 "need_one" 1 f_need_one :=
  Fn.mk' F sc_need_one hm hb fun cdv A outer s H E hr => by
    have hu : (A.deeper (envOfC "need_one" (defScope (top 9)) s.heap.objs.size f cdv)).units + 64 < cLine := hr.units
    have tk : Takes (cxOf (L2.CX P w) P w K mg base ["shop"] "need_one" (defScope (top 9)) f cdv A outer s H E) (fun cls d _ H => E cls d H) := takes_of rfl rfl rfl rfl
    exact (ds_one (ds_if (dt_cmp (op_neDD hu) (de_blt cp_len rfl T.b_len boot_len (da_cons (de_ix hu (de_var (pv 0)) de_int) da_nil)) de_int) (ds_one (ds_raise (E_Refused.mono (by decide : 1 ≤ 1)) rfl tk hr rfl (da_cons de_str da_nil))) ds_nil))
theorem fn_plain_choices (T : Txt P w K mg) (F_choices_of : Fn P w K mg base 2 "choices_of" 1 f_choices_of) {f : Addr} {fd : FuncData} (F : Fun K "plain_choices" "plain_choices" (top 10) f fd) (hm : mg "plain_choices" = some (.ref f)) (hb : Binds K fd ["shop"] []) : Fn P w K mg base 3 "plain_choices" 1 f_plain_choices :=
  Fn.mk' F sc_plain_choices hm hb fun cdv A outer s H E hr => by
    have hu : (A.deeper (envOfC "plain_choices" (defScope (top 10)) s.heap.objs.size f cdv)).units + 64 < cLine := hr.units
    have tk : Takes (cxOf (L2.CX P w) P w K mg base ["shop", "bundle", "cost"] "plain_choices" (defScope (top 10)) f cdv A outer s H E) (fun cls d _ H => E cls d H) := takes_of rfl rfl rfl rfl
    exact (ds_one (ds_ret (de_fz (dm_lc rfl sc_plain_choices.nd (di_val (de_call (F_choices_of.mono (by decide : 2 ≤ 2)) hr tk rfl (da_cons (de_var (pv 0)) da_nil))) (own := [("bundle", 1), ("cost", 2)]) (blkOk_by (by kernel_rfl)) (by decide) (fun _ _ _ _ _ => (dg_tup rfl (dgs_cons (dg_name (pg_name sc_plain_choices.nd (i := 1) rfl (by first | exact .inl rfl | exact .inr rfl))) (dgs_cons (dg_name (pg_name sc_plain_choices.nd (i := 2) rfl (by first | exact .inl rfl | exact .inr rfl))) dgs_nil)))) (fun _ _ _ _ _ => dts_nil) (fun _ _ _ _ _ => (de_tup (da_cons (de_ix hu (de_var (pv 1)) de_int) (da_cons (de_var (pv 2)) da_nil))))))))
theorem fn_best_rate (T : Txt P w K mg) (F_need_one : Fn P w K mg base 3 "need_one" 1 f_need_one) (F_plain_choices : Fn P w K mg base 3 "plain_choices" 1 f_plain_choices) {f : Addr} {fd : FuncData} (F : Fun K "best_rate" "best_rate" (top 11) f fd) (hm : mg "best_rate" = some (.ref f)) (hb : Binds K fd ["shop"] []) : Fn P w K mg base 4 "best_rate" 1 f_best_rate :=
  Fn.mk' F sc_best_rate hm hb fun cdv A outer s H E hr => by
    have hu : (A.deeper (envOfC "best_rate" (defScope (top 11)) s.heap.objs.size f cdv)).units + 64 < cLine := hr.units
    have tk : Takes (cxOf (L2.CX P w) P w K mg base ["shop", "found", "many", "cost", "this", "best"] "best_rate" (defScope (top 11)) f cdv A outer s H E) (fun cls d _ H => E cls d H) := takes_of rfl rfl rfl rfl
    exact (ds_cons (ds_expr (de_call (F_need_one.mono (by decide : 3 ≤ 3)) hr tk rfl (da_cons (de_var (pv 0)) da_nil))) (ds_cons (ds_set sc_best_rate.nd (i := 1) rfl (by first | exact .inl rfl | exact .inr rfl) (de_ix hu (de_call (F_plain_choices.mono (by decide : 3 ≤ 3)) hr tk rfl (da_cons (de_var (pv 0)) da_nil)) de_int)) (ds_cons (ds_for (passes_of rfl) rfl (di_val (de_call (F_plain_choices.mono (by decide : 3 ≤ 3)) hr tk rfl (da_cons (de_var (pv 0)) da_nil))) (dg_tup rfl (dgs_cons (dg_name (pg_name sc_best_rate.nd (i := 2) rfl (by first | exact .inl rfl | exact .inr rfl))) (dgs_cons (dg_name (pg_name sc_best_rate.nd (i := 3) rfl (by first | exact .inl rfl | exact .inr rfl))) dgs_nil))) (ds_cons (ds_par (i := 4) (j := 5) rfl sc_best_rate.nd rfl rfl (by decide) rfl rfl (de_bin op_mulD (de_var (pv 3)) (de_ix hu (de_var (pv 1)) de_int)) (de_bin op_mulD (de_ix hu (de_var (pv 1)) de_int) (de_var (pv 2)))) (ds_one (ds_if (PW.pt (dw_or (dt_cmp op_ltD (de_var (pv 4)) (de_var (pv 5))) (dw_or1 (PW.pt (dw_and (dt_cmp (op_eqDD hu) (de_var (pv 4)) (de_var (pv 5))) (dw_and1 (dt_cmp op_ltD (de_var (pv 2)) (de_ix hu (de_var (pv 1)) de_int)))))))) (ds_one (ds_set sc_best_rate.nd (i := 1) rfl (by first | exact .inl rfl | exact .inr rfl) (de_tup (da_cons (de_var (pv 2)) (da_cons (de_var (pv 3)) da_nil))))) ds_nil)))) (ds_one (ds_ret (de_var (pv 1)))))))
theorem fn_table_of (T : Txt P w K mg) (F_plain_choices : Fn P w K mg base 3 "plain_choices" 1 f_plain_choices) {f : Addr} {fd : FuncData} (F : Fun K "table_of" "table_of" (top 12) f fd) (hm : mg "table_of" = some (.ref f)) (hb : Binds K fd ["shop", "many"] []) : Fn P w K mg base 4 "table_of" 2 f_table_of :=
  Fn.mk' F sc_table_of hm hb fun cdv A outer s H E hr => by
    have hu : (A.deeper (envOfC "table_of" (defScope (top 12)) s.heap.objs.size f cdv)).units + 64 < cLine := hr.units
    have tk : Takes (cxOf (L2.CX P w) P w K mg base ["shop", "many", "found", "number", "few", "cost"] "table_of" (defScope (top 12)) f cdv A outer s H E) (fun cls d _ H => E cls d H) := takes_of rfl rfl rfl rfl
    exact (ds_cons (ds_set sc_table_of.nd (i := 2) rfl (by first | exact .inl rfl | exact .inr rfl) (de_own (dm_lst (da_cons de_int da_nil)))) (ds_cons (ds_for (passes_of rfl) rfl (di_range2 rfl T.b_range (da_cons de_int (da_cons (de_bin op_addD (de_var (pv 1)) de_int) da_nil))) (dg_name (pg_name sc_table_of.nd (i := 3) rfl (by first | exact .inl rfl | exact .inr rfl))) (ds_one (ds_expr (de_append (de_var (pv 2)) (de_blt (cp_minL rfl) rfl T.b_min boot_min (da_cons (de_fz (dm_lc rfl sc_table_of.nd (di_val (de_call (F_plain_choices.mono (by decide : 3 ≤ 3)) hr tk rfl (da_cons (de_var (pv 0)) da_nil))) (own := [("few", 4), ("cost", 5)]) (blkOk_by (by kernel_rfl)) (by decide) (fun _ _ _ _ _ => (dg_tup rfl (dgs_cons (dg_name (pg_name sc_table_of.nd (i := 4) rfl (by first | exact .inl rfl | exact .inr rfl))) (dgs_cons (dg_name (pg_name sc_table_of.nd (i := 5) rfl (by first | exact .inl rfl | exact .inr rfl))) dgs_nil)))) (fun _ _ _ _ _ => (dts_one (dt_cmp op_leD (de_var (pv 4)) (de_var (pv 3))))) (fun _ _ _ _ _ => (de_bin op_addD (de_ix hu (de_var (pv 2)) (de_bin op_subD (de_var (pv 3)) (de_var (pv 4)))) (de_var (pv 5)))))) da_nil)))))) (ds_one (ds_ret (de_frz (de_var (pv 2)))))))
theorem fn_calm_from (T : Txt P w K mg) (F_best_rate : Fn P w K mg base 4 "best_rate" 1 f_best_rate) {f : Addr} {fd : FuncData} (F : Fun K "calm_from" "calm_from" (top 13) f fd) (hm : mg "calm_from" = some (.ref f)) (hb : Binds K fd ["shop"] []) : Fn P w K mg base 5 "calm_from" 1 f_calm_from :=
  Fn.mk' F sc_calm_from hm hb fun cdv A outer s H E hr => by
    have hu : (A.deeper (envOfC "calm_from" (defScope (top 13)) s.heap.objs.size f cdv)).units + 64 < cLine := hr.units
    have tk : Takes (cxOf (L2.CX P w) P w K mg base ["shop"] "calm_from" (defScope (top 13)) f cdv A outer s H E) (fun cls d _ H => E cls d H) := takes_of rfl rfl rfl rfl
    exact (ds_one (ds_ret (de_bin op_mulD (de_glob T.g_MOST_OF_DEAL rfl) (de_ix hu (de_call (F_best_rate.mono (by decide : 4 ≤ 4)) hr tk rfl (da_cons (de_var (pv 0)) da_nil)) de_int))))
theorem fn_many_price (T : Txt P w K mg) (F_best_rate : Fn P w K mg base 4 "best_rate" 1 f_best_rate) (F_calm_from : Fn P w K mg base 5 "calm_from" 1 f_calm_from) (F_table_of : Fn P w K mg base 4 "table_of" 2 f_table_of) {f : Addr} {fd : FuncData} (F : Fun K "many_price" "many_price" (top 14) f fd) (hm : mg "many_price" = some (.ref f)) (hb : Binds K fd ["shop", "many"] []) : Fn P w K mg base 6 "many_price" 2 f_many_price :=
  Fn.mk' F sc_many_price hm hb fun cdv A outer s H E hr => by
    have hu : (A.deeper (envOfC "many_price" (defScope (top 14)) s.heap.objs.size f cdv)).units + 64 < cLine := hr.units
    have tk : Takes (cxOf (L2.CX P w) P w K mg base ["shop", "many", "pieces", "cost", "calm", "turns"] "many_price" (defScope (top 14)) f cdv A outer s H E) (fun cls d _ H => E cls d H) := takes_of rfl rfl rfl rfl
    exact (ds_cons (ds_asg (de_call (F_best_rate.mono (by decide : 4 ≤ 5)) hr tk rfl (da_cons (de_var (pv 0)) da_nil)) (dg_tup rfl (dgs_cons (dg_name (pg_name sc_many_price.nd (i := 2) rfl (by first | exact .inl rfl | exact .inr rfl))) (dgs_cons (dg_name (pg_name sc_many_price.nd (i := 3) rfl (by first | exact .inl rfl | exact .inr rfl))) dgs_nil)))) (ds_cons (ds_set sc_many_price.nd (i := 4) rfl (by first | exact .inl rfl | exact .inr rfl) (de_call (F_calm_from.mono (by decide : 5 ≤ 5)) hr tk rfl (da_cons (de_var (pv 0)) da_nil))) (ds_cons (ds_set sc_many_price.nd (i := 5) rfl (by first | exact .inl rfl | exact .inr rfl) (de_blt (cp_maxL rfl) rfl T.b_max boot_max (da_cons de_int (da_cons (de_bin op_fdivD (de_bin op_subD (de_var (pv 1)) (de_var (pv 4))) (de_var (pv 2))) da_nil)))) (ds_one (ds_ret (de_bin op_addD (de_ix hu (de_call (F_table_of.mono (by decide : 4 ≤ 5)) hr tk rfl (da_cons (de_var (pv 0)) (da_cons (de_bin op_subD (de_var (pv 1)) (de_bin op_mulD (de_var (pv 5)) (de_var (pv 2)))) da_nil))) (un_negD de_int)) (de_bin op_mulD (de_var (pv 5)) (de_var (pv 3)))))))))
theorem fn_excess (T : Txt P w K mg) (F_best_rate : Fn P w K mg base 4 "best_rate" 1 f_best_rate) (F_many_price : Fn P w K mg base 6 "many_price" 2 f_many_price) {f : Addr} {fd : FuncData} (F : Fun K "excess" "excess" (top 15) f fd) (hm : mg "excess" = some (.ref f)) (hb : Binds K fd ["shop", "many"] []) : Fn P w K mg base 7 "excess" 2 f_excess :=
  Fn.mk' F sc_excess hm hb fun cdv A outer s H E hr => by
    have hu : (A.deeper (envOfC "excess" (defScope (top 15)) s.heap.objs.size f cdv)).units + 64 < cLine := hr.units
    have tk : Takes (cxOf (L2.CX P w) P w K mg base ["shop", "many", "pieces", "cost"] "excess" (defScope (top 15)) f cdv A outer s H E) (fun cls d _ H => E cls d H) := takes_of rfl rfl rfl rfl
    exact (ds_cons (ds_asg (de_call (F_best_rate.mono (by decide : 4 ≤ 6)) hr tk rfl (da_cons (de_var (pv 0)) da_nil)) (dg_tup rfl (dgs_cons (dg_name (pg_name sc_excess.nd (i := 2) rfl (by first | exact .inl rfl | exact .inr rfl))) (dgs_cons (dg_name (pg_name sc_excess.nd (i := 3) rfl (by first | exact .inl rfl | exact .inr rfl))) dgs_nil)))) (ds_one (ds_ret (de_bin op_subD (de_bin op_mulD (de_call (F_many_price.mono (by decide : 6 ≤ 6)) hr tk rfl (da_cons (de_var (pv 0)) (da_cons (de_var (pv 1)) da_nil))) (de_var (pv 2))) (de_bin op_mulD (de_var (pv 3)) (de_var (pv 1)))))))
theorem fn_gain_of (T : Txt P w K mg)  {f : Addr} {fd : FuncData} (F : Fun K "gain_of" "gain_of" (top 16) f fd) (hm : mg "gain_of" = some (.ref f)) (hb : Binds K fd ["told", "calm", "pieces", "period"] []) : Fn P w K mg base 1 "gain_of" 4 f_gain_of :=
  Fn.mk' F sc_gain_of hm hb fun cdv A outer s H E hr => by
    have hu : (A.deeper (envOfC "gain_of" (defScope (top 16)) s.heap.objs.size f cdv)).units + 64 < cLine := hr.units
    have tk : Takes (cxOf (L2.CX P w) P w K mg base ["told", "calm", "pieces", "period", "gains", "at"] "gain_of" (defScope (top 16)) f cdv A outer s H E) (fun cls d _ H => E cls d H) := takes_of rfl rfl rfl rfl
    exact (ds_cons (ds_setDcO (j := 4) rfl sc_gain_of.nd rfl rfl (sw_trueD rfl rfl rfl (by kernel_rfl)) (di_range2 rfl T.b_range (da_cons (de_var (pv 1)) (da_cons (de_bin op_addD (de_var (pv 1)) (de_var (pv 2))) da_nil))) (own := [("at", 5)]) (blkOk_by (by kernel_rfl)) (by decide) (fun _ _ _ _ _ => (dg_name (pg_name sc_gain_of.nd (i := 5) rfl (by first | exact .inl rfl | exact .inr rfl)))) (fun _ _ _ _ _ => dts_nil) (fun _ _ _ _ _ => (de_bin op_subD (de_ix hu (de_var (pv 0)) (de_bin op_addD (de_var (pv 5)) (de_var (pv 3)))) (de_ix hu (de_var (pv 0)) (de_var (pv 5))))) (fun _ _ _ _ _ => de_bl)) (ds_one (ds_ret (de_if (dt_cmp (op_eqDD hu) (de_blt cp_lenK rfl T.b_len boot_len (da_cons (de_var (pv 4)) da_nil)) de_int) (de_ix hu (de_fz (dm_keys rfl rfl T.b_list (da_cons (de_var (pv 4)) da_nil))) de_int) de_non))))
theorem fn_round_of (T : Txt P w K mg) (F_best_rate : Fn P w K mg base 4 "best_rate" 1 f_best_rate) (F_calm_from : Fn P w K mg base 5 "calm_from" 1 f_calm_from) (F_gain_of : Fn P w K mg base 1 "gain_of" 4 f_gain_of) (F_table_of : Fn P w K mg base 4 "table_of" 2 f_table_of) {f : Addr} {fd : FuncData} (F : Fun K "round_of" "round_of" (top 17) f fd) (hm : mg "round_of" = some (.ref f)) (hb : Binds K fd ["shop"] []) : Fn P w K mg base 6 "round_of" 1 f_round_of :=
  Fn.mk' F sc_round_of hm hb fun cdv A outer s H E hr => by
    have hu : (A.deeper (envOfC "round_of" (defScope (top 17)) s.heap.objs.size f cdv)).units + 64 < cLine := hr.units
    have tk : Takes (cxOf (L2.CX P w) P w K mg base ["shop", "pieces", "cost", "calm", "told", "period", "start", "gain", "one"] "round_of" (defScope (top 17)) f cdv A outer s H E) (fun cls d _ H => E cls d H) := takes_of rfl rfl rfl rfl
    exact (ds_cons (ds_asg (de_call (F_best_rate.mono (by decide : 4 ≤ 5)) hr tk rfl (da_cons (de_var (pv 0)) da_nil)) (dg_tup rfl (dgs_cons (dg_name (pg_name sc_round_of.nd (i := 1) rfl (by first | exact .inl rfl | exact .inr rfl))) (dgs_cons (dg_name (pg_name sc_round_of.nd (i := 2) rfl (by first | exact .inl rfl | exact .inr rfl))) dgs_nil)))) (ds_cons (ds_set sc_round_of.nd (i := 3) rfl (by first | exact .inl rfl | exact .inr rfl) (de_call (F_calm_from.mono (by decide : 5 ≤ 5)) hr tk rfl (da_cons (de_var (pv 0)) da_nil))) (ds_cons (ds_set sc_round_of.nd (i := 4) rfl (by first | exact .inl rfl | exact .inr rfl) (de_call (F_table_of.mono (by decide : 4 ≤ 5)) hr tk rfl (da_cons (de_var (pv 0)) (da_cons (de_bin op_addD (de_bin op_addD (de_var (pv 3)) (de_var (pv 1))) (de_glob T.g_MOST_OF_DEAL rfl)) da_nil)))) (ds_cons (ds_set sc_round_of.nd (i := 5) rfl (by first | exact .inl rfl | exact .inr rfl) (de_ix hu (de_fz (dm_lc rfl sc_round_of.nd (di_range2 rfl T.b_range (da_cons de_int (da_cons (de_bin op_addD (de_var (pv 1)) de_int) da_nil))) (own := [("one", 8)]) (blkOk_by (by kernel_rfl)) (by decide) (fun _ _ _ _ _ => (dg_name (pg_name sc_round_of.nd (i := 8) rfl (by first | exact .inl rfl | exact .inr rfl)))) (fun _ _ _ _ _ => (dts_one (dt_cmp op_isNotNoneD (de_call (F_gain_of.mono (by decide : 1 ≤ 5)) hr takes0 rfl (da_cons (de_var (pv 4)) (da_cons (de_var (pv 3)) (da_cons (de_var (pv 1)) (da_cons (de_var (pv 8)) da_nil))))) de_non))) (fun _ _ _ _ _ => (de_var (pv 8))))) de_int)) (ds_cons (ds_par (i := 6) (j := 7) rfl sc_round_of.nd rfl rfl (by decide) rfl rfl (de_var (pv 3)) (de_call (F_gain_of.mono (by decide : 1 ≤ 5)) hr tk rfl (da_cons (de_var (pv 4)) (da_cons (de_var (pv 3)) (da_cons (de_var (pv 1)) (da_cons (de_var (pv 5)) da_nil)))))) (ds_cons (ds_while (passes_of rfl) (PW.pt (dw_and (dt_cmp op_gtD (de_var (pv 6)) de_int) (dw_and1 (dt_cmp (op_eqDD hu) (de_ix hu (de_var (pv 4)) (de_bin op_addD (de_bin op_subD (de_var (pv 6)) de_int) (de_var (pv 5)))) (de_bin op_addD (de_ix hu (de_var (pv 4)) (de_bin op_subD (de_var (pv 6)) de_int)) (de_var (pv 7))))))) (ds_one (ds_aug sc_round_of.nd (i := 6) rfl (by first | exact .inl rfl | exact .inr rfl) de_int ipd_sub))) (ds_one (ds_ret (de_tup (da_cons (de_var (pv 6)) (da_cons (de_var (pv 5)) (da_cons (de_var (pv 7)) (da_cons (de_bty cp_tup rfl T.b_tuple boot_tuple (da_cons (de_sl (de_var (pv 4)) do_non (do_som (de_bin op_addD (de_var (pv 6)) (de_var (pv 5))))) da_nil)) da_nil)))))))))))))
theorem fn_worst (T : Txt P w K mg) (F_best_rate : Fn P w K mg base 4 "best_rate" 1 f_best_rate) (F_excess : Fn P w K mg base 7 "excess" 2 f_excess) {f : Addr} {fd : FuncData} (F : Fun K "worst" "worst" (top 18) f fd) (hm : mg "worst" = some (.ref f)) (hb : Binds K fd ["shop"] []) : Fn P w K mg base 8 "worst" 1 f_worst :=
  Fn.mk' F sc_worst hm hb fun cdv A outer s H E hr => by
    have hu : (A.deeper (envOfC "worst" (defScope (top 18)) s.heap.objs.size f cdv)).units + 64 < cLine := hr.units
    have hu65 : (A.deeper (envOfC "worst" (defScope (top 18)) s.heap.objs.size f cdv)).units + 65 < cLine := by have := hr.un; omega
    have tk : Takes (cxOf (L2.CX P w) P w K mg base ["shop", "pieces", "cost", "found", "many"] "worst" (defScope (top 18)) f cdv A outer s H E) (fun cls d _ H => E cls d H) := takes_of rfl rfl rfl rfl
    exact (ds_cons (ds_asg (de_call (F_best_rate.mono (by decide : 4 ≤ 7)) hr tk rfl (da_cons (de_var (pv 0)) da_nil)) (dg_tup rfl (dgs_cons (dg_name (pg_name sc_worst.nd (i := 1) rfl (by first | exact .inl rfl | exact .inr rfl))) (dgs_cons (dg_name (pg_name sc_worst.nd (i := 2) rfl (by first | exact .inl rfl | exact .inr rfl))) dgs_nil)))) (ds_cons (ds_setLc (j := 3) rfl sc_worst.nd rfl rfl (sw_true rfl rfl rfl (by kernel_rfl)) (di_range1 rfl T.b_range (da_cons (de_var (pv 1)) da_nil)) (own := [("many", 4)]) (blkOk_by (by kernel_rfl)) (by decide) (fun _ _ _ _ _ => (dg_name (pg_name sc_worst.nd (i := 4) rfl (by first | exact .inl rfl | exact .inr rfl)))) (fun _ _ _ _ _ => dts_nil) (fun _ _ _ _ _ => (de_call (F_excess.mono (by decide : 7 ≤ 7)) hr takes0 rfl (da_cons (de_var (pv 0)) (da_cons (de_var (pv 4)) da_nil))))) (ds_one (ds_ret (de_tup (da_cons (de_index hu65 (de_var (pv 3)) (de_blt (cp_maxL rfl) rfl T.b_max boot_max (da_cons (de_var (pv 3)) da_nil))) (da_cons (de_blt (cp_maxL rfl) rfl T.b_max boot_max (da_cons (de_var (pv 3)) da_nil)) da_nil)))))))
theorem fn_even_from (T : Txt P w K mg) (F_best_rate : Fn P w K mg base 4 "best_rate" 1 f_best_rate) (F_calm_from : Fn P w K mg base 5 "calm_from" 1 f_calm_from) (F_table_of : Fn P w K mg base 4 "table_of" 2 f_table_of) {f : Addr} {fd : FuncData} (F : Fun K "even_from" "even_from" (top 19) f fd) (hm : mg "even_from" = some (.ref f)) (hb : Binds K fd ["shop"] []) : Fn P w K mg base 6 "even_from" 1 f_even_from :=
  Fn.mk' F sc_even_from hm hb fun cdv A outer s H E hr => by
    have hu : (A.deeper (envOfC "even_from" (defScope (top 19)) s.heap.objs.size f cdv)).units + 64 < cLine := hr.units
    have tk : Takes (cxOf (L2.CX P w) P w K mg base ["shop", "pieces", "cost", "calm", "told", "left", "start", "many"] "even_from" (defScope (top 19)) f cdv A outer s H E) (fun cls d _ H => E cls d H) := takes_of rfl rfl rfl rfl
    exact (ds_cons (ds_asg (de_call (F_best_rate.mono (by decide : 4 ≤ 5)) hr tk rfl (da_cons (de_var (pv 0)) da_nil)) (dg_tup rfl (dgs_cons (dg_name (pg_name sc_even_from.nd (i := 1) rfl (by first | exact .inl rfl | exact .inr rfl))) (dgs_cons (dg_name (pg_name sc_even_from.nd (i := 2) rfl (by first | exact .inl rfl | exact .inr rfl))) dgs_nil)))) (ds_cons (ds_set sc_even_from.nd (i := 3) rfl (by first | exact .inl rfl | exact .inr rfl) (de_call (F_calm_from.mono (by decide : 5 ≤ 5)) hr tk rfl (da_cons (de_var (pv 0)) da_nil))) (ds_cons (ds_set sc_even_from.nd (i := 4) rfl (by first | exact .inl rfl | exact .inr rfl) (de_call (F_table_of.mono (by decide : 4 ≤ 5)) hr tk rfl (da_cons (de_var (pv 0)) (da_cons (de_bin op_addD (de_var (pv 3)) (de_var (pv 1))) da_nil)))) (ds_cons (ds_setLc (j := 5) rfl sc_even_from.nd rfl rfl (sw_true rfl rfl rfl (by kernel_rfl)) (di_range1 rfl T.b_range (da_cons (de_blt cp_len rfl T.b_len boot_len (da_cons (de_var (pv 4)) da_nil)) da_nil)) (own := [("many", 7)]) (blkOk_by (by kernel_rfl)) (by decide) (fun _ _ _ _ _ => (dg_name (pg_name sc_even_from.nd (i := 7) rfl (by first | exact .inl rfl | exact .inr rfl)))) (fun _ _ _ _ _ => dts_nil) (fun _ _ _ _ _ => (de_bin op_subD (de_bin op_mulD (de_ix hu (de_var (pv 4)) (de_var (pv 7))) (de_var (pv 1))) (de_bin op_mulD (de_var (pv 2)) (de_var (pv 7)))))) (ds_cons (ds_if (dt_cmp (op_neDD hu) (de_blt (cp_maxL rfl) rfl T.b_max boot_max (da_cons (de_sl (de_var (pv 5)) (do_som (de_var (pv 3))) do_non) da_nil)) (de_blt (cp_minL rfl) rfl T.b_min boot_min (da_cons (de_sl (de_var (pv 5)) (do_som (de_var (pv 3))) do_non) da_nil))) (ds_one (ds_ret de_non)) ds_nil) (ds_cons (ds_set sc_even_from.nd (i := 6) rfl (by first | exact .inl rfl | exact .inr rfl) (de_var (pv 3))) (ds_cons (ds_while (passes_of rfl) (PW.pt (dw_and (dt_cmp op_gtD (de_var (pv 6)) de_int) (dw_and1 (dt_cmp (op_eqDD hu) (de_ix hu (de_var (pv 5)) (de_bin op_subD (de_var (pv 6)) de_int)) (de_ix hu (de_var (pv 5)) (de_var (pv 3))))))) (ds_one (ds_aug sc_even_from.nd (i := 6) rfl (by first | exact .inl rfl | exact .inr rfl) de_int ipd_sub))) (ds_one (ds_ret (de_var (pv 6)))))))))))
theorem fn_cheaper_more (T : Txt P w K mg) (F_many_price : Fn P w K mg base 6 "many_price" 2 f_many_price) (F_round_of : Fn P w K mg base 6 "round_of" 1 f_round_of) {f : Addr} {fd : FuncData} (F : Fun K "cheaper_more" "cheaper_more" (top 20) f fd) (hm : mg "cheaper_more" = some (.ref f)) (hb : Binds K fd ["shop"] []) : Fn P w K mg base 7 "cheaper_more" 1 f_cheaper_more :=
  Fn.mk' F sc_cheaper_more hm hb fun cdv A outer s H E hr => by
    have hu : (A.deeper (envOfC "cheaper_more" (defScope (top 20)) s.heap.objs.size f cdv)).units + 64 < cLine := hr.units
    have tk : Takes (cxOf (L2.CX P w) P w K mg base ["shop", "start", "period", "gain", "prices", "many"] "cheaper_more" (defScope (top 20)) f cdv A outer s H E) (fun cls d _ H => E cls d H) := takes_of rfl rfl rfl rfl
    exact (ds_cons (ds_asg (de_call (F_round_of.mono (by decide : 6 ≤ 6)) hr tk rfl (da_cons (de_var (pv 0)) da_nil)) (dg_tup rfl (dgs_cons (dg_name (pg_name sc_cheaper_more.nd (i := 1) rfl (by first | exact .inl rfl | exact .inr rfl))) (dgs_cons (dg_name (pg_name sc_cheaper_more.nd (i := 2) rfl (by first | exact .inl rfl | exact .inr rfl))) (dgs_cons (dg_name (pg_name sc_cheaper_more.nd (i := 3) rfl (by first | exact .inl rfl | exact .inr rfl))) (dgs_cons (dg_name (pg_name sc_cheaper_more.nd (i := 4) rfl (by first | exact .inl rfl | exact .inr rfl))) dgs_nil)))))) (ds_one (ds_ret (de_bty cp_tup rfl T.b_tuple boot_tuple (da_cons (de_fz (dm_lc rfl sc_cheaper_more.nd (di_range1 rfl T.b_range (da_cons (de_bin op_addD (de_var (pv 1)) (de_var (pv 2))) da_nil)) (own := [("many", 5)]) (blkOk_by (by kernel_rfl)) (by decide) (fun _ _ _ _ _ => (dg_name (pg_name sc_cheaper_more.nd (i := 5) rfl (by first | exact .inl rfl | exact .inr rfl)))) (fun _ _ _ _ _ => (dts_one (dt_cmp op_ltD (de_call (F_many_price.mono (by decide : 6 ≤ 6)) hr takes0 rfl (da_cons (de_var (pv 0)) (da_cons (de_bin op_addD (de_var (pv 5)) de_int) da_nil))) (de_ix hu (de_var (pv 4)) (de_var (pv 5)))))) (fun _ _ _ _ _ => (de_var (pv 5))))) da_nil)))))
theorem fn__law_bag (T : Txt P w K mg)  {f : Addr} {fd : FuncData} (F : Fun K "_law_bag" "_law_bag" (top 22) f fd) (hm : mg "_law_bag" = some (.ref f)) (hb : Binds K fd ["script"] []) : Fn P w K mg base 1 "_law_bag" 1 f__law_bag :=
  Fn.mk' F sc__law_bag hm hb fun cdv A outer s H E hr => by
    have hu : (A.deeper (envOfC "_law_bag" (defScope (top 22)) s.heap.objs.size f cdv)).units + 64 < cLine := hr.units
    have tk : Takes (cxOf (L2.CX P w) P w K mg base ["script", "cell"] "_law_bag" (defScope (top 22)) f cdv A outer s H E) (fun cls d _ H => E cls d H) := takes_of rfl rfl rfl rfl
    exact (ds_one (ds_ret (de_own (dm_lst (da_cons de_int (da_cons de_int (da_cons de_int (da_cons (de_fz (dm_lc rfl sc__law_bag.nd (di_val (de_sl (de_var (pv 0)) do_non (do_som de_int))) (own := [("cell", 1)]) (blkOk_by (by kernel_rfl)) (by decide) (fun _ _ _ _ _ => (dg_name (pg_name sc__law_bag.nd (i := 1) rfl (by first | exact .inl rfl | exact .inr rfl)))) (fun _ _ _ _ _ => dts_nil) (fun _ _ _ _ _ => (de_blt cp_abs rfl T.b_abs boot_abs (da_cons (de_var (pv 1)) da_nil))))) da_nil))))))))
theorem fn__law_take (T : Txt P w K mg)  {f : Addr} {fd : FuncData} (F : Fun K "_law_take" "_law_take" (top 23) f fd) (hm : mg "_law_take" = some (.ref f)) (hb : Binds K fd ["bag", "many"] []) : Fn P w K mg base 1 "_law_take" 2 f__law_take :=
  Fn.mk' F sc__law_take hm hb fun cdv A outer s H E hr => by
    have hu : (A.deeper (envOfC "_law_take" (defScope (top 23)) s.heap.objs.size f cdv)).units + 64 < cLine := hr.units
    have tk : Takes (cxOf (L2.CX P w) P w K mg base ["bag", "many", "cell", "stirred", "value", "begin", "second"] "_law_take" (defScope (top 23)) f cdv A outer s H E) (fun cls d _ H => E cls d H) := takes_of rfl rfl rfl rfl
    exact (ds_cons (ds_if (dt_cmp (op_eqDD hu) (de_ix hu (de_var (pv 0)) de_int) de_int) (ds_cons (ds_set sc__law_take.nd (i := 2) rfl (by first | exact .inl rfl | exact .inr rfl) (de_ix hu (de_bin op_addD (de_sl (de_ix hu (de_var (pv 0)) de_int) (do_som (de_ix hu (de_var (pv 0)) de_int)) do_non) (de_fz (dm_lst (da_cons de_int da_nil)))) de_int)) (ds_cons (ds_augI (de_var (pv 0)) de_int de_int ipd_iadd) (ds_cons (ds_if (dt_cmp op_geD (de_var (pv 2)) (de_bin op_powD de_int de_int)) (ds_one (ds_put (de_var (pv 0)) de_int (de_var (pv 2)))) ds_nil) (ds_cons (ds_set sc__law_take.nd (i := 3) rfl (by first | exact .inl rfl | exact .inr rfl) (de_bin op_addD (de_bin op_addD (de_bin op_mulD (de_ix hu (de_var (pv 0)) de_int) de_int) (de_bin op_modD (de_bty cp_int rfl T.b_int boot_int (da_cons (de_var (pv 2)) da_nil)) de_int)) (de_bin op_mulD de_int (de_ix hu (de_var (pv 0)) de_int)))) (ds_one (ds_put (de_var (pv 0)) de_int (de_bin op_modD (de_bty cp_int rfl T.b_int boot_int (da_cons (de_var (pv 3)) da_nil)) de_int))))))) ds_nil) (ds_cons (ds_if (dt_cmp op_gtD (de_ix hu (de_var (pv 0)) de_int) de_int) (ds_cons (ds_set sc__law_take.nd (i := 4) rfl (by first | exact .inl rfl | exact .inr rfl) (de_bin op_modD (de_bty cp_int rfl T.b_int boot_int (da_cons (de_ix hu (de_var (pv 0)) de_int) da_nil)) (de_var (pv 1)))) (ds_cons (ds_put (de_var (pv 0)) de_int (de_bin op_fdivD (de_bty cp_int rfl T.b_int boot_int (da_cons (de_ix hu (de_var (pv 0)) de_int) da_nil)) (de_var (pv 1)))) (ds_one (ds_ret (de_var (pv 4)))))) ds_nil) (ds_cons (ds_set sc__law_take.nd (i := 5) rfl (by first | exact .inl rfl | exact .inr rfl) (de_bin op_modD (de_bty cp_int rfl T.b_int boot_int (da_cons (de_bin op_mulD (de_bin op_addD (de_ix hu (de_var (pv 0)) de_int) de_int) de_int) da_nil)) de_int)) (ds_cons (ds_set sc__law_take.nd (i := 6) rfl (by first | exact .inl rfl | exact .inr rfl) (de_bin op_modD (de_bty cp_int rfl T.b_int boot_int (da_cons (de_bin op_mulD (de_bin op_modD (de_bty cp_int rfl T.b_int boot_int (da_cons (de_bin op_mulD (de_var (pv 5)) (de_var (pv 5))) da_nil)) de_int) de_int) da_nil)) de_int)) (ds_one (ds_ret (de_bin op_modD (de_bty cp_int rfl T.b_int boot_int (da_cons (de_bin op_fdivD (de_var (pv 6)) de_int) da_nil)) (de_var (pv 1)))))))))
theorem fn__law_some (T : Txt P w K mg) (F__law_take : Fn P w K mg base 1 "_law_take" 2 f__law_take) {f : Addr} {fd : FuncData} (F : Fun K "_law_some" "_law_some" (top 24) f fd) (hm : mg "_law_some" = some (.ref f)) (hb : Binds K fd ["bag", "things"] []) : Fn P w K mg base 2 "_law_some" 2 f__law_some :=
  Fn.mk' F sc__law_some hm hb fun cdv A outer s H E hr => by
    have hu : (A.deeper (envOfC "_law_some" (defScope (top 24)) s.heap.objs.size f cdv)).units + 64 < cLine := hr.units
    have tk : Takes (cxOf (L2.CX P w) P w K mg base ["bag", "things"] "_law_some" (defScope (top 24)) f cdv A outer s H E) (fun cls d _ H => E cls d H) := takes_of rfl rfl rfl rfl
    exact (ds_one (ds_ret (de_ix hu (de_var (pv 1)) (de_call (F__law_take.mono (by decide : 1 ≤ 1)) hr tk rfl (da_cons (de_var (pv 0)) (da_cons (de_blt cp_len rfl T.b_len boot_len (da_cons (de_var (pv 1)) da_nil)) da_nil))))))
theorem fn__law_alike (T : Txt P w K mg)  {f : Addr} {fd : FuncData} (F : Fun K "_law_alike" "_law_alike" (top 25) f fd) (hm : mg "_law_alike" = some (.ref f)) (hb : Binds K fd ["found", "due"] []) : Fn P w K mg base 1 "_law_alike" 2 f__law_alike :=
  Fn.mk' F sc__law_alike hm hb fun cdv A outer s H E hr => by
    have hu : (A.deeper (envOfC "_law_alike" (defScope (top 25)) s.heap.objs.size f cdv)).units + 64 < cLine := hr.units
    have tk : Takes (cxOf (L2.CX P w) P w K mg base ["found", "due", "pairs", "at", "one", "other"] "_law_alike" (defScope (top 25)) f cdv A outer s H E) (fun cls d _ H => E cls d H) := takes_of rfl rfl rfl rfl
    exact (ds_cons (ds_par (i := 2) (j := 3) rfl sc__law_alike.nd rfl rfl (by decide) rfl rfl (de_own (dm_lst (da_cons (de_tup (da_cons (de_var (pv 0)) (da_cons (de_var (pv 1)) da_nil))) da_nil))) de_int) (ds_cons (ds_while (passes_of rfl) (dt_cmp op_ltD (de_var (pv 3)) (de_blt cp_len rfl T.b_len boot_len (da_cons (de_var (pv 2)) da_nil))) (ds_cons (ds_asg (de_ix hu (de_var (pv 2)) (de_var (pv 3))) (dg_tup rfl (dgs_cons (dg_name (pg_name sc__law_alike.nd (i := 4) rfl (by first | exact .inl rfl | exact .inr rfl))) (dgs_cons (dg_name (pg_name sc__law_alike.nd (i := 5) rfl (by first | exact .inl rfl | exact .inr rfl))) dgs_nil)))) (ds_cons (ds_aug sc__law_alike.nd (i := 3) rfl (by first | exact .inl rfl | exact .inr rfl) de_int ipd_iadd) (ds_cons (ds_if (PW.pt (dw_or (dt_cmp (op_neDD hu) (de_isi rfl T.b_isinstance (de_var (pv 4)) (by decide) (pe_ty rfl T.b_bool boot_bool)) (de_isi rfl T.b_isinstance (de_var (pv 5)) (by decide) (pe_ty rfl T.b_bool boot_bool))) (dw_or1 (dt_cmp (op_neDD hu) (de_isi rfl T.b_isinstance (de_var (pv 4)) (by decide) (pe_ty rfl T.b_str boot_str)) (de_isi rfl T.b_isinstance (de_var (pv 5)) (by decide) (pe_ty rfl T.b_str boot_str)))))) (ds_one (ds_ret de_bl)) ds_nil) (ds_cons (ds_if (dt_cmp (op_neDD hu) (de_isi2 rfl T.b_isinstance (de_var (pv 4)) (by decide) (by decide) (pe_ty rfl T.b_tuple boot_tuple) (pe_ty rfl T.b_list boot_list)) (de_isi2 rfl T.b_isinstance (de_var (pv 5)) (by decide) (by decide) (pe_ty rfl T.b_tuple boot_tuple) (pe_ty rfl T.b_list boot_list))) (ds_one (ds_ret de_bl)) ds_nil) (ds_one (ds_if (dt_tru (de_isi2 rfl T.b_isinstance (de_var (pv 4)) (by decide) (by decide) (pe_ty rfl T.b_tuple boot_tuple) (pe_ty rfl T.b_list boot_list))) (ds_cons (ds_if (PW.pt (dw_or (dt_cmp (op_neDD hu) (de_isi rfl T.b_isinstance (de_var (pv 4)) (by decide) (pe_ty rfl T.b_tuple boot_tuple)) (de_isi rfl T.b_isinstance (de_var (pv 5)) (by decide) (pe_ty rfl T.b_tuple boot_tuple))) (dw_or1 (dt_cmp (op_neDD hu) (de_blt cp_len rfl T.b_len boot_len (da_cons (de_var (pv 4)) da_nil)) (de_blt cp_len rfl T.b_len boot_len (da_cons (de_var (pv 5)) da_nil)))))) (ds_one (ds_ret de_bl)) ds_nil) (ds_one (ds_expr (de_extend (de_var (pv 2)) (dm_listzip rfl rfl T.b_list rfl T.b_zip (da_cons (de_var (pv 4)) (da_cons (de_var (pv 5)) da_nil))))))) (ds_one (ds_if (dt_cmp (op_neDD hu) (de_var (pv 4)) (de_var (pv 5))) (ds_one (ds_ret de_bl)) ds_nil))))))))) (ds_one (ds_ret de_bl))))
theorem fn__law_piece (T : Txt P w K mg)  {f : Addr} {fd : FuncData} (F : Fun K "_law_piece" "_law_piece" (top 26) f fd) (hm : mg "_law_piece" = some (.ref f)) (hb : Binds K fd ["many", "at"] []) : Fn P w K mg base 1 "_law_piece" 2 f__law_piece :=
  Fn.mk' F sc__law_piece hm hb fun cdv A outer s H E hr => by
    have hu : (A.deeper (envOfC "_law_piece" (defScope (top 26)) s.heap.objs.size f cdv)).units + 64 < cLine := hr.units
    have tk : Takes (cxOf (L2.CX P w) P w K mg base ["many", "at", "place"] "_law_piece" (defScope (top 26)) f cdv A outer s H E) (fun cls d _ H => E cls d H) := takes_of rfl rfl rfl rfl
    exact (ds_one (ds_ret (de_bty cp_tup rfl T.b_tuple boot_tuple (da_cons (de_fz (dm_lc rfl sc__law_piece.nd (di_range1 rfl T.b_range (da_cons (de_var (pv 0)) da_nil)) (own := [("place", 2)]) (blkOk_by (by kernel_rfl)) (by decide) (fun _ _ _ _ _ => (dg_name (pg_name sc__law_piece.nd (i := 2) rfl (by first | exact .inl rfl | exact .inr rfl)))) (fun _ _ _ _ _ => dts_nil) (fun _ _ _ _ _ => (de_bty cp_int rfl T.b_int boot_int (da_cons (de_cmp (op_eqDD hu) (de_var (pv 2)) (de_var (pv 1))) da_nil))))) da_nil))))
theorem fn__law_choices (T : Txt P w K mg) (F__law_piece : Fn P w K mg base 1 "_law_piece" 2 f__law_piece) {f : Addr} {fd : FuncData} (F : Fun K "_law_choices" "_law_choices" (top 27) f fd) (hm : mg "_law_choices" = some (.ref f)) (hb : Binds K fd ["shop"] []) : Fn P w K mg base 2 "_law_choices" 1 f__law_choices :=
  Fn.mk' F sc__law_choices hm hb fun cdv A outer s H E hr => by
    have hu : (A.deeper (envOfC "_law_choices" (defScope (top 27)) s.heap.objs.size f cdv)).units + 64 < cLine := hr.units
    have tk : Takes (cxOf (L2.CX P w) P w K mg base ["shop", "singles", "at", "name", "price"] "_law_choices" (defScope (top 27)) f cdv A outer s H E) (fun cls d _ H => E cls d H) := takes_of rfl rfl rfl rfl
    exact (ds_cons (ds_setLc (j := 1) rfl sc__law_choices.nd rfl rfl (sw_true rfl rfl rfl (by kernel_rfl)) (di_enum rfl T.b_enumerate (da_cons (de_ix hu (de_var (pv 0)) de_int) da_nil)) (own := [("at", 2), ("name", 3), ("price", 4)]) (blkOk_by (by kernel_rfl)) (by decide) (fun _ _ _ _ _ => (dg_tup rfl (dgs_cons (dg_name (pg_name sc__law_choices.nd (i := 2) rfl (by first | exact .inl rfl | exact .inr rfl))) (dgs_cons (dg_tup rfl (dgs_cons (dg_name (pg_name sc__law_choices.nd (i := 3) rfl (by first | exact .inl rfl | exact .inr rfl))) (dgs_cons (dg_name (pg_name sc__law_choices.nd (i := 4) rfl (by first | exact .inl rfl | exact .inr rfl))) dgs_nil))) dgs_nil)))) (fun _ _ _ _ _ => dts_nil) (fun _ _ _ _ _ => (de_tup (da_cons (de_call (F__law_piece.mono (by decide : 1 ≤ 1)) hr takes0 rfl (da_cons (de_blt cp_len rfl T.b_len boot_len (da_cons (de_ix hu (de_var (pv 0)) de_int) da_nil)) (da_cons (de_var (pv 2)) da_nil))) (da_cons (de_var (pv 4)) da_nil))))) (ds_one (ds_ret (de_bin op_addD (de_var (pv 1)) (de_fz (dm_listof rfl T.b_list (da_cons (de_ix hu (de_var (pv 0)) de_int) da_nil)))))))
theorem fn__law_one_list (T : Txt P w K mg) (F__law_some : Fn P w K mg base 2 "_law_some" 2 f__law_some) (F__law_take : Fn P w K mg base 1 "_law_take" 2 f__law_take) {f : Addr} {fd : FuncData} (F : Fun K "_law_one_list" "_law_one_list" (top 28) f fd) (hm : mg "_law_one_list" = some (.ref f)) (hb : Binds K fd ["bag"] []) : Fn P w K mg base 3 "_law_one_list" 1 f__law_one_list :=
  Fn.mk' F sc__law_one_list hm hb fun cdv A outer s H E hr => by
    have hu : (A.deeper (envOfC "_law_one_list" (defScope (top 28)) s.heap.objs.size f cdv)).units + 64 < cLine := hr.units
    have tk : Takes (cxOf (L2.CX P w) P w K mg base ["bag", "price", "found", "turn", "many", "bundle"] "_law_one_list" (defScope (top 28)) f cdv A outer s H E) (fun cls d _ H => E cls d H) := takes_of rfl rfl rfl rfl
    exact (ds_cons (ds_parC (i := 1) (j := 2) rfl sc__law_one_list.nd rfl rfl (by first | exact .inl rfl | exact .inr rfl) (by first | exact .inl rfl | exact .inr rfl) (de_call (F__law_some.mono (by decide : 2 ≤ 2)) hr tk rfl (da_cons (de_var (pv 0)) (da_cons (de_fz (dm_lst (da_cons de_int (da_cons de_int (da_cons de_int (da_cons de_int da_nil)))))) da_nil))) de_dnew) (ds_cons (ds_for (passes_of rfl) rfl (di_range1 rfl T.b_range (da_cons (de_call (F__law_take.mono (by decide : 1 ≤ 2)) hr tk rfl (da_cons (de_var (pv 0)) (da_cons de_int da_nil))) da_nil)) (dg_name (pg_name sc__law_one_list.nd (i := 3) rfl (by first | exact .inl rfl | exact .inr rfl))) (ds_cons (ds_set sc__law_one_list.nd (i := 4) rfl (by first | exact .inl rfl | exact .inr rfl) (de_bin op_addD de_int (de_call (F__law_take.mono (by decide : 1 ≤ 2)) hr tk rfl (da_cons (de_var (pv 0)) (da_cons (de_call (F__law_some.mono (by decide : 2 ≤ 2)) hr tk rfl (da_cons (de_var (pv 0)) (da_cons (de_fz (dm_lst (da_cons de_int (da_cons de_int (da_cons de_int da_nil))))) da_nil))) da_nil))))) (ds_one (ds_dput hu (de_var (pv 2)) (de_tup (da_cons (de_var (pv 4)) da_nil)) (de_blt (cp_maxL rfl) rfl T.b_max boot_max (da_cons de_int (da_cons (de_bin op_subD (de_bin op_mulD (de_var (pv 4)) (de_var (pv 1))) (de_call (F__law_some.mono (by decide : 2 ≤ 2)) hr tk rfl (da_cons (de_var (pv 0)) (da_cons (de_fz (dm_lst (da_cons de_int (da_cons de_int (da_cons de_int (da_cons (de_var (pv 1)) (da_cons (de_var (pv 4)) (da_cons (de_bin op_mulD (de_var (pv 4)) (de_var (pv 1))) (da_cons (un_negD de_int) (da_cons (de_bin op_mulD (de_var (pv 1)) de_int) da_nil)))))))))) da_nil)))) da_nil))))))) (ds_one (ds_ret (de_tup (da_cons (de_tup (da_cons (de_tup (da_cons de_str (da_cons (de_var (pv 1)) da_nil))) da_nil)) (da_cons (de_bty cp_tup rfl T.b_tuple boot_tuple (da_cons (de_fz (dm_lc rfl sc__law_one_list.nd (di_val (de_blt (cp_sorted rfl) rfl T.b_sorted boot_sorted (da_cons (de_var (pv 2)) da_nil))) (own := [("bundle", 5)]) (blkOk_by (by kernel_rfl)) (by decide) (fun _ _ _ _ _ => (dg_name (pg_name sc__law_one_list.nd (i := 5) rfl (by first | exact .inl rfl | exact .inr rfl)))) (fun _ _ _ _ _ => dts_nil) (fun _ _ _ _ _ => (de_tup (da_cons (de_var (pv 5)) (da_cons (de_ix hu (de_var (pv 2)) (de_var (pv 5))) da_nil)))))) da_nil)) da_nil)))))))
theorem fn__law_table (T : Txt P w K mg) (F__law_choices : Fn P w K mg base 2 "_law_choices" 1 f__law_choices) {f : Addr} {fd : FuncData} (F : Fun K "_law_table" "_law_table" (top 29) f fd) (hm : mg "_law_table" = some (.ref f)) (hb : Binds K fd ["shop", "most"] []) : Fn P w K mg base 3 "_law_table" 2 f__law_table :=
  Fn.mk' F sc__law_table hm hb fun cdv A outer s H E hr => by
    have hu : (A.deeper (envOfC "_law_table" (defScope (top 29)) s.heap.objs.size f cdv)).units + 64 < cLine := hr.units
    have tk : Takes (cxOf (L2.CX P w) P w K mg base ["shop", "most", "choices", "found", "many", "bundle", "price", "few"] "_law_table" (defScope (top 29)) f cdv A outer s H E) (fun cls d _ H => E cls d H) := takes_of rfl rfl rfl rfl
    exact (ds_cons (ds_parC (i := 2) (j := 3) rfl sc__law_table.nd rfl rfl (by first | exact .inl rfl | exact .inr rfl) (by first | exact .inl rfl | exact .inr rfl) (de_fz (dm_lc rfl sc__law_table.nd (di_val (de_call (F__law_choices.mono (by decide : 2 ≤ 2)) hr tk rfl (da_cons (de_var (pv 0)) da_nil))) (own := [("bundle", 5), ("price", 6)]) (blkOk_by (by kernel_rfl)) (by decide) (fun _ _ _ _ _ => (dg_tup rfl (dgs_cons (dg_name (pg_name sc__law_table.nd (i := 5) rfl (by first | exact .inl rfl | exact .inr rfl))) (dgs_cons (dg_name (pg_name sc__law_table.nd (i := 6) rfl (by first | exact .inl rfl | exact .inr rfl))) dgs_nil)))) (fun _ _ _ _ _ => dts_nil) (fun _ _ _ _ _ => (de_tup (da_cons (de_ix hu (de_var (pv 5)) de_int) (da_cons (de_var (pv 6)) da_nil)))))) (de_own (dm_lst (da_cons de_int da_nil)))) (ds_cons (ds_for (passes_of rfl) rfl (di_range2 rfl T.b_range (da_cons de_int (da_cons (de_bin op_addD (de_var (pv 1)) de_int) da_nil))) (dg_name (pg_name sc__law_table.nd (i := 4) rfl (by first | exact .inl rfl | exact .inr rfl))) (ds_one (ds_expr (de_append (de_var (pv 3)) (de_blt (cp_minL rfl) rfl T.b_min boot_min (da_cons (de_fz (dm_lc rfl sc__law_table.nd (di_val (de_var (pv 2))) (own := [("few", 7), ("price", 6)]) (blkOk_by (by kernel_rfl)) (by decide) (fun _ _ _ _ _ => (dg_tup rfl (dgs_cons (dg_name (pg_name sc__law_table.nd (i := 7) rfl (by first | exact .inl rfl | exact .inr rfl))) (dgs_cons (dg_name (pg_name sc__law_table.nd (i := 6) rfl (by first | exact .inl rfl | exact .inr rfl))) dgs_nil)))) (fun _ _ _ _ _ => (dts_one (dt_cmp op_leD (de_var (pv 7)) (de_var (pv 4))))) (fun _ _ _ _ _ => (de_bin op_addD (de_ix hu (de_var (pv 3)) (de_bin op_subD (de_var (pv 4)) (de_var (pv 7)))) (de_var (pv 6)))))) da_nil)))))) (ds_one (ds_ret (de_frz (de_var (pv 3)))))))
theorem fn__law_best (T : Txt P w K mg) (F__law_choices : Fn P w K mg base 2 "_law_choices" 1 f__law_choices) {f : Addr} {fd : FuncData} (F : Fun K "_law_best" "_law_best" (top 30) f fd) (hm : mg "_law_best" = some (.ref f)) (hb : Binds K fd ["shop"] []) : Fn P w K mg base 3 "_law_best" 1 f__law_best :=
  Fn.mk' F sc__law_best hm hb fun cdv A outer s H E hr => by
    have hu : (A.deeper (envOfC "_law_best" (defScope (top 30)) s.heap.objs.size f cdv)).units + 64 < cLine := hr.units
    have tk : Takes (cxOf (L2.CX P w) P w K mg base ["shop", "found", "many", "price"] "_law_best" (defScope (top 30)) f cdv A outer s H E) (fun cls d _ H => E cls d H) := takes_of rfl rfl rfl rfl
    exact (ds_cons (ds_set sc__law_best.nd (i := 1) rfl (by first | exact .inl rfl | exact .inr rfl) (de_tup (da_cons de_int (da_cons (de_ix hu (de_ix hu (de_ix hu (de_var (pv 0)) de_int) de_int) de_int) da_nil)))) (ds_cons (ds_for (passes_of rfl) rfl (di_val (de_call (F__law_choices.mono (by decide : 2 ≤ 2)) hr tk rfl (da_cons (de_var (pv 0)) da_nil))) (dg_tup rfl (dgs_cons (dg_tup rfl (dgs_cons (dg_name (pg_name sc__law_best.nd (i := 2) rfl (by first | exact .inl rfl | exact .inr rfl))) dgs_nil)) (dgs_cons (dg_name (pg_name sc__law_best.nd (i := 3) rfl (by first | exact .inl rfl | exact .inr rfl))) dgs_nil))) (ds_one (ds_if (PW.pt (dw_or (dt_cmp op_ltD (de_bin op_mulD (de_var (pv 3)) (de_ix hu (de_var (pv 1)) de_int)) (de_bin op_mulD (de_ix hu (de_var (pv 1)) de_int) (de_var (pv 2)))) (dw_or1 (PW.pt (dw_and (dt_cmp (op_eqDD hu) (de_bin op_mulD (de_var (pv 3)) (de_ix hu (de_var (pv 1)) de_int)) (de_bin op_mulD (de_ix hu (de_var (pv 1)) de_int) (de_var (pv 2)))) (dw_and1 (dt_cmp op_ltD (de_var (pv 2)) (de_ix hu (de_var (pv 1)) de_int)))))))) (ds_one (ds_set sc__law_best.nd (i := 1) rfl (by first | exact .inl rfl | exact .inr rfl) (de_tup (da_cons (de_var (pv 2)) (da_cons (de_var (pv 3)) da_nil))))) ds_nil))) (ds_one (ds_ret (de_var (pv 1))))))
theorem fn__law_even (T : Txt P w K mg)  {f : Addr} {fd : FuncData} (F : Fun K "_law_even" "_law_even" (top 32) f fd) (hm : mg "_law_even" = some (.ref f)) (hb : Binds K fd ["left"] []) : Fn P w K mg base 1 "_law_even" 1 f__law_even :=
  Fn.mk' F sc__law_even hm hb fun cdv A outer s H E hr => by
    have hu : (A.deeper (envOfC "_law_even" (defScope (top 32)) s.heap.objs.size f cdv)).units + 64 < cLine := hr.units
    have tk : Takes (cxOf (L2.CX P w) P w K mg base ["left", "found"] "_law_even" (defScope (top 32)) f cdv A outer s H E) (fun cls d _ H => E cls d H) := takes_of rfl rfl rfl rfl
    exact (ds_cons (ds_if (dt_cmp (op_neDD hu) (de_lenset rfl T.b_len rfl T.b_set rfl (de_sl (de_var (pv 0)) (do_som de_int) do_non)) de_int) (ds_one (ds_ret de_non)) ds_nil) (ds_cons (ds_set sc__law_even.nd (i := 1) rfl (by first | exact .inl rfl | exact .inr rfl) de_int) (ds_cons (ds_while (passes_of rfl) (PW.pt (dw_and (dt_cmp op_gtD (de_var (pv 1)) de_int) (dw_and1 (dt_cmp (op_eqDD hu) (de_ix hu (de_var (pv 0)) (de_bin op_subD (de_var (pv 1)) de_int)) (de_ix hu (de_var (pv 0)) de_int))))) (ds_one (ds_aug sc__law_even.nd (i := 1) rfl (by first | exact .inl rfl | exact .inr rfl) de_int ipd_sub))) (ds_one (ds_ret (de_var (pv 1)))))))
theorem ok_law (T : Txt P w K mg) (F__law_alike : Fn P w K mg base 1 "_law_alike" 2 f__law_alike) (F__law_bag : Fn P w K mg base 1 "_law_bag" 1 f__law_bag) (F__law_best : Fn P w K mg base 3 "_law_best" 1 f__law_best) (F__law_even : Fn P w K mg base 1 "_law_even" 1 f__law_even) (F__law_one_list : Fn P w K mg base 3 "_law_one_list" 1 f__law_one_list) (F__law_table : Fn P w K mg base 3 "_law_table" 2 f__law_table) (F__law_take : Fn P w K mg base 1 "_law_take" 2 f__law_take) (F_cheaper_more : Fn P w K mg base 7 "cheaper_more" 1 f_cheaper_more) (F_even_from : Fn P w K mg base 6 "even_from" 1 f_even_from) (F_round_of : Fn P w K mg base 6 "round_of" 1 f_round_of) (F_worst : Fn P w K mg base 8 "worst" 1 f_worst) {f : Addr} {od an : Option Addr} {sl : Array (Option Value)} {oc kV dc pm ct cdv : Value} (lk : K.lookup f = some ⟨oc, od, .func (PySem.W.fnOf "law" "law" (defArgs (top 33)) (defBody (top 33)) (defScope (top 33)) .none kV dc pm an cdv ct), sl⟩) (hcd : PySem.W.codeIn K cdv "law" = true) (hl : ∀ ns : List Int, ns.length ≤ 63 → (∀ z ∈ ns, Builtin.Int.intBits z ≤ 1048576) → ∃ S2, f_law [.d (.list (ns.map PyData.int))] [] = .ok (.d (.bool true)) S2) : RunTop P w K mg base (L2.CX P w) f (PySem.W.fnOf "law" "law" (defArgs (top 33)) (defBody (top 33)) (defScope (top 33)) .none kV dc pm an cdv ct) ["script"] (spTop K []) :=
  Fn.top (k := 8) (cs := []) (qn := lamQ) lk hcd sc_law ⟨rfl, by decide, by decide⟩ (by simp) (fun s H E hr => by
    have hu : (callerA.deeper (envOfC "law" (defScope (top 33)) s.heap.objs.size f cdv)).units + 64 < cLine := hr.units
    have hu65 : (callerA.deeper (envOfC "law" (defScope (top 33)) s.heap.objs.size f cdv)).units + 65 < cLine := by have := hr.un; omega
    have tk : Takes (cxOf (L2.CX P w) P w K mg base ["script", "bag", "turn", "shop", "told", "pieces", "price", "left", "start", "period", "gain", "prices", "falls", "due", "many"] "law" (defScope (top 33)) f cdv callerA [] s H E) (fun cls d _ H => E cls d H) := takes_of rfl rfl rfl rfl
    exact (ds_cons (ds_set sc_law.nd (i := 1) rfl (by first | exact .inl rfl | exact .inr rfl) (de_call (F__law_bag.mono (by decide : 1 ≤ 8)) hr tk rfl (da_cons (de_var (pv 0)) da_nil))) (ds_cons (ds_for (passes_of rfl) rfl (di_range1 rfl T.b_range (da_cons de_int da_nil)) (dg_name (pg_name sc_law.nd (i := 2) rfl (by first | exact .inl rfl | exact .inr rfl))) (ds_cons (ds_set sc_law.nd (i := 3) rfl (by first | exact .inl rfl | exact .inr rfl) (de_if (dt_cmp op_gtD (de_var (pv 2)) de_int) (de_call (F__law_one_list.mono (by decide : 3 ≤ 8)) hr tk rfl (da_cons (de_var (pv 1)) da_nil)) (de_tup (da_cons (de_tup (da_cons (de_tup (da_cons de_str (da_cons (de_bin op_addD de_int (de_call (F__law_take.mono (by decide : 1 ≤ 8)) hr tk rfl (da_cons (de_var (pv 1)) (da_cons de_int da_nil)))) da_nil))) da_nil)) (da_cons (de_tup da_nil) da_nil))))) (ds_cons (ds_asg (de_tup (da_cons (de_call (F__law_table.mono (by decide : 3 ≤ 8)) hr tk rfl (da_cons (de_var (pv 3)) (da_cons de_int da_nil))) (da_cons (de_call (F__law_best.mono (by decide : 3 ≤ 8)) hr tk rfl (da_cons (de_var (pv 3)) da_nil)) da_nil))) (dg_tup rfl (dgs_cons (dg_name (pg_name sc_law.nd (i := 4) rfl (by first | exact .inl rfl | exact .inr rfl))) (dgs_cons (dg_tup rfl (dgs_cons (dg_name (pg_name sc_law.nd (i := 5) rfl (by first | exact .inl rfl | exact .inr rfl))) (dgs_cons (dg_name (pg_name sc_law.nd (i := 6) rfl (by first | exact .inl rfl | exact .inr rfl))) dgs_nil))) dgs_nil)))) (ds_cons (ds_setLc (j := 7) rfl sc_law.nd rfl rfl (sw_true rfl rfl rfl (by kernel_rfl)) (di_range1 rfl T.b_range (da_cons de_int da_nil)) (own := [("many", 14)]) (blkOk_by (by kernel_rfl)) (by decide) (fun _ _ _ _ _ => (dg_name (pg_name sc_law.nd (i := 14) rfl (by first | exact .inl rfl | exact .inr rfl)))) (fun _ _ _ _ _ => dts_nil) (fun _ _ _ _ _ => (de_bin op_subD (de_bin op_mulD (de_ix hu (de_var (pv 4)) (de_var (pv 14))) (de_var (pv 5))) (de_bin op_mulD (de_var (pv 6)) (de_var (pv 14)))))) (ds_cons (ds_asg (de_call (F_round_of.mono (by decide : 6 ≤ 8)) hr tk rfl (da_cons (de_var (pv 3)) da_nil)) (dg_tup rfl (dgs_cons (dg_name (pg_name sc_law.nd (i := 8) rfl (by first | exact .inl rfl | exact .inr rfl))) (dgs_cons (dg_name (pg_name sc_law.nd (i := 9) rfl (by first | exact .inl rfl | exact .inr rfl))) (dgs_cons (dg_name (pg_name sc_law.nd (i := 10) rfl (by first | exact .inl rfl | exact .inr rfl))) (dgs_cons (dg_name (pg_name sc_law.nd (i := 11) rfl (by first | exact .inl rfl | exact .inr rfl))) dgs_nil)))))) (ds_cons (ds_set sc_law.nd (i := 12) rfl (by first | exact .inl rfl | exact .inr rfl) (de_fz (dm_lc rfl sc_law.nd (di_range1 rfl T.b_range (da_cons de_int da_nil)) (own := [("many", 14)]) (blkOk_by (by kernel_rfl)) (by decide) (fun _ _ _ _ _ => (dg_name (pg_name sc_law.nd (i := 14) rfl (by first | exact .inl rfl | exact .inr rfl)))) (fun _ _ _ _ _ => (dts_one (dt_cmp op_ltD (de_ix hu (de_var (pv 4)) (de_bin op_addD (de_var (pv 14)) de_int)) (de_ix hu (de_var (pv 4)) (de_var (pv 14)))))) (fun _ _ _ _ _ => (de_var (pv 14)))))) (ds_cons (ds_set sc_law.nd (i := 13) rfl (by first | exact .inl rfl | exact .inr rfl) (de_fz (dm_lst (da_cons (de_tup (da_cons (de_index hu65 (de_var (pv 7)) (de_blt (cp_maxL rfl) rfl T.b_max boot_max (da_cons (de_var (pv 7)) da_nil))) (da_cons (de_blt (cp_maxL rfl) rfl T.b_max boot_max (da_cons (de_var (pv 7)) da_nil)) da_nil))) (da_cons (de_call (F__law_even.mono (by decide : 1 ≤ 8)) hr tk rfl (da_cons (de_var (pv 7)) da_nil)) (da_cons (de_bty cp_tup rfl T.b_tuple boot_tuple (da_cons (de_fz (dm_lc rfl sc_law.nd (di_val (de_var (pv 12))) (own := [("many", 14)]) (blkOk_by (by kernel_rfl)) (by decide) (fun _ _ _ _ _ => (dg_name (pg_name sc_law.nd (i := 14) rfl (by first | exact .inl rfl | exact .inr rfl)))) (fun _ _ _ _ _ => (dts_one (dt_cmp op_ltD (de_var (pv 14)) (de_bin op_addD (de_var (pv 8)) (de_var (pv 9)))))) (fun _ _ _ _ _ => (de_var (pv 14))))) da_nil)) da_nil)))))) (ds_cons (ds_if (dt_not (dt_tru (de_call (F__law_alike.mono (by decide : 1 ≤ 8)) hr tk rfl (da_cons (de_fz (dm_lst (da_cons (de_call (F_worst.mono (by decide : 8 ≤ 8)) hr tk rfl (da_cons (de_var (pv 3)) da_nil)) (da_cons (de_call (F_even_from.mono (by decide : 6 ≤ 8)) hr tk rfl (da_cons (de_var (pv 3)) da_nil)) (da_cons (de_call (F_cheaper_more.mono (by decide : 7 ≤ 8)) hr tk rfl (da_cons (de_var (pv 3)) da_nil)) da_nil))))) (da_cons (de_var (pv 13)) da_nil))))) (ds_one (ds_ret de_bl)) ds_nil) (ds_one (ds_if (dt_cmp (op_neDD hu) (de_fz (dm_lc rfl sc_law.nd (di_range2 rfl T.b_range (da_cons (de_var (pv 8)) (da_cons de_int da_nil))) (own := [("many", 14)]) (blkOk_by (by kernel_rfl)) (by decide) (fun _ _ _ _ _ => (dg_name (pg_name sc_law.nd (i := 14) rfl (by first | exact .inl rfl | exact .inr rfl)))) (fun _ _ _ _ _ => (dts_one (dt_cmp (op_neDD hu) (de_cmp (op_inDD hu65) (de_var (pv 14)) (de_var (pv 12))) (de_cmp (op_inDD hu65) (de_bin op_addD (de_var (pv 14)) (de_var (pv 9))) (de_var (pv 12)))))) (fun _ _ _ _ _ => (de_var (pv 14))))) (de_fz (dm_lst da_nil))) (ds_one (ds_ret de_bl)) ds_nil)))))))))) (ds_one (ds_ret de_bl))))) hl
end
theorem all_mk {w : World} {K : PySem.W.Frag} {h : Heap} {mg : Str → Option Value} {fa : Addr} (X : K.In h) (G : h.Ns mainGlobals mg) (hfa : mg "law" = some (.ref fa))
    (hlaw : ∀ ns : List Int, ns.length ≤ 63 → (∀ z ∈ ns, Builtin.Int.intBits z ≤ 1048576) → ∃ S2, f_law [.d (.list (ns.map PyData.int))] [] = .ok (.d (.bool true)) S2)
    {f_one_piece' : Addr} {od_one_piece an_one_piece : Option Addr} {sl_one_piece : Array (Option Value)} {oc_one_piece kV_one_piece dc_one_piece pm_one_piece cd_one_piece ct_one_piece : Value}
    {f_choices_of' : Addr} {od_choices_of an_choices_of : Option Addr} {sl_choices_of : Array (Option Value)} {oc_choices_of kV_choices_of dc_choices_of pm_choices_of cd_choices_of ct_choices_of : Value}
    {f_need_one' : Addr} {od_need_one an_need_one : Option Addr} {sl_need_one : Array (Option Value)} {oc_need_one kV_need_one dc_need_one pm_need_one cd_need_one ct_need_one : Value}
    {f_plain_choices' : Addr} {od_plain_choices an_plain_choices : Option Addr} {sl_plain_choices : Array (Option Value)} {oc_plain_choices kV_plain_choices dc_plain_choices pm_plain_choices cd_plain_choices ct_plain_choices : Value}
    {f_best_rate' : Addr} {od_best_rate an_best_rate : Option Addr} {sl_best_rate : Array (Option Value)} {oc_best_rate kV_best_rate dc_best_rate pm_best_rate cd_best_rate ct_best_rate : Value}
    {f_table_of' : Addr} {od_table_of an_table_of : Option Addr} {sl_table_of : Array (Option Value)} {oc_table_of kV_table_of dc_table_of pm_table_of cd_table_of ct_table_of : Value}
    {f_calm_from' : Addr} {od_calm_from an_calm_from : Option Addr} {sl_calm_from : Array (Option Value)} {oc_calm_from kV_calm_from dc_calm_from pm_calm_from cd_calm_from ct_calm_from : Value}
    {f_many_price' : Addr} {od_many_price an_many_price : Option Addr} {sl_many_price : Array (Option Value)} {oc_many_price kV_many_price dc_many_price pm_many_price cd_many_price ct_many_price : Value}
    {f_excess' : Addr} {od_excess an_excess : Option Addr} {sl_excess : Array (Option Value)} {oc_excess kV_excess dc_excess pm_excess cd_excess ct_excess : Value}
    {f_gain_of' : Addr} {od_gain_of an_gain_of : Option Addr} {sl_gain_of : Array (Option Value)} {oc_gain_of kV_gain_of dc_gain_of pm_gain_of cd_gain_of ct_gain_of : Value}
    {f_round_of' : Addr} {od_round_of an_round_of : Option Addr} {sl_round_of : Array (Option Value)} {oc_round_of kV_round_of dc_round_of pm_round_of cd_round_of ct_round_of : Value}
    {f_worst' : Addr} {od_worst an_worst : Option Addr} {sl_worst : Array (Option Value)} {oc_worst kV_worst dc_worst pm_worst cd_worst ct_worst : Value}
    {f_even_from' : Addr} {od_even_from an_even_from : Option Addr} {sl_even_from : Array (Option Value)} {oc_even_from kV_even_from dc_even_from pm_even_from cd_even_from ct_even_from : Value}
    {f_cheaper_more' : Addr} {od_cheaper_more an_cheaper_more : Option Addr} {sl_cheaper_more : Array (Option Value)} {oc_cheaper_more kV_cheaper_more dc_cheaper_more pm_cheaper_more cd_cheaper_more ct_cheaper_more : Value}
    {f__law_bag' : Addr} {od__law_bag an__law_bag : Option Addr} {sl__law_bag : Array (Option Value)} {oc__law_bag kV__law_bag dc__law_bag pm__law_bag cd__law_bag ct__law_bag : Value}
    {f__law_take' : Addr} {od__law_take an__law_take : Option Addr} {sl__law_take : Array (Option Value)} {oc__law_take kV__law_take dc__law_take pm__law_take cd__law_take ct__law_take : Value}
    {f__law_some' : Addr} {od__law_some an__law_some : Option Addr} {sl__law_some : Array (Option Value)} {oc__law_some kV__law_some dc__law_some pm__law_some cd__law_some ct__law_some : Value}
    {f__law_alike' : Addr} {od__law_alike an__law_alike : Option Addr} {sl__law_alike : Array (Option Value)} {oc__law_alike kV__law_alike dc__law_alike pm__law_alike cd__law_alike ct__law_alike : Value}
    {f__law_piece' : Addr} {od__law_piece an__law_piece : Option Addr} {sl__law_piece : Array (Option Value)} {oc__law_piece kV__law_piece dc__law_piece pm__law_piece cd__law_piece ct__law_piece : Value}
    {f__law_choices' : Addr} {od__law_choices an__law_choices : Option Addr} {sl__law_choices : Array (Option Value)} {oc__law_choices kV__law_choices dc__law_choices pm__law_choices cd__law_choices ct__law_choices : Value}
    {f__law_one_list' : Addr} {od__law_one_list an__law_one_list : Option Addr} {sl__law_one_list : Array (Option Value)} {oc__law_one_list kV__law_one_list dc__law_one_list pm__law_one_list cd__law_one_list ct__law_one_list : Value}
    {f__law_table' : Addr} {od__law_table an__law_table : Option Addr} {sl__law_table : Array (Option Value)} {oc__law_table kV__law_table dc__law_table pm__law_table cd__law_table ct__law_table : Value}
    {f__law_best' : Addr} {od__law_best an__law_best : Option Addr} {sl__law_best : Array (Option Value)} {oc__law_best kV__law_best dc__law_best pm__law_best cd__law_best ct__law_best : Value}
    {f__law_even' : Addr} {od__law_even an__law_even : Option Addr} {sl__law_even : Array (Option Value)} {oc__law_even kV__law_even dc__law_even pm__law_even cd__law_even ct__law_even : Value}
    {f_law' : Addr} {od_law an_law : Option Addr} {sl_law : Array (Option Value)} {oc_law kV_law dc_law pm_law cd_law ct_law : Value}
    {C_Refused N_Refused i_Refused ca_Refused cc_Refused : Addr} {nm_Refused qn_Refused : Str} {bs_Refused bm_Refused sb_Refused : List Value} {sn_Refused : List Str} {ab_Refused : Bool} {co_Refused : Option Bool} {dd_Refused io_Refused ia_Refused clo_Refused : Option Addr} {k0_Refused k1_Refused k2_Refused k3_Refused k5_Refused : Option Value} {kV_Refused doc_Refused pm_Refused ct_Refused oc_Refused cl_Refused : Value} {is_Refused cs_Refused : Array (Option Value)}
    (xa_Refused : PySem.W.nsIn K mainGlobals "Refused" = some (some (.ref C_Refused)))
    (xb_Refused : K.lookup C_Refused = some (excClassObj nm_Refused qn_Refused C_Refused N_Refused bs_Refused bm_Refused true sn_Refused sb_Refused ab_Refused co_Refused dd_Refused k0_Refused k1_Refused k2_Refused k3_Refused k5_Refused "ValueError.__new__"))
    (xc_Refused : PySem.HandSPX.refsVE bm_Refused = true)
    (xd_Refused : PySem.W.findIn K (.ref C_Refused) "__setattr__" = some (some (.builtin "object.__setattr__")))
    (xe_Refused : PySem.W.subIn K (.ref C_Refused) (.type "BaseException") = some true)
    (xf_Refused : PySem.W.typeIn K (.ref C_Refused) = some (.type "type"))
    (xg_Refused : PySem.W.keepIn K (.ref C_Refused) = true)
    (xh_Refused : PySem.W.findIn K (.ref C_Refused) "__init__" = some (some (.ref i_Refused)))
    (xi_Refused : PySem.W.typeIn K (.ref i_Refused) = some (.type "function"))
    (xj_Refused : K.lookup i_Refused = some ⟨oc_Refused, io_Refused, .func (PySem.W.ksFn "__init__" "Refused.__init__" (defArgs (mem (top 3) 0)) (defBody (mem (top 3) 0)) (defScope (mem (top 3) 0)) .none kV_Refused doc_Refused pm_Refused ia_Refused (.ref ca_Refused) ct_Refused cc_Refused), is_Refused⟩)
    (xk_Refused : PySem.W.codeIn K (.ref ca_Refused) "Refused.__init__" = true)
    (xl_Refused : fileIn PySem.Challenge.pw_basketfair_k29_greatest_excess_and_cheap K ca_Refused = true)
    (xm_Refused : K.lookup cc_Refused = some ⟨cl_Refused, clo_Refused, .cell (some (.ref C_Refused)), cs_Refused⟩)
    (xn_Refused : isCls K C_Refused = true)
    (xo_Refused : PySem.W.mroIn K C_Refused (.ref C_Refused) = some true)
    (xp_Refused : PySem.W.nsIn K PySem.cStatics "thirdparty.any" = some none)
    (xq_Refused : PySem.W.ks_superIn K C_Refused C_Refused "__init__" = some (some (.builtin "ValueError.__init__")))
    (xr_Refused : PySem.W.subIn K (.ref C_Refused) (.type "ValueError") = some true)
    (xs_Refused : PySem.W.nsIn K mainGlobals "super" = some none)
    (xtwhy_Refused : PySem.W.findIn K (.ref C_Refused) "why" = some none)
    (z_abs : PySem.W.nsIn K mainGlobals "abs" = some none)
    (z_bool : PySem.W.nsIn K mainGlobals "bool" = some none)
    (z_enumerate : PySem.W.nsIn K mainGlobals "enumerate" = some none)
    (z_int : PySem.W.nsIn K mainGlobals "int" = some none)
    (z_isinstance : PySem.W.nsIn K mainGlobals "isinstance" = some none)
    (z_len : PySem.W.nsIn K mainGlobals "len" = some none)
    (z_list : PySem.W.nsIn K mainGlobals "list" = some none)
    (z_max : PySem.W.nsIn K mainGlobals "max" = some none)
    (z_min : PySem.W.nsIn K mainGlobals "min" = some none)
    (z_range : PySem.W.nsIn K mainGlobals "range" = some none)
    (z_set : PySem.W.nsIn K mainGlobals "set" = some none)
    (z_sorted : PySem.W.nsIn K mainGlobals "sorted" = some none)
    (z_str : PySem.W.nsIn K mainGlobals "str" = some none)
    (z_tuple : PySem.W.nsIn K mainGlobals "tuple" = some none)
    (z_zip : PySem.W.nsIn K mainGlobals "zip" = some none)
    {t_MOST_OF_DEAL : Tok} (v_MOST_OF_DEAL : PySem.W.nsIn K mainGlobals "MOST_OF_DEAL" = some (some (.int 12 t_MOST_OF_DEAL)))
    (a_one_piece : PySem.W.nsIn K mainGlobals "one_piece" = some (some (.ref f_one_piece'))) (l_one_piece : K.lookup f_one_piece' = some ⟨oc_one_piece, od_one_piece, .func (PySem.W.fnOf "one_piece" "one_piece" (defArgs (top 5)) (defBody (top 5)) (defScope (top 5)) .none kV_one_piece dc_one_piece pm_one_piece an_one_piece cd_one_piece ct_one_piece), sl_one_piece⟩) (c_one_piece : PySem.W.codeIn K cd_one_piece "one_piece" = true) (k_one_piece : PySem.W.keepIn K (.ref f_one_piece') = true)
    (a_choices_of : PySem.W.nsIn K mainGlobals "choices_of" = some (some (.ref f_choices_of'))) (l_choices_of : K.lookup f_choices_of' = some ⟨oc_choices_of, od_choices_of, .func (PySem.W.fnOf "choices_of" "choices_of" (defArgs (top 6)) (defBody (top 6)) (defScope (top 6)) .none kV_choices_of dc_choices_of pm_choices_of an_choices_of cd_choices_of ct_choices_of), sl_choices_of⟩) (c_choices_of : PySem.W.codeIn K cd_choices_of "choices_of" = true) (k_choices_of : PySem.W.keepIn K (.ref f_choices_of') = true)
    (a_need_one : PySem.W.nsIn K mainGlobals "need_one" = some (some (.ref f_need_one'))) (l_need_one : K.lookup f_need_one' = some ⟨oc_need_one, od_need_one, .func (PySem.W.fnOf "need_one" "need_one" (defArgs (top 9)) (defBody (top 9)) (defScope (top 9)) .none kV_need_one dc_need_one pm_need_one an_need_one cd_need_one ct_need_one), sl_need_one⟩) (c_need_one : PySem.W.codeIn K cd_need_one "need_one" = true) (k_need_one : PySem.W.keepIn K (.ref f_need_one') = true)
    (a_plain_choices : PySem.W.nsIn K mainGlobals "plain_choices" = some (some (.ref f_plain_choices'))) (l_plain_choices : K.lookup f_plain_choices' = some ⟨oc_plain_choices, od_plain_choices, .func (PySem.W.fnOf "plain_choices" "plain_choices" (defArgs (top 10)) (defBody (top 10)) (defScope (top 10)) .none kV_plain_choices dc_plain_choices pm_plain_choices an_plain_choices cd_plain_choices ct_plain_choices), sl_plain_choices⟩) (c_plain_choices : PySem.W.codeIn K cd_plain_choices "plain_choices" = true) (k_plain_choices : PySem.W.keepIn K (.ref f_plain_choices') = true)
    (a_best_rate : PySem.W.nsIn K mainGlobals "best_rate" = some (some (.ref f_best_rate'))) (l_best_rate : K.lookup f_best_rate' = some ⟨oc_best_rate, od_best_rate, .func (PySem.W.fnOf "best_rate" "best_rate" (defArgs (top 11)) (defBody (top 11)) (defScope (top 11)) .none kV_best_rate dc_best_rate pm_best_rate an_best_rate cd_best_rate ct_best_rate), sl_best_rate⟩) (c_best_rate : PySem.W.codeIn K cd_best_rate "best_rate" = true) (k_best_rate : PySem.W.keepIn K (.ref f_best_rate') = true)
    (a_table_of : PySem.W.nsIn K mainGlobals "table_of" = some (some (.ref f_table_of'))) (l_table_of : K.lookup f_table_of' = some ⟨oc_table_of, od_table_of, .func (PySem.W.fnOf "table_of" "table_of" (defArgs (top 12)) (defBody (top 12)) (defScope (top 12)) .none kV_table_of dc_table_of pm_table_of an_table_of cd_table_of ct_table_of), sl_table_of⟩) (c_table_of : PySem.W.codeIn K cd_table_of "table_of" = true) (k_table_of : PySem.W.keepIn K (.ref f_table_of') = true)
    (a_calm_from : PySem.W.nsIn K mainGlobals "calm_from" = some (some (.ref f_calm_from'))) (l_calm_from : K.lookup f_calm_from' = some ⟨oc_calm_from, od_calm_from, .func (PySem.W.fnOf "calm_from" "calm_from" (defArgs (top 13)) (defBody (top 13)) (defScope (top 13)) .none kV_calm_from dc_calm_from pm_calm_from an_calm_from cd_calm_from ct_calm_from), sl_calm_from⟩) (c_calm_from : PySem.W.codeIn K cd_calm_from "calm_from" = true) (k_calm_from : PySem.W.keepIn K (.ref f_calm_from') = true)
    (a_many_price : PySem.W.nsIn K mainGlobals "many_price" = some (some (.ref f_many_price'))) (l_many_price : K.lookup f_many_price' = some ⟨oc_many_price, od_many_price, .func (PySem.W.fnOf "many_price" "many_price" (defArgs (top 14)) (defBody (top 14)) (defScope (top 14)) .none kV_many_price dc_many_price pm_many_price an_many_price cd_many_price ct_many_price), sl_many_price⟩) (c_many_price : PySem.W.codeIn K cd_many_price "many_price" = true) (k_many_price : PySem.W.keepIn K (.ref f_many_price') = true)
    (a_excess : PySem.W.nsIn K mainGlobals "excess" = some (some (.ref f_excess'))) (l_excess : K.lookup f_excess' = some ⟨oc_excess, od_excess, .func (PySem.W.fnOf "excess" "excess" (defArgs (top 15)) (defBody (top 15)) (defScope (top 15)) .none kV_excess dc_excess pm_excess an_excess cd_excess ct_excess), sl_excess⟩) (c_excess : PySem.W.codeIn K cd_excess "excess" = true) (k_excess : PySem.W.keepIn K (.ref f_excess') = true)
    (a_gain_of : PySem.W.nsIn K mainGlobals "gain_of" = some (some (.ref f_gain_of'))) (l_gain_of : K.lookup f_gain_of' = some ⟨oc_gain_of, od_gain_of, .func (PySem.W.fnOf "gain_of" "gain_of" (defArgs (top 16)) (defBody (top 16)) (defScope (top 16)) .none kV_gain_of dc_gain_of pm_gain_of an_gain_of cd_gain_of ct_gain_of), sl_gain_of⟩) (c_gain_of : PySem.W.codeIn K cd_gain_of "gain_of" = true) (k_gain_of : PySem.W.keepIn K (.ref f_gain_of') = true)
    (a_round_of : PySem.W.nsIn K mainGlobals "round_of" = some (some (.ref f_round_of'))) (l_round_of : K.lookup f_round_of' = some ⟨oc_round_of, od_round_of, .func (PySem.W.fnOf "round_of" "round_of" (defArgs (top 17)) (defBody (top 17)) (defScope (top 17)) .none kV_round_of dc_round_of pm_round_of an_round_of cd_round_of ct_round_of), sl_round_of⟩) (c_round_of : PySem.W.codeIn K cd_round_of "round_of" = true) (k_round_of : PySem.W.keepIn K (.ref f_round_of') = true)
    (a_worst : PySem.W.nsIn K mainGlobals "worst" = some (some (.ref f_worst'))) (l_worst : K.lookup f_worst' = some ⟨oc_worst, od_worst, .func (PySem.W.fnOf "worst" "worst" (defArgs (top 18)) (defBody (top 18)) (defScope (top 18)) .none kV_worst dc_worst pm_worst an_worst cd_worst ct_worst), sl_worst⟩) (c_worst : PySem.W.codeIn K cd_worst "worst" = true) (k_worst : PySem.W.keepIn K (.ref f_worst') = true)
    (a_even_from : PySem.W.nsIn K mainGlobals "even_from" = some (some (.ref f_even_from'))) (l_even_from : K.lookup f_even_from' = some ⟨oc_even_from, od_even_from, .func (PySem.W.fnOf "even_from" "even_from" (defArgs (top 19)) (defBody (top 19)) (defScope (top 19)) .none kV_even_from dc_even_from pm_even_from an_even_from cd_even_from ct_even_from), sl_even_from⟩) (c_even_from : PySem.W.codeIn K cd_even_from "even_from" = true) (k_even_from : PySem.W.keepIn K (.ref f_even_from') = true)
    (a_cheaper_more : PySem.W.nsIn K mainGlobals "cheaper_more" = some (some (.ref f_cheaper_more'))) (l_cheaper_more : K.lookup f_cheaper_more' = some ⟨oc_cheaper_more, od_cheaper_more, .func (PySem.W.fnOf "cheaper_more" "cheaper_more" (defArgs (top 20)) (defBody (top 20)) (defScope (top 20)) .none kV_cheaper_more dc_cheaper_more pm_cheaper_more an_cheaper_more cd_cheaper_more ct_cheaper_more), sl_cheaper_more⟩) (c_cheaper_more : PySem.W.codeIn K cd_cheaper_more "cheaper_more" = true) (k_cheaper_more : PySem.W.keepIn K (.ref f_cheaper_more') = true)
    (a__law_bag : PySem.W.nsIn K mainGlobals "_law_bag" = some (some (.ref f__law_bag'))) (l__law_bag : K.lookup f__law_bag' = some ⟨oc__law_bag, od__law_bag, .func (PySem.W.fnOf "_law_bag" "_law_bag" (defArgs (top 22)) (defBody (top 22)) (defScope (top 22)) .none kV__law_bag dc__law_bag pm__law_bag an__law_bag cd__law_bag ct__law_bag), sl__law_bag⟩) (c__law_bag : PySem.W.codeIn K cd__law_bag "_law_bag" = true) (k__law_bag : PySem.W.keepIn K (.ref f__law_bag') = true)
    (a__law_take : PySem.W.nsIn K mainGlobals "_law_take" = some (some (.ref f__law_take'))) (l__law_take : K.lookup f__law_take' = some ⟨oc__law_take, od__law_take, .func (PySem.W.fnOf "_law_take" "_law_take" (defArgs (top 23)) (defBody (top 23)) (defScope (top 23)) .none kV__law_take dc__law_take pm__law_take an__law_take cd__law_take ct__law_take), sl__law_take⟩) (c__law_take : PySem.W.codeIn K cd__law_take "_law_take" = true) (k__law_take : PySem.W.keepIn K (.ref f__law_take') = true)
    (a__law_some : PySem.W.nsIn K mainGlobals "_law_some" = some (some (.ref f__law_some'))) (l__law_some : K.lookup f__law_some' = some ⟨oc__law_some, od__law_some, .func (PySem.W.fnOf "_law_some" "_law_some" (defArgs (top 24)) (defBody (top 24)) (defScope (top 24)) .none kV__law_some dc__law_some pm__law_some an__law_some cd__law_some ct__law_some), sl__law_some⟩) (c__law_some : PySem.W.codeIn K cd__law_some "_law_some" = true) (k__law_some : PySem.W.keepIn K (.ref f__law_some') = true)
    (a__law_alike : PySem.W.nsIn K mainGlobals "_law_alike" = some (some (.ref f__law_alike'))) (l__law_alike : K.lookup f__law_alike' = some ⟨oc__law_alike, od__law_alike, .func (PySem.W.fnOf "_law_alike" "_law_alike" (defArgs (top 25)) (defBody (top 25)) (defScope (top 25)) .none kV__law_alike dc__law_alike pm__law_alike an__law_alike cd__law_alike ct__law_alike), sl__law_alike⟩) (c__law_alike : PySem.W.codeIn K cd__law_alike "_law_alike" = true) (k__law_alike : PySem.W.keepIn K (.ref f__law_alike') = true)
    (a__law_piece : PySem.W.nsIn K mainGlobals "_law_piece" = some (some (.ref f__law_piece'))) (l__law_piece : K.lookup f__law_piece' = some ⟨oc__law_piece, od__law_piece, .func (PySem.W.fnOf "_law_piece" "_law_piece" (defArgs (top 26)) (defBody (top 26)) (defScope (top 26)) .none kV__law_piece dc__law_piece pm__law_piece an__law_piece cd__law_piece ct__law_piece), sl__law_piece⟩) (c__law_piece : PySem.W.codeIn K cd__law_piece "_law_piece" = true) (k__law_piece : PySem.W.keepIn K (.ref f__law_piece') = true)
    (a__law_choices : PySem.W.nsIn K mainGlobals "_law_choices" = some (some (.ref f__law_choices'))) (l__law_choices : K.lookup f__law_choices' = some ⟨oc__law_choices, od__law_choices, .func (PySem.W.fnOf "_law_choices" "_law_choices" (defArgs (top 27)) (defBody (top 27)) (defScope (top 27)) .none kV__law_choices dc__law_choices pm__law_choices an__law_choices cd__law_choices ct__law_choices), sl__law_choices⟩) (c__law_choices : PySem.W.codeIn K cd__law_choices "_law_choices" = true) (k__law_choices : PySem.W.keepIn K (.ref f__law_choices') = true)
    (a__law_one_list : PySem.W.nsIn K mainGlobals "_law_one_list" = some (some (.ref f__law_one_list'))) (l__law_one_list : K.lookup f__law_one_list' = some ⟨oc__law_one_list, od__law_one_list, .func (PySem.W.fnOf "_law_one_list" "_law_one_list" (defArgs (top 28)) (defBody (top 28)) (defScope (top 28)) .none kV__law_one_list dc__law_one_list pm__law_one_list an__law_one_list cd__law_one_list ct__law_one_list), sl__law_one_list⟩) (c__law_one_list : PySem.W.codeIn K cd__law_one_list "_law_one_list" = true) (k__law_one_list : PySem.W.keepIn K (.ref f__law_one_list') = true)
    (a__law_table : PySem.W.nsIn K mainGlobals "_law_table" = some (some (.ref f__law_table'))) (l__law_table : K.lookup f__law_table' = some ⟨oc__law_table, od__law_table, .func (PySem.W.fnOf "_law_table" "_law_table" (defArgs (top 29)) (defBody (top 29)) (defScope (top 29)) .none kV__law_table dc__law_table pm__law_table an__law_table cd__law_table ct__law_table), sl__law_table⟩) (c__law_table : PySem.W.codeIn K cd__law_table "_law_table" = true) (k__law_table : PySem.W.keepIn K (.ref f__law_table') = true)
    (a__law_best : PySem.W.nsIn K mainGlobals "_law_best" = some (some (.ref f__law_best'))) (l__law_best : K.lookup f__law_best' = some ⟨oc__law_best, od__law_best, .func (PySem.W.fnOf "_law_best" "_law_best" (defArgs (top 30)) (defBody (top 30)) (defScope (top 30)) .none kV__law_best dc__law_best pm__law_best an__law_best cd__law_best ct__law_best), sl__law_best⟩) (c__law_best : PySem.W.codeIn K cd__law_best "_law_best" = true) (k__law_best : PySem.W.keepIn K (.ref f__law_best') = true)
    (a__law_even : PySem.W.nsIn K mainGlobals "_law_even" = some (some (.ref f__law_even'))) (l__law_even : K.lookup f__law_even' = some ⟨oc__law_even, od__law_even, .func (PySem.W.fnOf "_law_even" "_law_even" (defArgs (top 32)) (defBody (top 32)) (defScope (top 32)) .none kV__law_even dc__law_even pm__law_even an__law_even cd__law_even ct__law_even), sl__law_even⟩) (c__law_even : PySem.W.codeIn K cd__law_even "_law_even" = true) (k__law_even : PySem.W.keepIn K (.ref f__law_even') = true)
    (a_law : PySem.W.nsIn K mainGlobals "law" = some (some (.ref f_law'))) (l_law : K.lookup f_law' = some ⟨oc_law, od_law, .func (PySem.W.fnOf "law" "law" (defArgs (top 33)) (defBody (top 33)) (defScope (top 33)) .none kV_law dc_law pm_law an_law cd_law ct_law), sl_law⟩) (c_law : PySem.W.codeIn K cd_law "law" = true) (k_law : PySem.W.keepIn K (.ref f_law') = true)
    : ∃ fd : FuncData, (∀ (s : Shared) (v : Value), BindsTo s fd ⟨[v], []⟩ [("script", v)]) ∧ ∀ base : Heap, K.In base → base.Ns mainGlobals mg → (∀ p ∈ ([] : List (Addr × Addr)), LamX.TabB base mg p.1 p.2) → RunTop PySem.Challenge.pw_basketfair_k29_greatest_excess_and_cheap w K mg base (L2.CX PySem.Challenge.pw_basketfair_k29_greatest_excess_and_cheap w) fa fd ["script"] (spTop K []) := by
  have e := hfa.symm.trans (PySem.W.mg_of X G a_law)
  cases e
  have T : Txt PySem.Challenge.pw_basketfair_k29_greatest_excess_and_cheap w K mg := ⟨PySem.W.mg_none_of X G z_abs, PySem.W.mg_none_of X G z_bool, PySem.W.mg_none_of X G z_enumerate, PySem.W.mg_none_of X G z_int, PySem.W.mg_none_of X G z_isinstance, PySem.W.mg_none_of X G z_len, PySem.W.mg_none_of X G z_list, PySem.W.mg_none_of X G z_max, PySem.W.mg_none_of X G z_min, PySem.W.mg_none_of X G z_range, PySem.W.mg_none_of X G z_set, PySem.W.mg_none_of X G z_sorted, PySem.W.mg_none_of X G z_str, PySem.W.mg_none_of X G z_tuple, PySem.W.mg_none_of X G z_zip, gv_int (PySem.W.mg_of X G v_MOST_OF_DEAL)⟩
  have EC_Refused : ErC PySem.Challenge.pw_basketfair_k29_greatest_excess_and_cheap K mg "Refused" C_Refused i_Refused ca_Refused cc_Refused := ⟨PySem.W.mg_of X G xa_Refused, ⟨⟨_, _, _, _, _, _, _, _, _, _, _, _, _, _, _, xb_Refused, xc_Refused⟩, xd_Refused, xe_Refused, xf_Refused, xg_Refused⟩, xh_Refused, xi_Refused, xl_Refused, ⟨_, _, _, xm_Refused⟩, xn_Refused, xo_Refused, xp_Refused, xq_Refused, xr_Refused, by decide +kernel, PySem.W.mg_none_of X G xs_Refused⟩
  have G_one_piece := fun_mk (st := top 5) l_one_piece c_one_piece k_one_piece
  have B_one_piece := G_one_piece.binds (ps := ["shop", "at"]) fun _ _ _ _ _ _ us hl => match us, hl with | [_, _], _ => rfl
  have G_choices_of := fun_mk (st := top 6) l_choices_of c_choices_of k_choices_of
  have B_choices_of := G_choices_of.binds (ps := ["shop"]) fun _ _ _ _ _ _ us hl => match us, hl with | [_], _ => rfl
  have G_need_one := fun_mk (st := top 9) l_need_one c_need_one k_need_one
  have B_need_one := G_need_one.binds (ps := ["shop"]) fun _ _ _ _ _ _ us hl => match us, hl with | [_], _ => rfl
  have G_plain_choices := fun_mk (st := top 10) l_plain_choices c_plain_choices k_plain_choices
  have B_plain_choices := G_plain_choices.binds (ps := ["shop"]) fun _ _ _ _ _ _ us hl => match us, hl with | [_], _ => rfl
  have G_best_rate := fun_mk (st := top 11) l_best_rate c_best_rate k_best_rate
  have B_best_rate := G_best_rate.binds (ps := ["shop"]) fun _ _ _ _ _ _ us hl => match us, hl with | [_], _ => rfl
  have G_table_of := fun_mk (st := top 12) l_table_of c_table_of k_table_of
  have B_table_of := G_table_of.binds (ps := ["shop", "many"]) fun _ _ _ _ _ _ us hl => match us, hl with | [_, _], _ => rfl
  have G_calm_from := fun_mk (st := top 13) l_calm_from c_calm_from k_calm_from
  have B_calm_from := G_calm_from.binds (ps := ["shop"]) fun _ _ _ _ _ _ us hl => match us, hl with | [_], _ => rfl
  have G_many_price := fun_mk (st := top 14) l_many_price c_many_price k_many_price
  have B_many_price := G_many_price.binds (ps := ["shop", "many"]) fun _ _ _ _ _ _ us hl => match us, hl with | [_, _], _ => rfl
  have G_excess := fun_mk (st := top 15) l_excess c_excess k_excess
  have B_excess := G_excess.binds (ps := ["shop", "many"]) fun _ _ _ _ _ _ us hl => match us, hl with | [_, _], _ => rfl
  have G_gain_of := fun_mk (st := top 16) l_gain_of c_gain_of k_gain_of
  have B_gain_of := G_gain_of.binds (ps := ["told", "calm", "pieces", "period"]) fun _ _ _ _ _ _ us hl => match us, hl with | [_, _, _, _], _ => rfl
  have G_round_of := fun_mk (st := top 17) l_round_of c_round_of k_round_of
  have B_round_of := G_round_of.binds (ps := ["shop"]) fun _ _ _ _ _ _ us hl => match us, hl with | [_], _ => rfl
  have G_worst := fun_mk (st := top 18) l_worst c_worst k_worst
  have B_worst := G_worst.binds (ps := ["shop"]) fun _ _ _ _ _ _ us hl => match us, hl with | [_], _ => rfl
  have G_even_from := fun_mk (st := top 19) l_even_from c_even_from k_even_from
  have B_even_from := G_even_from.binds (ps := ["shop"]) fun _ _ _ _ _ _ us hl => match us, hl with | [_], _ => rfl
  have G_cheaper_more := fun_mk (st := top 20) l_cheaper_more c_cheaper_more k_cheaper_more
  have B_cheaper_more := G_cheaper_more.binds (ps := ["shop"]) fun _ _ _ _ _ _ us hl => match us, hl with | [_], _ => rfl
  have G__law_bag := fun_mk (st := top 22) l__law_bag c__law_bag k__law_bag
  have B__law_bag := G__law_bag.binds (ps := ["script"]) fun _ _ _ _ _ _ us hl => match us, hl with | [_], _ => rfl
  have G__law_take := fun_mk (st := top 23) l__law_take c__law_take k__law_take
  have B__law_take := G__law_take.binds (ps := ["bag", "many"]) fun _ _ _ _ _ _ us hl => match us, hl with | [_, _], _ => rfl
  have G__law_some := fun_mk (st := top 24) l__law_some c__law_some k__law_some
  have B__law_some := G__law_some.binds (ps := ["bag", "things"]) fun _ _ _ _ _ _ us hl => match us, hl with | [_, _], _ => rfl
  have G__law_alike := fun_mk (st := top 25) l__law_alike c__law_alike k__law_alike
  have B__law_alike := G__law_alike.binds (ps := ["found", "due"]) fun _ _ _ _ _ _ us hl => match us, hl with | [_, _], _ => rfl
  have G__law_piece := fun_mk (st := top 26) l__law_piece c__law_piece k__law_piece
  have B__law_piece := G__law_piece.binds (ps := ["many", "at"]) fun _ _ _ _ _ _ us hl => match us, hl with | [_, _], _ => rfl
  have G__law_choices := fun_mk (st := top 27) l__law_choices c__law_choices k__law_choices
  have B__law_choices := G__law_choices.binds (ps := ["shop"]) fun _ _ _ _ _ _ us hl => match us, hl with | [_], _ => rfl
  have G__law_one_list := fun_mk (st := top 28) l__law_one_list c__law_one_list k__law_one_list
  have B__law_one_list := G__law_one_list.binds (ps := ["bag"]) fun _ _ _ _ _ _ us hl => match us, hl with | [_], _ => rfl
  have G__law_table := fun_mk (st := top 29) l__law_table c__law_table k__law_table
  have B__law_table := G__law_table.binds (ps := ["shop", "most"]) fun _ _ _ _ _ _ us hl => match us, hl with | [_, _], _ => rfl
  have G__law_best := fun_mk (st := top 30) l__law_best c__law_best k__law_best
  have B__law_best := G__law_best.binds (ps := ["shop"]) fun _ _ _ _ _ _ us hl => match us, hl with | [_], _ => rfl
  have G__law_even := fun_mk (st := top 32) l__law_even c__law_even k__law_even
  have B__law_even := G__law_even.binds (ps := ["left"]) fun _ _ _ _ _ _ us hl => match us, hl with | [_], _ => rfl
  refine ⟨PySem.W.fnOf "law" "law" (defArgs (top 33)) (defBody (top 33)) (defScope (top 33)) .none kV_law dc_law pm_law an_law cd_law ct_law, fun s v => .of_eq rfl, fun base _ _ TB => ?_⟩
  have E_Refused : Er PySem.Challenge.pw_basketfair_k29_greatest_excess_and_cheap w K mg base 1 "Refused" ["why"] := er1 EC_Refused xj_Refused xk_Refused xtwhy_Refused rfl ⟨rfl, rfl, rfl, by decide +kernel, rfl, by decide +kernel, by decide +kernel, by decide +kernel, by decide +kernel⟩ ⟨_, rfl, rfl⟩ (by decide) (by decide) (fun us hl => match us, hl with | [_, _], _ => rfl) (fun _ => rfl)
  have F_one_piece : Fn PySem.Challenge.pw_basketfair_k29_greatest_excess_and_cheap w K mg base 1 "one_piece" 2 f_one_piece := fn_one_piece T  G_one_piece (PySem.W.mg_of X G a_one_piece) B_one_piece
  have F_gain_of : Fn PySem.Challenge.pw_basketfair_k29_greatest_excess_and_cheap w K mg base 1 "gain_of" 4 f_gain_of := fn_gain_of T  G_gain_of (PySem.W.mg_of X G a_gain_of) B_gain_of
  have F__law_bag : Fn PySem.Challenge.pw_basketfair_k29_greatest_excess_and_cheap w K mg base 1 "_law_bag" 1 f__law_bag := fn__law_bag T  G__law_bag (PySem.W.mg_of X G a__law_bag) B__law_bag
  have F__law_take : Fn PySem.Challenge.pw_basketfair_k29_greatest_excess_and_cheap w K mg base 1 "_law_take" 2 f__law_take := fn__law_take T  G__law_take (PySem.W.mg_of X G a__law_take) B__law_take
  have F__law_alike : Fn PySem.Challenge.pw_basketfair_k29_greatest_excess_and_cheap w K mg base 1 "_law_alike" 2 f__law_alike := fn__law_alike T  G__law_alike (PySem.W.mg_of X G a__law_alike) B__law_alike
  have F__law_piece : Fn PySem.Challenge.pw_basketfair_k29_greatest_excess_and_cheap w K mg base 1 "_law_piece" 2 f__law_piece := fn__law_piece T  G__law_piece (PySem.W.mg_of X G a__law_piece) B__law_piece
  have F__law_even : Fn PySem.Challenge.pw_basketfair_k29_greatest_excess_and_cheap w K mg base 1 "_law_even" 1 f__law_even := fn__law_even T  G__law_even (PySem.W.mg_of X G a__law_even) B__law_even
  have F_choices_of : Fn PySem.Challenge.pw_basketfair_k29_greatest_excess_and_cheap w K mg base 2 "choices_of" 1 f_choices_of := fn_choices_of T F_one_piece G_choices_of (PySem.W.mg_of X G a_choices_of) B_choices_of
  have F__law_some : Fn PySem.Challenge.pw_basketfair_k29_greatest_excess_and_cheap w K mg base 2 "_law_some" 2 f__law_some := fn__law_some T F__law_take G__law_some (PySem.W.mg_of X G a__law_some) B__law_some
  have F__law_choices : Fn PySem.Challenge.pw_basketfair_k29_greatest_excess_and_cheap w K mg base 2 "_law_choices" 1 f__law_choices := fn__law_choices T F__law_piece G__law_choices (PySem.W.mg_of X G a__law_choices) B__law_choices
  have F_need_one : Fn PySem.Challenge.pw_basketfair_k29_greatest_excess_and_cheap w K mg base 3 "need_one" 1 f_need_one := fn_need_one T E_Refused G_need_one (PySem.W.mg_of X G a_need_one) B_need_one
  have F_plain_choices : Fn PySem.Challenge.pw_basketfair_k29_greatest_excess_and_cheap w K mg base 3 "plain_choices" 1 f_plain_choices := fn_plain_choices T F_choices_of G_plain_choices (PySem.W.mg_of X G a_plain_choices) B_plain_choices
  have F__law_one_list : Fn PySem.Challenge.pw_basketfair_k29_greatest_excess_and_cheap w K mg base 3 "_law_one_list" 1 f__law_one_list := fn__law_one_list T F__law_some F__law_take G__law_one_list (PySem.W.mg_of X G a__law_one_list) B__law_one_list
  have F__law_table : Fn PySem.Challenge.pw_basketfair_k29_greatest_excess_and_cheap w K mg base 3 "_law_table" 2 f__law_table := fn__law_table T F__law_choices G__law_table (PySem.W.mg_of X G a__law_table) B__law_table
  have F__law_best : Fn PySem.Challenge.pw_basketfair_k29_greatest_excess_and_cheap w K mg base 3 "_law_best" 1 f__law_best := fn__law_best T F__law_choices G__law_best (PySem.W.mg_of X G a__law_best) B__law_best
  have F_best_rate : Fn PySem.Challenge.pw_basketfair_k29_greatest_excess_and_cheap w K mg base 4 "best_rate" 1 f_best_rate := fn_best_rate T F_need_one F_plain_choices G_best_rate (PySem.W.mg_of X G a_best_rate) B_best_rate
  have F_table_of : Fn PySem.Challenge.pw_basketfair_k29_greatest_excess_and_cheap w K mg base 4 "table_of" 2 f_table_of := fn_table_of T F_plain_choices G_table_of (PySem.W.mg_of X G a_table_of) B_table_of
  have F_calm_from : Fn PySem.Challenge.pw_basketfair_k29_greatest_excess_and_cheap w K mg base 5 "calm_from" 1 f_calm_from := fn_calm_from T F_best_rate G_calm_from (PySem.W.mg_of X G a_calm_from) B_calm_from
  have F_many_price : Fn PySem.Challenge.pw_basketfair_k29_greatest_excess_and_cheap w K mg base 6 "many_price" 2 f_many_price := fn_many_price T F_best_rate F_calm_from F_table_of G_many_price (PySem.W.mg_of X G a_many_price) B_many_price
  have F_round_of : Fn PySem.Challenge.pw_basketfair_k29_greatest_excess_and_cheap w K mg base 6 "round_of" 1 f_round_of := fn_round_of T F_best_rate F_calm_from F_gain_of F_table_of G_round_of (PySem.W.mg_of X G a_round_of) B_round_of
  have F_even_from : Fn PySem.Challenge.pw_basketfair_k29_greatest_excess_and_cheap w K mg base 6 "even_from" 1 f_even_from := fn_even_from T F_best_rate F_calm_from F_table_of G_even_from (PySem.W.mg_of X G a_even_from) B_even_from
  have F_excess : Fn PySem.Challenge.pw_basketfair_k29_greatest_excess_and_cheap w K mg base 7 "excess" 2 f_excess := fn_excess T F_best_rate F_many_price G_excess (PySem.W.mg_of X G a_excess) B_excess
  have F_cheaper_more : Fn PySem.Challenge.pw_basketfair_k29_greatest_excess_and_cheap w K mg base 7 "cheaper_more" 1 f_cheaper_more := fn_cheaper_more T F_many_price F_round_of G_cheaper_more (PySem.W.mg_of X G a_cheaper_more) B_cheaper_more
  have F_worst : Fn PySem.Challenge.pw_basketfair_k29_greatest_excess_and_cheap w K mg base 8 "worst" 1 f_worst := fn_worst T F_best_rate F_excess G_worst (PySem.W.mg_of X G a_worst) B_worst
  exact ok_law T F__law_alike F__law_bag F__law_best F__law_even F__law_one_list F__law_table F__law_take F_cheaper_more F_even_from F_round_of F_worst l_law c_law hlaw
end DL

set_option Elab.async false
set_option linter.all false
set_option maxRecDepth 100000
set_option maxHeartbeats 4000000
namespace DL
open PySem PySem.Spec PyProof.Rows L2

/-! ### the bag that is drawn from -/
def bagL (b0 b1 b2 : Int) (cs : List Int) : List PyData := [.int b0, .int b1, .int b2, .list (cs.map PyData.int)]
/-- the bag stands first in the store; n draws are left -/
def Bag (pre : Sto) (n : Nat) (rest S : Sto) : Prop := ∃ (b0 b1 b2 : Int) (cs : List Int), S = pre ++ .lst (bagL b0 b1 b2 cs) :: rest ∧ 0 ≤ b0 ∧ 0 ≤ b1 ∧ b1 < 2147483647 ∧ 0 ≤ b2 ∧ b2 + n ≤ 1000000000 ∧ (∀ c ∈ cs, 0 ≤ c) ∧ cs.length ≤ 63
theorem Bag.mono {m n : Nat} {pre rest S : Sto} (h : Bag pre n rest S) (hm : m ≤ n) : Bag pre m rest S := by
  obtain ⟨b0, b1, b2, cs, e, h0, h1, h2, h3, h4, h5⟩ := h
  exact ⟨b0, b1, b2, cs, e, h0, h1, h2, h3, by omega, h5⟩
theorem Bag.len {n : Nat} {pre rest S : Sto} (h : Bag pre n rest S) : S.length = pre.length + rest.length + 1 := by
  obtain ⟨b0, b1, b2, cs, e, _⟩ := h
  rw [e, List.length_append, List.length_cons]; omega
theorem pre_get {pre rest : Sto} {x : MO} : (pre ++ x :: rest)[pre.length]? = some x := by
  rw [List.getElem?_append_right (Nat.le_refl _), Nat.sub_self]; rfl
theorem pre_set {pre rest : Sto} {x y : MO} : (pre ++ x :: rest).set pre.length y = pre ++ y :: rest := by
  rw [List.set_append_right _ _ (Nat.le_refl _), Nat.sub_self]; rfl
theorem call1 {α : Type} (w : Wv) (x y : α) : (if [w].length = 1 then x else y) = x := rfl
theorem call2 {α : Type} (w u : Wv) (x y : α) : (if [w, u].length = 2 then x else y) = x := rfl
theorem lo0 : litOk ([] : List PyData).length = true := by decide
theorem lo1 (a : PyData) : litOk [a].length = true := by show litOk 1 = true; decide
theorem lo2 (a b : PyData) : litOk [a, b].length = true := by show litOk 2 = true; decide
theorem lo3 (a b c : PyData) : litOk [a, b, c].length = true := by show litOk 3 = true; decide
theorem lo4 (a b c d : PyData) : litOk [a, b, c, d].length = true := by show litOk 4 = true; decide
theorem lo5 (a b c d e : PyData) : litOk [a, b, c, d, e].length = true := by show litOk 5 = true; decide
theorem at_0 (a b c d : PyData) : atI [a, b, c, d] 0 = some a := rfl
theorem at_1 (a b c d : PyData) : atI [a, b, c, d] 1 = some b := rfl
theorem at_2 (a b c d : PyData) : atI [a, b, c, d] 2 = some c := rfl
theorem at_3 (a b c d : PyData) : atI [a, b, c, d] 3 = some d := rfl
theorem lg400 (n : Nat) (h : n < 2 ^ 400) : n.log2 < 400 := by
  by_cases hn : n = 0
  · subst hn; decide
  · exact (Nat.log2_lt hn).mpr h
theorem mulOk_small {i j : Int} (h1 : i.natAbs < 2 ^ 400) (h2 : j.natAbs < 2 ^ 400) : mulOk i j = true := by
  unfold mulOk
  have h3 := lg400 _ h1
  have h4 := lg400 _ h2
  exact decide_eq_true (Nat.lt_trans (Nat.add_lt_add h3 h4) (by decide))
theorem drop_ints {cs : List Int} (h : ∀ c ∈ cs, 0 ≤ c) (lo hi : Option Int) : ∃ ds : List Int, cutD (cs.map PyData.int) lo hi = ds.map PyData.int ∧ (∀ c ∈ ds, 0 ≤ c) ∧ ds.length ≤ cs.length := by
  refine ⟨(cs.drop (HT.sIx cs.length 0 lo)).take (HT.sIx cs.length cs.length hi - HT.sIx cs.length 0 lo), ?_, fun c hc => h c (List.mem_of_mem_drop (List.mem_of_mem_take hc)), ?_⟩
  · unfold cutD
    rw [List.length_map, List.map_take, List.map_drop]
  · rw [List.length_take, List.length_drop]; omega
theorem first_cell {ds : List Int} (h : ∀ c ∈ ds, 0 ≤ c) : ∃ c : Int, 0 ≤ c ∧ atI (ds.map PyData.int ++ [.int 0]) 0 = some (.int c) := by
  cases ds with
  | nil => exact ⟨0, Int.le_refl _, rfl⟩
  | cons c r => 
    refine ⟨c, h c (by simp), ?_⟩
    unfold atI ixN
    rw [if_pos (Int.le_refl 0), if_pos (by simp; omega)]
    rfl
theorem fmod_range (a : Int) {m : Int} (h : 0 < m) : 0 ≤ a.fmod m ∧ a.fmod m < m := ⟨Int.fmod_nonneg_of_pos a h, Int.fmod_lt_of_pos a h⟩
theorem eqv_int (a b : Int) : PyData.eqv (.int a) (.int b) = (a == b) := by simp [PyData.eqv]
theorem eqD_int (a b : Int) : eqD (.int a) (.int b) = some (.bool (a == b)) := by
  unfold eqD
  rw [if_pos (by rfl), eqv_int]
theorem neD_int (a b : Int) : neD (.int a) (.int b) = some (.bool (!(a == b))) := by
  unfold neD
  rw [if_pos (by rfl), eqv_int]
theorem ixSet4 (a b c d x : PyData) : ixSet [a, b, c, d] 0 x = some [x, b, c, d] ∧ ixSet [a, b, c, d] 1 x = some [a, x, c, d] ∧ ixSet [a, b, c, d] 2 x = some [a, b, x, d] := ⟨rfl, rfl, rfl⟩
/-- the second half of a draw -/
noncomputable def takeB : SF := (sSeq (sIf (tCmpB gtD (eBin ixD (eVar 0) (eC (.int 0))) (eC (.int 0))) (sSeq (sSet 4 (eBin modD (eB intG (lCons (eBin ixD (eVar 0) (eC (.int 0))) lNil)) (eVar 1))) (sSeq (sPut (eVar 0) (eC (.int 0)) (eBin fdivD (eB intG (lCons (eBin ixD (eVar 0) (eC (.int 0))) lNil)) (eVar 1))) (sRet (eVar 4)))) sNil) (sSeq (sSet 5 (eBin modD (eB intG (lCons (eBin mulD (eBin addD (eBin ixD (eVar 0) (eC (.int 1))) (eC (.int 1))) (eC (.int 39373))) lNil)) (eC (.int 1000000007)))) (sSeq (sSet 6 (eBin modD (eB intG (lCons (eBin mulD (eBin modD (eB intG (lCons (eBin mulD (eVar 5) (eVar 5)) lNil)) (eC (.int 998244353))) (eC (.int 30011))) lNil)) (eC (.int 998244353)))) (sRet (eBin modD (eB intG (lCons (eBin fdivD (eVar 6) (eC (.int 7))) lNil)) (eVar 1))))))
theorem take_half {many b0 b1 b2 : Int} {cs : List Int} {n : Nat} {pre rest : Sto} {w2 w3 w4 w5 w6 : Option Wv} (hm : 0 < many) (hml : many.natAbs.log2 < 9000) (h0 : 0 ≤ b0) (h1 : 0 ≤ b1) (h2 : b1 < 2147483647) (h3 : 0 ≤ b2) (h4 : b2 + n ≤ 1000000000) (h5 : ∀ c ∈ cs, 0 ≤ c) (h6 : cs.length ≤ 63) :
    ∃ r S', takeB [some (.own pre.length), some (.d (.int many)), w2, w3, w4, w5, w6] (pre ++ .lst (bagL b0 b1 b2 cs) :: rest) = .fl (.rt (.d (.int r))) S' ∧ 0 ≤ r ∧ r < many ∧ Bag pre n rest S' := by
  have hmne : many ≠ 0 := by omega
  have hdv : divOk many = true := decide_eq_true ⟨hmne, hml⟩
  by_cases hb : 0 < b0
  · refine ⟨b0.fmod many, pre ++ .lst (bagL (b0.fdiv many) b1 b2 cs) :: rest, ?_, (fmod_range b0 hm).1, (fmod_range b0 hm).2, b0.fdiv many, b1, b2, cs, rfl, Int.fdiv_nonneg h0 (by omega), h1, h2, h3, h4, h5, h6⟩
    simp only [takeB, bagL, hb, hmne, fdivD, hdv, pre_get, pre_set, sSeq, sIf, tCmpB, tChB, tTru, tAndB, tOrB, tNotB, eAnd, eOr, eNot, truW, truD, eBin, eCh, eIf, eVar, eC, Rs.bind, op2, bool2, view, List.getElem?_cons_zero, List.getElem?_cons_succ, ixD, at_0, at_1, at_2, at_3, gtD, ltD, leD, geD, decide_true, decide_false, bindS, seqR, sSet, eB, lCons, lNil, opN, views, Option.map, Option.some.injEq, intG, absG, lenG, modD, addD, subD, iaddD, if_true, if_false, reduceIte, call1, call2, lo0, lo1, lo2, lo3, lo4, lo5, List.set, sPut, sAugI, sAug, frzW, eFrz, ownL, ixSet4, sRet, sExpr, eOwn, eFz, mLst, dats, sNil, sRetN, eqD_int, neD_int, oSom, oNon, eSl, slD, Bool.false_eq_true, Bool.not_true, Bool.not_false, eTup, sPar, eCall, List.length_cons, List.length_nil, sAsg]
  · have hb0 : ¬ (0 < b0) := hb
    have hd7 : divOk 7 = true := by decide
    have m1 : mulOk (b1 + 1) 39373 = true := mulOk_small (by omega) (by decide)
    have g0 := fmod_range ((b1 + 1) * 39373) (m := 1000000007) (by decide)
    have m2 : mulOk (((b1 + 1) * 39373).fmod 1000000007) (((b1 + 1) * 39373).fmod 1000000007) = true := mulOk_small (by omega) (by omega)
    generalize hB : ((b1 + 1) * 39373).fmod 1000000007 = B at *
    have g1 := fmod_range (B * B) (m := 998244353) (by decide)
    have m3 : mulOk ((B * B).fmod 998244353) 30011 = true := mulOk_small (by omega) (by decide)
    generalize hC : (B * B).fmod 998244353 = C at *
    have c1 : (1000000007 : Int) ≠ 0 := by decide
    have c2 : (998244353 : Int) ≠ 0 := by decide
    refine ⟨(((C * 30011).fmod 998244353).fdiv 7).fmod many, pre ++ .lst (bagL b0 b1 b2 cs) :: rest, ?_, (fmod_range _ hm).1, (fmod_range _ hm).2, b0, b1, b2, cs, rfl, h0, h1, h2, h3, h4, h5, h6⟩
    simp only [takeB, bagL, hb0, hmne, fdivD, hd7, mulD, m1, m2, m3, hB, hC, c1, c2, pre_get, pre_set, sSeq, sIf, tCmpB, tChB, tTru, tAndB, tOrB, tNotB, eAnd, eOr, eNot, truW, truD, eBin, eCh, eIf, eVar, eC, Rs.bind, op2, bool2, view, List.getElem?_cons_zero, List.getElem?_cons_succ, ixD, at_0, at_1, at_2, at_3, gtD, ltD, leD, geD, decide_true, decide_false, bindS, seqR, sSet, eB, lCons, lNil, opN, views, Option.map, Option.some.injEq, intG, absG, lenG, modD, addD, subD, iaddD, if_true, if_false, reduceIte, call1, call2, lo0, lo1, lo2, lo3, lo4, lo5, List.set, sPut, sAugI, sAug, frzW, eFrz, ownL, ixSet4, sRet, sExpr, eOwn, eFz, mLst, dats, sNil, sRetN, eqD_int, neD_int, oSom, oNon, eSl, slD, Bool.false_eq_true, Bool.not_true, Bool.not_false, eTup, sPar, eCall, List.length_cons, List.length_nil, sAsg]
theorem powD_18 : powD (.int 10) (.int 18) = some (.int (10 ^ 18)) := rfl
theorem Bag.cut {n : Nat} {pre rest S S' : Sto} (h : Bag pre n rest S) (h' : S'.length = pre.length + rest.length + 1) : S.take S'.length = S := by
  rw [h', ← h.len, List.take_length]
theorem run_ret {nn ar : Nat} {b : SF} {ws : List Wv} {S S' : Sto} {d : PyData} (h : b (ws.map some ++ List.replicate (nn - ar) none) S = .fl (.rt (.d d)) S') : runDef nn ar b ws S = .ok (.d d) (S'.take S.length) := by
  unfold runDef
  rw [h]
  rfl
theorem take_sem {n : Nat} {many : Int} {pre rest S : Sto} (hB : Bag pre (n + 1) rest S) (hm : 0 < many) (hml : many.natAbs.log2 < 9000) : ∃ r S', f__law_take [.own pre.length, .d (.int many)] S = .ok (.d (.int r)) S' ∧ 0 ≤ r ∧ r < many ∧ Bag pre n rest S' := by
  obtain ⟨b0, b1, b2, cs, e, h0, h1, h2, h3, h4, h5, h6⟩ := id hB
  have key : ∃ r S', b__law_take [some (.own pre.length), some (.d (.int many)), none, none, none, none, none] S = .fl (.rt (.d (.int r))) S' ∧ 0 ≤ r ∧ r < many ∧ Bag pre n rest S' := by
    subst e
    by_cases hb : b0 = 0
    · subst hb
      obtain ⟨ds, e1, e2, e3⟩ := drop_ints h5 (some b2) none
      obtain ⟨c, c0, e4⟩ := first_cell e2
      have hlen : (ds.map PyData.int).length + (0 + 1) ≤ sizeLine := by
        rw [List.length_map]
        have : (100 : Nat) ≤ sizeLine := by decide
        omega
      have hzero : ((0 : Int) == 0) = true := rfl
      have hl1 : litOk (0 + 1) = true := by decide
      have nz : (2147483647 : Int) ≠ 0 := by decide
      have m1 : mulOk b1 48271 = true := mulOk_small (by omega) (by decide)
      have m2 : mulOk 7919 (b2 + 1) = true := mulOk_small (by decide) (by omega)
      have gs := fmod_range (b1 * 48271 + c.fmod 2147483647 + 7919 * (b2 + 1)) (m := 2147483647) (by decide)
      by_cases hc : (10 ^ 18 : Int) ≤ c
      · obtain ⟨r, S', g1, g2⟩ := take_half (pre := pre) (rest := rest) (w2 := some (.d (.int c))) (w3 := some (.d (.int (b1 * 48271 + c.fmod 2147483647 + 7919 * (b2 + 1))))) (w4 := none) (w5 := none) (w6 := none) (b0 := c) (b1 := (b1 * 48271 + c.fmod 2147483647 + 7919 * (b2 + 1)).fmod 2147483647) (b2 := b2 + 1) (n := n) hm hml c0 gs.1 gs.2 (by omega) (by omega) h5 h6
        refine ⟨r, S', ?_, g2⟩
        rw [← g1]
        show seqR _ takeB = _
        simp only [bagL, e1, e4, hlen, hzero, hl1, powD_18, hc, mulD, m1, m2, nz, pre_get, pre_set, sSeq, sIf, tCmpB, tChB, tTru, tAndB, tOrB, tNotB, eAnd, eOr, eNot, truW, truD, eBin, eCh, eIf, eVar, eC, Rs.bind, op2, bool2, view, List.getElem?_cons_zero, List.getElem?_cons_succ, ixD, at_0, at_1, at_2, at_3, gtD, ltD, leD, geD, decide_true, decide_false, bindS, seqR, sSet, eB, lCons, lNil, opN, views, Option.map, Option.some.injEq, intG, absG, lenG, modD, addD, subD, iaddD, if_true, if_false, reduceIte, call1, call2, lo0, lo1, lo2, lo3, lo4, lo5, List.set, sPut, sAugI, sAug, frzW, eFrz, ownL, ixSet4, sRet, sExpr, eOwn, eFz, mLst, dats, sNil, sRetN, eqD_int, neD_int, oSom, oNon, eSl, slD, Bool.false_eq_true, Bool.not_true, Bool.not_false, eTup, sPar, eCall, List.length_cons, List.length_nil, sAsg]
      · obtain ⟨r, S', g1, g2⟩ := take_half (pre := pre) (rest := rest) (w2 := some (.d (.int c))) (w3 := some (.d (.int (b1 * 48271 + c.fmod 2147483647 + 7919 * (b2 + 1))))) (w4 := none) (w5 := none) (w6 := none) (b0 := 0) (b1 := (b1 * 48271 + c.fmod 2147483647 + 7919 * (b2 + 1)).fmod 2147483647) (b2 := b2 + 1) (n := n) hm hml (Int.le_refl _) gs.1 gs.2 (by omega) (by omega) h5 h6
        refine ⟨r, S', ?_, g2⟩
        rw [← g1]
        show seqR _ takeB = _
        simp only [bagL, e1, e4, hlen, hzero, hl1, powD_18, hc, mulD, m1, m2, nz, pre_get, pre_set, sSeq, sIf, tCmpB, tChB, tTru, tAndB, tOrB, tNotB, eAnd, eOr, eNot, truW, truD, eBin, eCh, eIf, eVar, eC, Rs.bind, op2, bool2, view, List.getElem?_cons_zero, List.getElem?_cons_succ, ixD, at_0, at_1, at_2, at_3, gtD, ltD, leD, geD, decide_true, decide_false, bindS, seqR, sSet, eB, lCons, lNil, opN, views, Option.map, Option.some.injEq, intG, absG, lenG, modD, addD, subD, iaddD, if_true, if_false, reduceIte, call1, call2, lo0, lo1, lo2, lo3, lo4, lo5, List.set, sPut, sAugI, sAug, frzW, eFrz, ownL, ixSet4, sRet, sExpr, eOwn, eFz, mLst, dats, sNil, sRetN, eqD_int, neD_int, oSom, oNon, eSl, slD, Bool.false_eq_true, Bool.not_true, Bool.not_false, eTup, sPar, eCall, List.length_cons, List.length_nil, sAsg]
    · obtain ⟨r, S', g1, g2⟩ := take_half (pre := pre) (rest := rest) (w2 := none) (w3 := none) (w4 := none) (w5 := none) (w6 := none) (b0 := b0) (b1 := b1) (b2 := b2) (n := n) hm hml h0 h1 h2 h3 (by omega) h5 h6
      refine ⟨r, S', ?_, g2⟩
      rw [← g1]
      have hne : (b0 == 0) = false := by simpa using hb
      show seqR _ takeB = _
      simp only [bagL, hne, pre_get, pre_set, sSeq, sIf, tCmpB, tChB, tTru, tAndB, tOrB, tNotB, eAnd, eOr, eNot, truW, truD, eBin, eCh, eIf, eVar, eC, Rs.bind, op2, bool2, view, List.getElem?_cons_zero, List.getElem?_cons_succ, ixD, at_0, at_1, at_2, at_3, gtD, ltD, leD, geD, decide_true, decide_false, bindS, seqR, sSet, eB, lCons, lNil, opN, views, Option.map, Option.some.injEq, intG, absG, lenG, modD, addD, subD, iaddD, if_true, if_false, reduceIte, call1, call2, lo0, lo1, lo2, lo3, lo4, lo5, List.set, sPut, sAugI, sAug, frzW, eFrz, ownL, ixSet4, sRet, sExpr, eOwn, eFz, mLst, dats, sNil, sRetN, eqD_int, neD_int, oSom, oNon, eSl, slD, Bool.false_eq_true, Bool.not_true, Bool.not_false, eTup, sPar, eCall, List.length_cons, List.length_nil, sAsg]
  obtain ⟨r, S', g1, g2, g3, g4⟩ := key
  refine ⟨r, S', ?_, g2, g3, g4⟩
  have := run_ret (nn := 7) (ar := 2) (ws := [.own pre.length, .d (.int many)]) g1
  rw [g4.cut hB.len] at this
  exact this
end DL

set_option Elab.async false
set_option linter.all false
set_option maxRecDepth 100000
set_option maxHeartbeats 4000000
namespace DL
open PySem PySem.Spec PyProof.Rows L2
theorem some_sem {n : Nat} {things : List PyData} {pre rest S : Sto} (hB : Bag pre (n + 1) rest S) (hne : things ≠ []) (hl : things.length ≤ 1000000) : ∃ x S', f__law_some [.own pre.length, .d (.list things)] S = .ok (.d x) S' ∧ x ∈ things ∧ Bag pre n rest S' := by
  have hpos : 0 < (things.length : Int) := by
    have : 0 < things.length := List.length_pos_iff.mpr hne
    omega
  have hlg : ((things.length : Nat) : Int).natAbs.log2 < 9000 := by
    have : ((things.length : Nat) : Int).natAbs < 2 ^ 400 := by omega
    exact Nat.lt_trans (lg400 _ this) (by decide)
  obtain ⟨r, S', e, r0, r1, hB'⟩ := take_sem hB hpos hlg
  have hr : r.toNat < things.length := by omega
  have hat : atI things r = some things[r.toNat] := by
    unfold atI ixN
    rw [if_pos r0, if_pos r1]
    simp [hr]
  refine ⟨things[r.toNat], S', ?_, List.getElem_mem _, hB'⟩
  have h2 : b__law_some [some (.own pre.length), some (.d (.list things))] S = .fl (.rt (.d things[r.toNat])) S' := by
    simp only [b__law_some, sSeq, sIf, tCmpB, tChB, tTru, tAndB, tOrB, tNotB, eAnd, eOr, eNot, truW, truD, eBin, eCh, eIf, eVar, eC, Rs.bind, op2, bool2, view, List.getElem?_cons_zero, List.getElem?_cons_succ, ixD, at_0, at_1, at_2, at_3, gtD, ltD, leD, geD, decide_true, decide_false, bindS, seqR, sSet, eB, lCons, lNil, opN, views, Option.map, Option.some.injEq, intG, absG, lenG, modD, addD, subD, iaddD, if_true, if_false, reduceIte, call1, call2, lo0, lo1, lo2, lo3, lo4, lo5, List.set, sPut, sAugI, sAug, frzW, eFrz, ownL, ixSet4, sRet, sExpr, eOwn, eFz, mLst, dats, sNil, sRetN, eqD_int, neD_int, oSom, oNon, eSl, slD, Bool.false_eq_true, Bool.not_true, Bool.not_false, eTup, sPar, eCall, List.length_cons, List.length_nil, sAsg]
    rw [e]
    simp only [hat, sSeq, sIf, tCmpB, tChB, tTru, tAndB, tOrB, tNotB, eAnd, eOr, eNot, truW, truD, eBin, eCh, eIf, eVar, eC, Rs.bind, op2, bool2, view, List.getElem?_cons_zero, List.getElem?_cons_succ, ixD, at_0, at_1, at_2, at_3, gtD, ltD, leD, geD, decide_true, decide_false, bindS, seqR, sSet, eB, lCons, lNil, opN, views, Option.map, Option.some.injEq, intG, absG, lenG, modD, addD, subD, iaddD, if_true, if_false, reduceIte, call1, call2, lo0, lo1, lo2, lo3, lo4, lo5, List.set, sPut, sAugI, sAug, frzW, eFrz, ownL, ixSet4, sRet, sExpr, eOwn, eFz, mLst, dats, sNil, sRetN, eqD_int, neD_int, oSom, oNon, eSl, slD, Bool.false_eq_true, Bool.not_true, Bool.not_false, eTup, sPar, eCall, List.length_cons, List.length_nil, sAsg]
  have := run_ret (nn := 2) (ar := 2) (ws := [.own pre.length, .d (.list things)]) h2
  rw [hB'.cut hB.len] at this
  exact this

/-! ### the comparison -/
mutual
def wgt : PyData → Nat
  | .list l => 1 + wgts l
  | .tuple l => 1 + wgts l
  | _ => 1
def wgts : List PyData → Nat
  | [] => 0
  | x :: r => wgt x + wgts r
end
mutual
/-- data that compare equal to themselves -/
def refl? : PyData → Bool
  | .list l => refls l
  | .tuple l => refls l
  | .dict _ => false
  | _ => true
def refls : List PyData → Bool
  | [] => true
  | x :: r => refl? x && refls r
end
theorem wgts_append : ∀ l m : List PyData, wgts (l ++ m) = wgts l + wgts m
  | [], m => by simp [wgts]
  | x :: l, m => by rw [List.cons_append, wgts, wgts, wgts_append l m]; omega
theorem refls_append : ∀ l m : List PyData, refls (l ++ m) = (refls l && refls m)
  | [], m => by simp [refls]
  | x :: l, m => by rw [List.cons_append, refls, refls, refls_append l m, Bool.and_assoc]
theorem wgt_pos : ∀ x : PyData, 1 ≤ wgt x := fun x => by cases x <;> simp [wgt]
theorem len_wgts : ∀ l : List PyData, l.length ≤ wgts l
  | [] => Nat.le_refl _
  | x :: l => by
    have := wgt_pos x
    have := len_wgts l
    rw [List.length_cons, wgts]; omega
def twin (x : PyData) : PyData := .tuple [x, x]
theorem isiOk_refl {x : PyData} (h : refl? x = true) : isiOk x = true := by cases x <;> first | rfl | cases h
noncomputable def alkC : BF := (tCmpB ltD (eVar 3) (eB lenG (lCons (eVar 2) lNil)))
noncomputable def alkB : SF := (sSeq (sAsg (eBin ixD (eVar 2) (eVar 3)) (gTp 2 (gsCons (gNm 4) (gsCons (gNm 5) gsNil)))) (sSeq (sAug 3 iaddD (eC (.int 1))) (sSeq (sIf (tOrB (tCmpB neD (eIsi ["bool"] (eVar 4)) (eIsi ["bool"] (eVar 5))) (tCmpB neD (eIsi ["str"] (eVar 4)) (eIsi ["str"] (eVar 5)))) (sRet (eC (.bool false))) sNil) (sSeq (sIf (tCmpB neD (eIsi ["tuple", "list"] (eVar 4)) (eIsi ["tuple", "list"] (eVar 5))) (sRet (eC (.bool false))) sNil) (sIf (tTru (eIsi ["tuple", "list"] (eVar 4))) (sSeq (sIf (tOrB (tCmpB neD (eIsi ["tuple"] (eVar 4)) (eIsi ["tuple"] (eVar 5))) (tCmpB neD (eB lenG (lCons (eVar 4) lNil)) (eB lenG (lCons (eVar 5) lNil)))) (sRet (eC (.bool false))) sNil) (sExpr (eExt (eVar 2) (mZip (lCons (eVar 4) (lCons (eVar 5) lNil)))))) (sIf (tCmpB neD (eVar 4) (eVar 5)) (sRet (eC (.bool false))) sNil))))))
theorem neD_bool (a b : Bool) : neD (.bool a) (.bool b) = some (.bool (!(a == b))) := by
  unfold neD
  rw [if_pos (by rfl)]
  simp [PyData.eqv]
theorem zip_twin : ∀ l : List PyData, zipD l l = l.map twin
  | [] => rfl
  | x :: l => by
    have := zip_twin l
    unfold zipD at *
    rw [List.zip_cons_cons, List.map_cons, this]
    rfl
theorem last_get {rest : Sto} {o : MO} : (rest ++ [o])[rest.length]? = some o := by simp
theorem last_noTab {rest : Sto} {l : List PyData} : noTab (rest ++ [MO.lst l]) rest.length = true := by
  unfold noTab
  rw [last_get]
theorem last_set {rest : Sto} {o u : MO} : (rest ++ [o]).set rest.length u = rest ++ [u] := by simp
theorem mid_at {pre q : List PyData} {x : PyData} : atI (pre ++ x :: q) (pre.length : Int) = some x := by
  unfold atI ixN
  rw [if_pos (by omega), if_pos (by rw [List.length_append, List.length_cons]; omega)]
  simp
theorem isi_same (b : Bool) : (!(b == b)) = false := by cases b <;> rfl
theorem beq_same_int (a : Int) : (a == a) = true := beq_self_eq_true a
/-- one turn of the comparison, of a thing with itself -/
theorem alk_turn {rest : Sto} {w0 w1 : Option Wv} {w4 w5 : Option Wv} {pre q : List PyData} {x : PyData} (hx : refl? x = true) (hz : pre.length + wgts (x :: q) ≤ 1000000) :
    ∃ more : List PyData, alkB [w0, w1, some (.own rest.length), some (.d (.int pre.length)), w4, w5] (rest ++ [.lst (pre ++ twin x :: q.map twin)])
      = .fl (.nx [w0, w1, some (.own rest.length), some (.d (.int (pre.length + 1))), some (.d x), some (.d x)]) (rest ++ [.lst (pre ++ twin x :: (q ++ more).map twin)]) ∧ wgts more + 1 = wgt x ∧ refls more = true := by
  have hsz : ∀ l : List PyData, wgt x = 1 + wgts l → (pre ++ twin x :: q.map twin).length + (l.map twin).length ≤ sizeLine := fun l hl => by
    have h1 := len_wgts l
    have h2 := len_wgts q
    have h3 : (1000000 : Nat) ≤ sizeLine := by decide
    rw [wgts] at hz
    simp only [List.length_append, List.length_cons, List.length_map]
    omega
  have fin : ∀ more : List PyData, pre ++ twin x :: (q ++ more).map twin = (pre ++ twin x :: q.map twin) ++ more.map twin := fun more => by simp
  have leaf : (["tuple", "list"].any fun c => subT (tyD x) c) = false → neD x x = some (.bool false) → wgt x = 1 → ∃ more : List PyData, alkB [w0, w1, some (.own rest.length), some (.d (.int pre.length)), w4, w5] (rest ++ [.lst (pre ++ twin x :: q.map twin)])
      = .fl (.nx [w0, w1, some (.own rest.length), some (.d (.int (pre.length + 1))), some (.d x), some (.d x)]) (rest ++ [.lst (pre ++ twin x :: (q ++ more).map twin)]) ∧ wgts more + 1 = wgt x ∧ refls more = true := fun h1 h2 h3 => by
    refine ⟨[], ?_, by rw [h3]; rfl, rfl⟩
    rw [List.append_nil]
    have hok := isiOk_refl hx
    simp only [alkB, hok, last_get, mid_at, twin, gTp, gsCons, gsNil, gNm, eIsi, isiW, neD_bool, isi_same, h1, h2, sSeq, sIf, tCmpB, tChB, tTru, tAndB, tOrB, tNotB, eAnd, eOr, eNot, truW, truD, eBin, eCh, eIf, eVar, eC, Rs.bind, op2, bool2, view, List.getElem?_cons_zero, List.getElem?_cons_succ, ixD, at_0, at_1, at_2, at_3, gtD, ltD, leD, geD, decide_true, decide_false, bindS, seqR, sSet, eB, lCons, lNil, opN, views, Option.map, Option.some.injEq, intG, absG, lenG, modD, addD, subD, iaddD, if_true, if_false, reduceIte, call1, call2, lo0, lo1, lo2, lo3, lo4, lo5, List.set, sPut, sAugI, sAug, frzW, eFrz, ownL, ixSet4, sRet, sExpr, eOwn, eFz, mLst, dats, sNil, sRetN, eqD_int, neD_int, oSom, oNon, eSl, slD, Bool.false_eq_true, Bool.not_true, Bool.not_false, eTup, sPar, eCall, List.length_cons, List.length_nil, sAsg]
  have node : ∀ l : List PyData, (x = .list l ∨ x = .tuple l) → refls l = true → ∃ more : List PyData, alkB [w0, w1, some (.own rest.length), some (.d (.int pre.length)), w4, w5] (rest ++ [.lst (pre ++ twin x :: q.map twin)])
      = .fl (.nx [w0, w1, some (.own rest.length), some (.d (.int (pre.length + 1))), some (.d x), some (.d x)]) (rest ++ [.lst (pre ++ twin x :: (q ++ more).map twin)]) ∧ wgts more + 1 = wgt x ∧ refls more = true := fun l hxl hr => by
    have hw : wgt x = 1 + wgts l := by rcases hxl with e | e <;> rw [e, wgt]
    have h1 : (["tuple", "list"].any fun c => subT (tyD x) c) = true := by rcases hxl with e | e <;> rw [e] <;> rfl
    have h2 : lenG [x] = some (.int l.length) := by rcases hxl with e | e <;> rw [e] <;> rfl
    have h3 : ∃ b, kindB x = some (b, l) := by rcases hxl with e | e <;> rw [e] <;> exact ⟨_, rfl⟩
    obtain ⟨b, h3⟩ := h3
    have h4 := hsz l hw
    refine ⟨l, ?_, by rw [hw]; omega, hr⟩
    rw [fin]
    generalize hL : pre ++ twin x :: q.map twin = L at *
    have hat : atI L (pre.length : Int) = some (.tuple [x, x]) := by rw [← hL]; exact mid_at
    have hok := isiOk_refl hx
    simp only [alkB, hok, last_get, last_set, hat, gTp, gsCons, gsNil, gNm, eIsi, isiW, neD_bool, isi_same, h1, h2, h3, h4, eExt, last_noTab, Bool.true_eq_false, mZip, zip_twin, sSeq, sIf, tCmpB, tTru, tOrB, truW, truD, eBin, eVar, eC, Rs.bind, op2, bool2, view, List.getElem?_cons_zero, List.getElem?_cons_succ, ixD, bindS, seqR, eB, lCons, lNil, opN, views, Option.map, iaddD, if_true, if_false, reduceIte, List.set, sAug, frzW, ownL, sExpr, sNil, neD_int, beq_same_int, Bool.false_eq_true, Bool.not_true, sAsg, List.length_cons, List.length_nil]
  cases x with
  | none => exact leaf rfl rfl rfl
  | bool b => exact leaf rfl (by rw [neD_bool, isi_same]) rfl
  | int i => exact leaf rfl (by rw [neD_int, beq_same_int]; rfl) rfl
  | str s => exact leaf rfl (by unfold neD; rw [if_pos (by rfl)]; simp [PyData.eqv]) rfl
  | list l => exact node l (.inl rfl) hx
  | tuple l => exact node l (.inr rfl) hx
  | dict l => cases hx
theorem alk_cond {rest : Sto} {w0 w1 w4 w5 : Option Wv} {i : Int} {L : List PyData} : alkC [w0, w1, some (.own rest.length), some (.d (.int i)), w4, w5] (rest ++ [.lst L]) = .ok (decide (i < (L.length : Nat))) (rest ++ [.lst L]) := by
  simp only [alkC, last_get, sSeq, sIf, tCmpB, tChB, tTru, tAndB, tOrB, tNotB, eAnd, eOr, eNot, truW, truD, eBin, eCh, eIf, eVar, eC, Rs.bind, op2, bool2, view, List.getElem?_cons_zero, List.getElem?_cons_succ, ixD, at_0, at_1, at_2, at_3, gtD, ltD, leD, geD, decide_true, decide_false, bindS, seqR, sSet, eB, lCons, lNil, opN, views, Option.map, Option.some.injEq, intG, absG, lenG, modD, addD, subD, iaddD, if_true, if_false, reduceIte, call1, call2, lo0, lo1, lo2, lo3, lo4, lo5, List.set, sPut, sAugI, sAug, frzW, eFrz, ownL, ixSet4, sRet, sExpr, eOwn, eFz, mLst, dats, sNil, sRetN, eqD_int, neD_int, oSom, oNon, eSl, slD, Bool.false_eq_true, Bool.not_true, Bool.not_false, eTup, sPar, eCall, List.length_cons, List.length_nil, sAsg]
theorem alk_run {rest : Sto} {w0 w1 : Option Wv} : ∀ (n : Nat) (pre q : List PyData) (w4 w5 : Option Wv), refls q = true → wgts q ≤ n → pre.length + wgts q ≤ 1000000 →
    ∃ ρ' L', whileN alkC alkB (n + 1) [w0, w1, some (.own rest.length), some (.d (.int pre.length)), w4, w5] (rest ++ [.lst (pre ++ q.map twin)]) = .fl (.nx ρ') (rest ++ [.lst L']) := by
  intro n
  induction n with
  | zero =>
    intro pre q w4 w5 hr hw hz
    cases q with
    | nil =>
      refine ⟨[w0, w1, some (.own rest.length), some (.d (.int pre.length)), w4, w5], pre, ?_⟩
      unfold whileN
      rw [alk_cond]
      simp only [bindS, List.map_nil, List.append_nil, Int.lt_irrefl, decide_false, Bool.false_eq_true, if_false]
    | cons x q =>
      have := wgt_pos x
      rw [wgts] at hw; omega
  | succ n ih =>
    intro pre q w4 w5 hr hw hz
    cases q with
    | nil =>
      refine ⟨[w0, w1, some (.own rest.length), some (.d (.int pre.length)), w4, w5], pre, ?_⟩
      unfold whileN
      rw [alk_cond]
      simp only [bindS, List.map_nil, List.append_nil, Int.lt_irrefl, decide_false, Bool.false_eq_true, if_false]
    | cons x q =>
      rw [refls, Bool.and_eq_true] at hr
      obtain ⟨more, e1, e2, e3⟩ := alk_turn (rest := rest) (w0 := w0) (w1 := w1) (w4 := w4) (w5 := w5) (pre := pre) (q := q) (x := x) hr.1 hz
      have hwp := wgt_pos x
      rw [wgts] at hw hz
      obtain ⟨ρ', L', e4⟩ := ih (pre ++ [twin x]) (q ++ more) (some (.d x)) (some (.d x)) (by rw [refls_append, hr.2, e3]; rfl) (by rw [wgts_append]; omega) (by rw [wgts_append, List.length_append, List.length_singleton]; omega)
      refine ⟨ρ', L', ?_⟩
      have hl : ((pre.length : Nat) : Int) < ((pre ++ (x :: q).map twin).length : Nat) := by
        rw [List.length_append, List.map_cons, List.length_cons]; omega
      rw [whileN, alk_cond]
      simp only [bindS, decide_eq_true hl, if_true]
      rw [List.map_cons, e1]
      show whileN alkC alkB (n + 1) _ _ = _
      rw [← e4]
      simp
/-- a thing is like itself -/
theorem alike_sem {d : PyData} {S : Sto} (h : refl? d = true) (hw : wgt d ≤ 999999) : f__law_alike [.d d, .d d] S = .ok (.d (.bool true)) S := by
  obtain ⟨ρ', L', e⟩ := alk_run (rest := S) (w0 := some (.d d)) (w1 := some (.d d)) (wgt d) [] [d] none none (by rw [refls, h]; rfl) (by rw [wgts, wgts]; omega) (by rw [wgts, wgts, List.length_nil]; omega)
  have e' := sWhile_eq e (by intro z; cases z)
  have key : b__law_alike [some (.d d), some (.d d), none, none, none, none] S = .fl (.rt (.d (.bool true))) (S ++ [.lst L']) := by
    have hl : litOk (0 + 1 + 1) = true := by decide
    have hl1 : litOk (0 + 1) = true := by decide
    show seqR (sPar 2 3 (eOwn (mLst (lCons (eTup (lCons (eVar 0) (lCons (eVar 1) lNil))) lNil))) (eC (.int 0)) [some (.d d), some (.d d), none, none, none, none] S) (sSeq (sWhile alkC alkB) (sRet (eC (.bool true)))) = _
    simp only [hl, hl1, sPar, bindS, eOwn, mLst, lCons, eTup, eVar, lNil, Rs.bind, List.getElem?_cons_zero, List.getElem?_cons_succ, dats, Option.map, List.length_cons, List.length_nil, if_true, eC, List.set, seqR, sSeq]
    have e2 : ((0 : Int)) = (([] : List PyData).length : Nat) := rfl
    rw [e2]
    rw [show (PyData.tuple [d, d]) = twin d from rfl]
    have e3 : S ++ [MO.lst [twin d]] = S ++ [MO.lst ([] ++ [d].map twin)] := rfl
    rw [e3, e']
    rfl
  have := run_ret (nn := 6) (ar := 2) (ws := [.d d, .d d]) key
  rw [List.take_left] at this
  exact this
end DL

set_option Elab.async false
set_option linter.all false
set_option maxRecDepth 100000
set_option maxHeartbeats 4000000
namespace DL
open PySem PySem.Spec PyProof.Rows L2

/-! ### comprehensions that draw nothing, that draw -/
theorem lc_map {t : GF} {c : BF} {f : EF} {ρ : Rho} {S : Sto} {g : PyData → PyData} {p : PyData → Bool} : ∀ (l acc : List PyData), (∀ d ∈ l, ∃ ρ1, t d ρ = some ρ1 ∧ c ρ1 S = .ok (p d) S ∧ (p d = true → f ρ1 S = .ok (.d (g d)) S)) → lcRun t c f ρ l acc S = .ok (acc ++ (l.filter p).map g) S
  | [], acc, _ => by simp [lcRun]
  | d :: l, acc, h => by
    obtain ⟨ρ1, h1, h2, h3⟩ := h d (by simp)
    have ih := fun acc => lc_map (t := t) (c := c) (f := f) (ρ := ρ) (S := S) (g := g) (p := p) l acc fun x hx => h x (by simp [hx])
    unfold lcRun
    rw [h1]
    dsimp only
    rw [h2]
    cases hp : p d with
    | true =>
      dsimp only
      rw [h3 hp]
      dsimp only
      rw [ih]
      simp [List.filter_cons, hp]
    | false =>
      dsimp only
      rw [ih]
      simp [List.filter_cons, hp]
theorem lc_bag {t : GF} {f : EF} {ρ : Rho} {pre rest : Sto} {P : PyData → Prop} {k : Nat} : ∀ (l : List PyData) (n : Nat) (acc : List PyData) (S : Sto), (∀ d ∈ l, ∃ ρ1, t d ρ = some ρ1 ∧ ∀ (m : Nat) (S : Sto), Bag pre (m + k) rest S → ∃ y S', f ρ1 S = .ok (.d y) S' ∧ P y ∧ Bag pre m rest S') → Bag pre (n + k * l.length) rest S →
    ∃ ys S', lcRun t bYes f ρ l acc S = .ok (acc ++ ys) S' ∧ ys.length = l.length ∧ (∀ y ∈ ys, P y) ∧ Bag pre n rest S'
  | [], n, acc, S, _, hB => ⟨[], S, by simp [lcRun], rfl, (fun _ h => by cases h), by simpa using hB⟩
  | d :: l, n, acc, S, h, hB => by
    obtain ⟨ρ1, h1, h2⟩ := h d (by simp)
    have e : n + k * (d :: l).length = n + k * l.length + k := by rw [List.length_cons, Nat.mul_succ]; omega
    rw [e] at hB
    obtain ⟨y, S1, h3, h4, h5⟩ := h2 _ S hB
    obtain ⟨ys, S', h6, h7, h8, h9⟩ := lc_bag (t := t) (f := f) (ρ := ρ) (pre := pre) (rest := rest) (P := P) (k := k) l n (acc ++ [y]) S1 (fun x hx => h x (by simp [hx])) h5
    refine ⟨y :: ys, S', ?_, by simp [h7], fun z hz => ?_, h9⟩
    · unfold lcRun
      rw [h1]
      dsimp only [bYes]
      rw [h3]
      dsimp only
      rw [h6, List.append_assoc]
      rfl
    · rcases List.mem_cons.mp hz with e | e
      · rw [e]; exact h4
      · exact h8 z e
abbrev sS (l : List Nat) : Str := SX.S l
abbrev tx (l : List Nat) : PyData := .str (sS l)
theorem signs_S (l : List Nat) : signsD (sS l) = l.map fun c => tx [c] := rfl
theorem strG_S {l : List Nat} (h : ∀ c ∈ l, c < 128) (hl : l.length ≤ 1000000) : strG (sS l) = true := by
  refine strG_mk ?_ ?_
  · rw [SX.S_len]
    exact Nat.le_trans hl (by decide)
  · unfold PyData.strOk
    rw [← Array.all_toList, List.all_eq_true]
    intro c hc
    have := h c (by simpa using hc)
    simp
    omega
/-! ### the bag of a script -/
def absP : PyData → PyData
  | .int i => .int ((i.natAbs : Nat) : Int)
  | d => d
theorem bag_sem (pre : Sto) (ns : List Int) : ∃ S', f__law_bag [.d (.list (ns.map PyData.int))] pre = .ok (.own pre.length) S' ∧ Bag pre 900000000 [] S' := by
  have e1 : ∃ cs : List Int, cutD (ns.map PyData.int) none (some 63) = cs.map PyData.int ∧ cs.length ≤ 63 := by
    refine ⟨(ns.drop (HT.sIx ns.length 0 none)).take (HT.sIx ns.length ns.length (some 63) - HT.sIx ns.length 0 none), ?_, ?_⟩
    · unfold cutD
      rw [List.length_map, List.map_take, List.map_drop]
    · rw [List.length_take, List.length_drop]
      have : HT.sIx ns.length ns.length (some 63) ≤ 63 := by
        show (if (63 : Int) < 0 then ((63 : Int) + (ns.length : Int)).toNat else min (63 : Int).toNat ns.length) ≤ 63
        rw [if_neg (by decide)]
        exact Nat.min_le_left _ _
      omega
  obtain ⟨cs, e1, e2⟩ := e1
  refine ⟨pre ++ [.lst (bagL 0 1234567891 0 (cs.map fun c => (c.natAbs : Int)))], ?_, 0, 1234567891, 0, _, rfl, by decide, by decide, by decide, by decide, by decide, fun c hc => ?_, by simpa using e2⟩
  · have hm : ∀ S, lcRun (gNm 1) bYes (eB absG (lCons (eVar 1) lNil)) [some (.d (.list (ns.map PyData.int))), none] (cs.map PyData.int) [] S = .ok ([] ++ (((cs.map PyData.int).filter fun _ => true).map absP)) S := fun S => lc_map _ _ fun d hd => by
      obtain ⟨c, _, rfl⟩ := List.mem_map.mp hd
      exact ⟨_, rfl, rfl, fun _ => rfl⟩
    have hl : litOk (0 + 1 + 1 + 1 + 1) = true := by decide
    have hf : ((cs.map PyData.int).filter fun _ => true).map absP = (cs.map fun c => (c.natAbs : Int)).map PyData.int := by
      rw [List.filter_eq_self.mpr (fun _ _ => rfl), List.map_map, List.map_map]
      rfl
    have key : b__law_bag [some (.d (.list (ns.map PyData.int))), none] pre = .fl (.rt (.own pre.length)) (pre ++ [.lst (bagL 0 1234567891 0 (cs.map fun c => (c.natAbs : Int)))]) := by
      simp only [b__law_bag, mLc, iVal, seqD, wipeR, e1, hm, hl, bagL, hf, List.nil_append, sSeq, sIf, tCmpB, tChB, tTru, tAndB, tOrB, tNotB, eAnd, eOr, eNot, truW, truD, eBin, eCh, eIf, eVar, eC, Rs.bind, op2, bool2, view, List.getElem?_cons_zero, List.getElem?_cons_succ, ixD, at_0, at_1, at_2, at_3, gtD, ltD, leD, geD, decide_true, decide_false, bindS, seqR, sSet, eB, lCons, lNil, opN, views, Option.map, Option.some.injEq, intG, absG, lenG, modD, addD, subD, iaddD, if_true, if_false, reduceIte, call1, call2, lo0, lo1, lo2, lo3, lo4, lo5, List.set, sPut, sAugI, sAug, frzW, eFrz, ownL, ixSet4, sRet, sExpr, eOwn, eFz, mLst, dats, sNil, sRetN, eqD_int, neD_int, oSom, oNon, eSl, slD, Bool.false_eq_true, Bool.not_true, Bool.not_false, eTup, sPar, eCall, List.length_cons, List.length_nil, sAsg]
    show (match b__law_bag [some (.d (.list (ns.map PyData.int))), none] pre with
      | .fl (.rt w) S' => exitW pre.length w S'
      | .fl (.nx _) S' => exitW pre.length (.d .none) S'
      | .exc x _ S' => .exc x (S'.take pre.length)
      | _ => .bad) = _
    rw [key]
    dsimp only [exitW]
    rw [if_neg (Nat.lt_irrefl _), last_get]
    dsimp only
    rw [List.take_append_of_le_length (Nat.le_refl _), List.take_length]
  · obtain ⟨z, _, rfl⟩ := List.mem_map.mp hc
    omega
end DL

set_option Elab.async false
set_option linter.all false
set_option maxRecDepth 100000
set_option maxHeartbeats 4000000
namespace DL
/-! ### baskets, plain -/
def lessL (a b : List Nat) : List Nat := (a.zip b).map fun p => p.1 - p.2
def fitsL (a b : List Nat) : Bool := (a.zip b).all fun p => decide (p.1 ≤ p.2)
def pieceL (n k : Nat) : List Nat := (List.range n).map fun i => if i = k then 1 else 0
def partsF : List Nat → List (List Nat) → List (List Nat)
  | [], f => f
  | m :: b, f => partsF b (f.flatMap fun p => (List.range (m + 1)).map fun k => p ++ [k])
def partsL (b : List Nat) : List (List Nat) := partsF b [[]]
def partsR : List Nat → List (List Nat)
  | [] => [[]]
  | m :: b => (List.range (m + 1)).flatMap fun k => (partsR b).map (k :: ·)
theorem partsF_eq : ∀ (b : List Nat) (f : List (List Nat)), partsF b f = f.flatMap fun p => (partsR b).map (p ++ ·)
  | [], f => by simp [partsF, partsR]
  | m :: b, f => by
    rw [partsF, partsF_eq b, List.flatMap_assoc]
    congr 1
    funext p
    rw [partsR, List.map_flatMap, List.flatMap_map]
    congr 1
    funext k
    simp
theorem parts_eq (b : List Nat) : partsL b = partsR b := by
  unfold partsL
  rw [partsF_eq]
  simp
theorem mem_parts : ∀ {b q : List Nat}, q ∈ partsR b ↔ q.length = b.length ∧ fitsL q b = true
  | [], q => by
    simp only [partsR, List.mem_singleton, List.length_nil, List.length_eq_zero_iff]
    constructor
    · intro h; subst h; exact ⟨rfl, rfl⟩
    · intro h; exact h.1
  | m :: b, [] => by simp [partsR]
  | m :: b, k :: q => by
    have ih := mem_parts (b := b) (q := q)
    simp only [partsR, List.mem_flatMap, List.mem_range, List.mem_map, List.cons.injEq, List.length_cons, Nat.add_right_cancel_iff, fitsL, List.zip_cons_cons, List.all_cons, Bool.and_eq_true, decide_eq_true_eq]
    unfold fitsL at ih
    constructor
    · rintro ⟨a, h1, c, h2, rfl, rfl⟩
      exact ⟨(ih.mp h2).1, by omega, (ih.mp h2).2⟩
    · rintro ⟨h1, h2, h3⟩
      exact ⟨k, by omega, q, ih.mpr ⟨h1, h3⟩, rfl, rfl⟩
/-- first by the first number -/
def lx : List Nat → List Nat → Prop
  | x :: a, y :: b => x < y ∨ x = y ∧ lx a b
  | _, _ => False
theorem lx_irr : ∀ a : List Nat, ¬ lx a a
  | [] => fun h => h
  | x :: a => fun h => by
    rcases h with h | ⟨_, h⟩
    · omega
    · exact lx_irr a h
theorem lx_asym : ∀ {a b : List Nat}, lx a b → ¬ lx b a
  | [], _ => fun h => absurd h (by simp [lx])
  | x :: a, [] => fun h => absurd h (by simp [lx])
  | x :: a, y :: b => fun h h' => by
    rcases h with h | ⟨e, h⟩
    · rcases h' with h' | ⟨e', _⟩ <;> omega
    · rcases h' with h' | ⟨e', h'⟩
      · omega
      · exact lx_asym h h'
theorem parts_lx : ∀ b : List Nat, (partsR b).Pairwise lx
  | [] => by simp [partsR]
  | m :: b => by
    have ih := parts_lx b
    rw [partsR, List.pairwise_flatMap]
    refine ⟨fun k _ => ?_, ?_⟩
    · rw [List.pairwise_map]
      exact ih.imp fun h => .inr ⟨rfl, h⟩
    · refine List.pairwise_lt_range.imp ?_
      intro i j hij x hx y hy
      obtain ⟨u, _, rfl⟩ := List.mem_map.mp hx
      obtain ⟨v, _, rfl⟩ := List.mem_map.mp hy
      exact .inl hij
theorem parts_nodup (b : List Nat) : (partsR b).Nodup := (parts_lx b).imp fun {x y} h e => by
  subst e; exact lx_irr _ h
theorem lx_of_fits : ∀ {q p : List Nat}, q.length = p.length → fitsL q p = true → q ≠ p → lx q p
  | [], [], _, _, h => absurd rfl h
  | [], _ :: _, h, _, _ => by simp at h
  | _ :: _, [], h, _, _ => by simp at h
  | x :: q, y :: p, hl, hf, hne => by
    simp only [fitsL, List.zip_cons_cons, List.all_cons, Bool.and_eq_true, decide_eq_true_eq] at hf
    by_cases e : x = y
    · subst e
      exact .inr ⟨rfl, lx_of_fits (by simpa using hl) hf.2 fun z => hne (by rw [z])⟩
    · exact .inl (by omega)
/-- what is a smaller part comes earlier -/
theorem parts_before {b pre suf p q : List Nat} {pr sf : List (List Nat)} (h : partsR b = pr ++ p :: sf) (hq : q ∈ partsR b) (hl : lx q p) : q ∈ pr := by
  have hp := parts_lx b
  rw [h] at hq hp
  rw [List.pairwise_append] at hp
  rcases List.mem_append.mp hq with z | z
  · exact z
  · rcases List.mem_cons.mp z with e | z
    · subst e; exact absurd hl (lx_irr _)
    · exact absurd hl (lx_asym ((List.pairwise_cons.mp hp.2.1).1 q z))
/-! ### facts about less, fits -/
theorem less_len {a b : List Nat} (h : a.length = b.length) : (lessL a b).length = a.length := by simp [lessL, h]
theorem fits_refl : ∀ a : List Nat, fitsL a a = true
  | [] => rfl
  | x :: a => by
    have := fits_refl a
    unfold fitsL at *
    simp [this]
theorem fits_trans : ∀ {a b c : List Nat}, a.length = b.length → b.length = c.length → fitsL a b = true → fitsL b c = true → fitsL a c = true
  | [], _, _, _, _, _, _ => by simp [fitsL]
  | x :: a, [], _, h, _, _, _ => by simp at h
  | x :: a, y :: b, [], _, h, _, _ => by simp at h
  | x :: a, y :: b, z :: c, h1, h2, h3, h4 => by
    simp only [fitsL, List.zip_cons_cons, List.all_cons, Bool.and_eq_true, decide_eq_true_eq] at h3 h4 ⊢
    exact ⟨by omega, fits_trans (by simpa using h1) (by simpa using h2) h3.2 h4.2⟩
theorem less_fits : ∀ {a b : List Nat}, a.length = b.length → fitsL (lessL a b) a = true
  | [], _, _ => by simp [lessL, fitsL]
  | x :: a, [], h => by simp at h
  | x :: a, y :: b, h => by
    have := less_fits (a := a) (b := b) (by simpa using h)
    unfold lessL fitsL at *
    simp only [List.zip_cons_cons, List.map_cons, List.all_cons, Bool.and_eq_true, decide_eq_true_eq]
    exact ⟨by omega, this⟩
theorem less_sum : ∀ {a b : List Nat}, a.length = b.length → fitsL b a = true → (lessL a b).sum + b.sum = a.sum
  | [], [], _, _ => rfl
  | [], _ :: _, h, _ => by simp at h
  | x :: a, [], h, _ => by simp at h
  | x :: a, y :: b, h, hf => by
    simp only [fitsL, List.zip_cons_cons, List.all_cons, Bool.and_eq_true, decide_eq_true_eq] at hf
    have := less_sum (a := a) (b := b) (by simpa using h) hf.2
    unfold lessL at *
    simp only [List.zip_cons_cons, List.map_cons, List.sum_cons]
    omega
theorem fits_sum : ∀ {a b : List Nat}, a.length = b.length → fitsL a b = true → a.sum ≤ b.sum := fun h1 h2 => by
  have := less_sum h1.symm h2
  omega
/-! ### worths -/
def worthL (b : List Nat) (t : List Int) : Int := ((b.zip t).map fun p => (p.1 : Int) * p.2).sum
theorem worth_less : ∀ {a b : List Nat} (t : List Int), a.length = b.length → fitsL b a = true → worthL (lessL a b) t + worthL b t = worthL a t
  | [], [], t, _, _ => by simp [lessL, worthL]
  | [], _ :: _, _, h, _ => by simp at h
  | x :: a, [], _, h, _ => by simp at h
  | x :: a, y :: b, [], h, hf => by simp [worthL]
  | x :: a, y :: b, u :: t, h, hf => by
    simp only [fitsL, List.zip_cons_cons, List.all_cons, Bool.and_eq_true, decide_eq_true_eq] at hf
    have := worth_less (a := a) (b := b) t (by simpa using h) hf.2
    unfold lessL worthL at *
    simp only [List.zip_cons_cons, List.map_cons, List.sum_cons]
    have e : ((x - y : Nat) : Int) = (x : Int) - (y : Int) := by omega
    rw [e, Int.sub_mul]
    omega
theorem worth_zero : ∀ {b : List Nat} (t : List Int), b.sum = 0 → worthL b t = 0
  | [], _, _ => by simp [worthL]
  | x :: b, [], _ => by simp [worthL]
  | x :: b, u :: t, h => by
    rw [List.sum_cons] at h
    have := worth_zero (b := b) t (by omega)
    have hx : x = 0 := by omega
    unfold worthL at *
    simp [hx, this]
/-! ### prices -/
def mn : List Int → Int
  | [] => 0
  | i :: r => lmin i r
theorem mn_ge {x : Int} {l : List Int} (hne : l ≠ []) (h : ∀ y ∈ l, x ≤ y) : x ≤ mn l := by
  cases l with
  | nil => exact absurd rfl hne
  | cons i r => exact h _ (lmin_mem r i).1
theorem mn_le {y : Int} {l : List Int} (h : y ∈ l) : mn l ≤ y := by
  cases l with
  | nil => cases h
  | cons i r => exact (lmin_mem r i).2 y h
theorem mn_mem {l : List Int} (hne : l ≠ []) : mn l ∈ l := by
  cases l with
  | nil => exact absurd rfl hne
  | cons i r => exact (lmin_mem r i).1
abbrev Ch := List Nat × Int
def prF (cs : List Ch) : Nat → List Nat → Int
  | 0, _ => 0
  | n + 1, p => mn ((cs.filter fun c => fitsL c.1 p).map fun c => prF cs n (lessL p c.1) + c.2)
/-- the price of a basket by its choices -/
def priceL (cs : List Ch) (p : List Nat) : Int := prF cs p.sum p
/-- choices of a shop of n products -/
def Chs (n : Nat) (cs : List Ch) : Prop := ∀ c ∈ cs, c.1.length = n ∧ 0 < c.1.sum
theorem prF_nil {n : Nat} {cs : List Ch} (h : Chs n cs) {p : List Nat} (hp : p.length = n) (h0 : p.sum = 0) : (cs.filter fun c => fitsL c.1 p) = [] := by
  rw [List.filter_eq_nil_iff]
  intro c hc hf
  have h1 := h c hc
  have := fits_sum (h1.1.trans hp.symm) hf
  omega
theorem prF_two {n : Nat} {cs : List Ch} (h : Chs n cs) : ∀ (m k : Nat) (p : List Nat), p.length = n → p.sum ≤ m → p.sum ≤ k → prF cs m p = prF cs k p
  | 0, 0, _, _, _, _ => rfl
  | 0, k + 1, p, hp, hs, _ => by rw [prF, prF, prF_nil h hp (by omega)]; rfl
  | m + 1, 0, p, hp, _, hs => by rw [prF, prF, prF_nil h hp (by omega)]; rfl
  | m + 1, k + 1, p, hp, h1, h2 => by
    rw [prF, prF]
    congr 1
    refine List.map_congr_left fun c hc => ?_
    obtain ⟨hc, hf⟩ := List.mem_filter.mp hc
    have h3 := h c hc
    have h4 := less_sum (h3.1.trans hp.symm).symm hf
    have h5 : (lessL p c.1).length = n := by rw [less_len (h3.1.trans hp.symm).symm]; exact hp
    rw [prF_two h m k _ h5 (by omega) (by omega)]
/-- the price by the prices of what is left -/
theorem price_eq {n : Nat} {cs : List Ch} (h : Chs n cs) {p : List Nat} (hp : p.length = n) : priceL cs p = mn ((cs.filter fun c => fitsL c.1 p).map fun c => priceL cs (lessL p c.1) + c.2) := by
  unfold priceL
  rw [prF_two h p.sum (p.sum + 1) p hp (Nat.le_refl _) (by omega), prF]
  congr 1
  refine List.map_congr_left fun c hc => ?_
  obtain ⟨hc, hf⟩ := List.mem_filter.mp hc
  have h3 := h c hc
  have h4 := less_sum (h3.1.trans hp.symm).symm hf
  have h5 : (lessL p c.1).length = n := by rw [less_len (h3.1.trans hp.symm).symm]; exact hp
  rw [prF_two h p.sum (lessL p c.1).sum _ h5 (by omega) (Nat.le_refl _)]
/-- every piece can be had -/
def Full (n : Nat) (cs : List Ch) : Prop := ∀ k, k < n → ∃ x, (pieceL n k, x) ∈ cs
theorem piece_fits {n k : Nat} {p : List Nat} (hp : p.length = n) (hk : ∃ h : k < p.length, 0 < p[k]) : fitsL (pieceL n k) p = true := by
  obtain ⟨h, h0⟩ := hk
  unfold fitsL
  rw [List.all_eq_true]
  intro x hx
  obtain ⟨i, hi, e⟩ := List.mem_iff_getElem.mp hx
  rw [List.getElem_zip] at e
  subst e
  simp only [pieceL, List.getElem_map, List.getElem_range, decide_eq_true_eq]
  split
  · rename_i e; subst e; omega
  · omega
theorem pos_some : ∀ {p : List Nat}, 0 < p.sum → ∃ k, ∃ h : k < p.length, 0 < p[k]
  | [], h => by simp at h
  | x :: p, h => by
    by_cases hx : 0 < x
    · exact ⟨0, by simp, hx⟩
    · rw [List.sum_cons] at h
      obtain ⟨k, h1, h2⟩ := pos_some (p := p) (by omega)
      exact ⟨k + 1, by simpa using h1, by simpa using h2⟩
theorem some_fit {n : Nat} {cs : List Ch} (hf : Full n cs) {p : List Nat} (hp : p.length = n) (h0 : 0 < p.sum) : (cs.filter fun c => fitsL c.1 p) ≠ [] := by
  obtain ⟨k, h1, h2⟩ := pos_some h0
  obtain ⟨x, hx⟩ := hf k (by omega)
  intro e
  rw [List.filter_eq_nil_iff] at e
  exact e _ hx (piece_fits hp ⟨h1, h2⟩)
/-! ### tariffs -/
def tariffL (cs : List Ch) (b : List Nat) (t : List Int) : Bool := (cs.filter fun c => fitsL c.1 b).all fun c => decide (worthL c.1 t ≤ c.2)
theorem tariff_mem {cs : List Ch} {b p : List Nat} {t : List Int} {n : Nat} (h : Chs n cs) (hb : b.length = n) (hp : p.length = n) (hpb : fitsL p b = true) (ht : tariffL cs b t = true) {c : Ch} (hc : c ∈ cs) (hf : fitsL c.1 p = true) : worthL c.1 t ≤ c.2 := by
  unfold tariffL at ht
  rw [List.all_eq_true] at ht
  have := ht c (List.mem_filter.mpr ⟨hc, fits_trans ((h c hc).1.trans hp.symm) (hp.trans hb.symm) hf hpb⟩)
  exact of_decide_eq_true this
theorem worth_le_price {n : Nat} {cs : List Ch} (h : Chs n cs) (hF : Full n cs) {b : List Nat} (hb : b.length = n) {t : List Int} (ht : tariffL cs b t = true) : ∀ (m : Nat) (p : List Nat), p.sum ≤ m → p.length = n → fitsL p b = true → worthL p t ≤ priceL cs p := by
  intro m
  induction m with
  | zero =>
    intro p hs hp hpb
    rw [price_eq h hp, prF_nil h hp (by omega), worth_zero t (by omega)]
    exact Int.le_refl _
  | succ m ih =>
    intro p hs hp hpb
    by_cases h0 : p.sum = 0
    · rw [price_eq h hp, prF_nil h hp h0, worth_zero t h0]
      exact Int.le_refl _
    · rw [price_eq h hp]
      refine mn_ge (by simpa using some_fit hF hp (by omega)) fun y hy => ?_
      obtain ⟨c, hc, rfl⟩ := List.mem_map.mp hy
      obtain ⟨hc, hf⟩ := List.mem_filter.mp hc
      have h3 := h c hc
      have hl := (h3.1.trans hp.symm).symm
      have h4 := less_sum hl hf
      have h5 : (lessL p c.1).length = n := by rw [less_len hl]; exact hp
      have h6 := ih _ (by omega) h5 (fits_trans (h5.trans hp.symm) (hp.trans hb.symm) (less_fits hl) hpb)
      have h7 := tariff_mem h hb hp hpb ht hc hf
      have h8 := worth_less t hl hf
      omega
theorem parts_last : ∀ b : List Nat, ∃ l, partsR b = l ++ [b]
  | [] => ⟨[], rfl⟩
  | m :: b => by
    obtain ⟨l, e⟩ := parts_last b
    rw [partsR, List.range_succ, List.flatMap_append, List.flatMap_cons, List.flatMap_nil, List.append_nil, e, List.map_append, ← List.append_assoc]
    exact ⟨_, rfl⟩
theorem parts_first : ∀ b : List Nat, ∃ z l, partsR b = z :: l ∧ z.sum = 0
  | [] => ⟨[], [], rfl, rfl⟩
  | m :: b => by
    obtain ⟨z, l, e, hz⟩ := parts_first b
    rw [partsR, List.range_succ_eq_map, List.flatMap_cons, e, List.map_cons, List.cons_append]
    exact ⟨_, _, rfl, by rw [List.sum_cons, hz]⟩
theorem sum_const : ∀ n c : Nat, ((List.range n).map fun _ => c).sum = n * c
  | 0, c => by simp
  | n + 1, c => by rw [List.range_succ, List.map_append, List.sum_append, sum_const n c]; simp [Nat.succ_mul]
def manyL (b : List Nat) : Nat := b.foldl (fun a m => a * (m + 1)) 1
theorem many_fold : ∀ (b : List Nat) (a : Nat), b.foldl (fun a m => a * (m + 1)) a = a * (partsR b).length
  | [], a => by simp [partsR]
  | m :: b, a => by
    rw [List.foldl_cons, many_fold b, partsR, List.length_flatMap]
    simp [Nat.mul_assoc, sum_const]
theorem many_parts (b : List Nat) : manyL b = (partsR b).length := by
  unfold manyL
  rw [many_fold, Nat.one_mul]
end DL

set_option Elab.async false
set_option linter.all false
set_option maxRecDepth 100000
set_option maxHeartbeats 4000000
namespace DL
open PySem PySem.Spec PyProof.Rows L2
/-! ### evaluation, step by step -/
section
variable {ρ : Rho} {S S1 S2 S3 S4 : Sto} {f g h k : EF} {w u w3 w4 : Wv} {x y z : PyData} {l m : List PyData} {op : PyData → PyData → Option PyData} {G : List PyData → Option PyData} {F : FD} {r : Rs Wv} {a b : BF} {p q : Bool} {s t : SF} {R : RF}
theorem ev_var {i : Nat} (h1 : ρ[i]? = some (some w)) : eVar i ρ S = .ok w S := by unfold eVar; rw [h1]
theorem ev_c : eC x ρ S = .ok (.d x) S := rfl
theorem ev_bin (h1 : f ρ S = .ok w S1) (h2 : g ρ S1 = .ok u S2) (v1 : view S2 w = some x) (v2 : view S2 u = some y) (h3 : op x y = some z) : eBin op f g ρ S = .ok (.d z) S2 := by
  unfold eBin; rw [h1]; simp only [Rs.bind]; rw [h2]; simp only [op2, v1, v2, h3]
theorem ev_b1 (h1 : f ρ S = .ok w S1) (v1 : view S1 w = some x) (hg : G [x] = some y) : eB G (lCons f lNil) ρ S = .ok (.d y) S1 := by
  unfold eB lCons lNil; rw [h1]; simp only [Rs.bind, opN, views, v1, Option.map, hg]
theorem ev_b2 (h1 : f ρ S = .ok w S1) (h2 : g ρ S1 = .ok u S2) (v1 : view S2 w = some x) (v2 : view S2 u = some y) (hg : G [x, y] = some z) : eB G (lCons f (lCons g lNil)) ρ S = .ok (.d z) S2 := by
  unfold eB lCons lNil; rw [h1]; simp only [Rs.bind]; rw [h2]; simp only [Rs.bind, opN, views, v1, v2, Option.map, hg]
theorem ev_fz {mf : MF} (h1 : mf ρ S = .ok l S1) : eFz mf ρ S = .ok (.d (.list l)) S1 := by unfold eFz; rw [h1]; rfl
theorem ev_frz (h1 : f ρ S = .ok w S1) (h2 : frzW w S1 = r) : eFrz f ρ S = r := by unfold eFrz; rw [h1]; exact h2
theorem ev_own {mf : MF} (h1 : mf ρ S = .ok l S1) : eOwn mf ρ S = .ok (.own S1.length) (S1 ++ [.lst l]) := by unfold eOwn; rw [h1]; rfl
theorem ev_lc {i : IF} {t : GF} {vs : List Nat} (h1 : i ρ S = .ok l S1) (h2 : lcRun t a f (wipeR ρ vs) l [] S1 = .ok m S2) : mLc i t a f vs ρ S = .ok m S2 := by unfold mLc; rw [h1]; exact h2
theorem ev_zip {b1 b2 : Bool} (h1 : f ρ S = .ok (.d x) S1) (h2 : g ρ S1 = .ok (.d y) S2) (k1 : kindB x = some (b1, l)) (k2 : kindB y = some (b2, m)) : iZip (lCons f (lCons g lNil)) ρ S = .ok (zipD l m) S2 := by
  unfold iZip lCons lNil; rw [h1]; simp only [Rs.bind]; rw [h2]; simp only [Rs.bind, k1, k2]
theorem ev_mzip {b1 b2 : Bool} (h1 : f ρ S = .ok (.d x) S1) (h2 : g ρ S1 = .ok (.d y) S2) (k1 : kindB x = some (b1, l)) (k2 : kindB y = some (b2, m)) : mZip (lCons f (lCons g lNil)) ρ S = .ok (zipD l m) S2 := by
  unfold mZip lCons lNil; rw [h1]; simp only [Rs.bind]; rw [h2]; simp only [Rs.bind, k1, k2]
theorem ev_enum {b1 : Bool} (h1 : f ρ S = .ok (.d x) S1) (k1 : kindB x = some (b1, l)) : iEnum1 (lCons f lNil) ρ S = .ok (enumD 0 l) S1 := by
  unfold iEnum1 lCons lNil; rw [h1]; simp only [Rs.bind, k1]
theorem ev_val (h1 : f ρ S = .ok (.d x) S1) (hs : seqD x = some l) : iVal f ρ S = .ok l S1 := by
  unfold iVal; rw [h1]; simp only [Rs.bind, frzW, hs]
theorem rngs_ok {i : Int} (h0 : 0 ≤ i) (h : i ≤ 100000) : (rngOk i && decide (i.toNat ≤ sizeLine)) = true := by
  have h1 : rngOk i = true := decide_eq_true (by omega)
  have h2 : i.toNat ≤ 100000 := by omega
  have h3 : decide (i.toNat ≤ sizeLine) = true := decide_eq_true (Nat.le_trans h2 (by decide))
  rw [h1, h3]
  rfl
theorem ev_rangeI {i : Int} (h1 : f ρ S = .ok (.d (.int i)) S1) (h0 : 0 ≤ i) (hn : i ≤ 100000) : iRange1 (lCons f lNil) ρ S = .ok (rangeD 0 i.toNat) S1 := by
  unfold iRange1 lCons lNil; rw [h1]; simp only [Rs.bind]; rw [if_pos (rngs_ok h0 hn)]
theorem range_nat (n : Nat) : rangeD 0 n = (List.range n).map fun (i : Nat) => PyData.int ((i : Nat) : Int) := by
  unfold rangeD
  refine List.map_congr_left fun i _ => ?_
  rw [Int.zero_add]
theorem ev_range {n : Nat} {i : Int} (h1 : f ρ S = .ok (.d (.int i)) S1) (hi : i = ((n : Nat) : Int)) (hn : n ≤ 100000) : iRange1 (lCons f lNil) ρ S = .ok ((List.range n).map fun (i : Nat) => PyData.int ((i : Nat) : Int)) S1 := by
  rw [ev_rangeI h1 (by omega) (by omega), range_nat]
  have : i.toNat = n := by omega
  rw [this]
theorem ev_call1 (h1 : f ρ S = .ok w S1) (hc : F [w] S1 = r) : eCall 1 F (lCons f lNil) ρ S = r := by
  unfold eCall lCons lNil; rw [h1]; exact hc
theorem ev_call2 (h1 : f ρ S = .ok w S1) (h2 : g ρ S1 = .ok u S2) (hc : F [w, u] S2 = r) : eCall 2 F (lCons f (lCons g lNil)) ρ S = r := by
  unfold eCall lCons lNil; rw [h1]; simp only [Rs.bind]; rw [h2]; exact hc
theorem ev_call3 (h1 : f ρ S = .ok w S1) (h2 : g ρ S1 = .ok u S2) (h3 : h ρ S2 = .ok w3 S3) (hc : F [w, u, w3] S3 = r) : eCall 3 F (lCons f (lCons g (lCons h lNil))) ρ S = r := by
  unfold eCall lCons lNil; rw [h1]; simp only [Rs.bind]; rw [h2]; simp only [Rs.bind]; rw [h3]; exact hc
theorem ev_call4 (h1 : f ρ S = .ok w S1) (h2 : g ρ S1 = .ok u S2) (h3 : h ρ S2 = .ok w3 S3) (h4 : k ρ S3 = .ok w4 S4) (hc : F [w, u, w3, w4] S4 = r) : eCall 4 F (lCons f (lCons g (lCons h (lCons k lNil)))) ρ S = r := by
  unfold eCall lCons lNil; rw [h1]; simp only [Rs.bind]; rw [h2]; simp only [Rs.bind]; rw [h3]; simp only [Rs.bind]; rw [h4]; exact hc
theorem ev_ln : lNil ρ S = .ok [] S := rfl
theorem ev_lc1 {L : LF} {ws : List Wv} (h1 : f ρ S = .ok w S1) (h2 : L ρ S1 = .ok ws S2) : lCons f L ρ S = .ok (w :: ws) S2 := by unfold lCons; rw [h1]; simp only [Rs.bind]; rw [h2]
theorem ev_tup {L : LF} {ws : List Wv} {ds : List PyData} (h1 : L ρ S = .ok ws S1) (h2 : dats ws = some ds) (h3 : litOk ds.length = true) : eTup L ρ S = .ok (.d (.tuple ds)) S1 := by
  unfold eTup; rw [h1]; simp only [Rs.bind, h2, h3, if_true]
theorem ev_lst {L : LF} {ws : List Wv} {ds : List PyData} (h1 : L ρ S = .ok ws S1) (h2 : dats ws = some ds) (h3 : litOk ds.length = true) : mLst L ρ S = .ok ds S1 := by
  unfold mLst; rw [h1]; simp only [Rs.bind, h2, h3, if_true]
theorem ev_lstof {L : LF} (h1 : L ρ S = .ok [w] S1) (h2 : view S1 w = some (.list l) ∨ view S1 w = some (.tuple l)) : mLstOf L ρ S = .ok l S1 := by
  unfold mLstOf; rw [h1]; rcases h2 with h2 | h2 <;> simp only [Rs.bind, h2]
theorem ev_tru (h1 : f ρ S = .ok w S1) (h2 : view S1 w = some x) (h3 : truD x = some p) : tTru f ρ S = .ok p S1 := by unfold tTru; rw [h1]; simp only [Rs.bind, truW, h2, h3]
theorem ev_not (h1 : a ρ S = .ok p S1) : tNotB a ρ S = .ok (!p) S1 := by unfold tNotB; rw [h1]; rfl
theorem ev_or1 (h1 : a ρ S = .ok true S1) : tOrB a b ρ S = .ok true S1 := by unfold tOrB; rw [h1]; rfl
theorem ev_or2 (h1 : a ρ S = .ok false S1) : tOrB a b ρ S = b ρ S1 := by unfold tOrB; rw [h1]; rfl
theorem ev_and1 (h1 : a ρ S = .ok false S1) : tAndB a b ρ S = .ok false S1 := by unfold tAndB; rw [h1]; rfl
theorem ev_and2 (h1 : a ρ S = .ok true S1) : tAndB a b ρ S = b ρ S1 := by unfold tAndB; rw [h1]; rfl
theorem ev_cmp (h1 : f ρ S = .ok w S1) (h2 : g ρ S1 = .ok u S2) (v1 : view S2 w = some x) (v2 : view S2 u = some y) (h3 : op x y = some (.bool p)) : tCmpB op f g ρ S = .ok p S2 := by
  unfold tCmpB; rw [h1]; simp only [Rs.bind]; rw [h2]; simp only [bool2, v1, v2, h3]
theorem ev_eif1 (h1 : a ρ S = .ok true S1) : eIf a f g ρ S = f ρ S1 := by unfold eIf; rw [h1]; rfl
theorem ev_eif2 (h1 : a ρ S = .ok false S1) : eIf a f g ρ S = g ρ S1 := by unfold eIf; rw [h1]; rfl
theorem ev_ret (h1 : f ρ S = .ok w S1) : sRet f ρ S = .fl (.rt w) S1 := by unfold sRet; rw [h1]; rfl
theorem ev_set {i : Nat} (h1 : f ρ S = .ok w S1) : sSet i f ρ S = .fl (.nx (ρ.set i (some w))) S1 := by unfold sSet; rw [h1]; rfl
theorem ev_expr (h1 : f ρ S = .ok w S1) : sExpr f ρ S = .fl (.nx ρ) S1 := by unfold sExpr; rw [h1]; rfl
theorem ev_if1 (h1 : a ρ S = .ok true S1) : sIf a s t ρ S = s ρ S1 := by unfold sIf; rw [h1]; rfl
theorem ev_if2 (h1 : a ρ S = .ok false S1) : sIf a s t ρ S = t ρ S1 := by unfold sIf; rw [h1]; rfl
theorem ev_seq {ρ1 : Rho} (h1 : s ρ S = .fl (.nx ρ1) S1) (h2 : t ρ1 S1 = R) : sSeq s t ρ S = R := by unfold sSeq; rw [h1]; exact h2
theorem ev_seqr (h1 : s ρ S = .fl (.rt w) S1) : sSeq s t ρ S = .fl (.rt w) S1 := by unfold sSeq; rw [h1]; rfl
theorem ev_par {i j : Nat} (h1 : f ρ S = .ok w S1) (h2 : g ρ S1 = .ok u S2) : sPar i j f g ρ S = .fl (.nx ((ρ.set i (some w)).set j (some u))) S2 := by unfold sPar; rw [h1]; simp only [bindS]; rw [h2]
theorem ev_for {i : IF} {t : GF} (h1 : i ρ S = .ok l S1) (h2 : forRun t s l ρ S1 = R) : sFor i t s ρ S = R := by unfold sFor; rw [h1]; exact h2
theorem for_step {t : GF} {d : PyData} {ρ1 ρ2 : Rho} (ht : t d ρ = some ρ1) (hb : s ρ1 S = .fl (.nx ρ2) S2) : forRun t s (d :: l) ρ S = forRun t s l ρ2 S2 := by
  show (match t d ρ with | some ρ1 => stepR (s ρ1 S) (forRun t s l) | none => .bad) = _
  rw [ht]; simp only []; rw [hb]; rfl
theorem ev_nil : sNil ρ S = .fl (.nx ρ) S := rfl
theorem ev_isi {cs : List String} (h1 : f ρ S = .ok (.d x) S1) (hx : isiOk x = true) : eIsi cs f ρ S = .ok (.d (.bool (cs.any fun c => subT (tyD x) c))) S1 := by
  unfold eIsi; rw [h1]; simp only [Rs.bind, isiW, view, hx, if_true]
theorem ev_ext {k : Nat} {mf : MF} (h1 : f ρ S = .ok (.own k) S1) (hn : noTab S1 k = true) (h2 : mf ρ S1 = .ok m S2) (h3 : S2[k]? = some (.lst l)) (h4 : l.length + m.length ≤ sizeLine) : eExt f mf ρ S = .ok (.d .none) (S2.set k (.lst (l ++ m))) := by
  unfold eExt; rw [h1]; simp only [Rs.bind, hn, Bool.true_eq_false, if_false]; rw [h2]; simp only [Rs.bind, ownL, h3, h4, if_true]
theorem ev_app {k : Nat} (h1 : f ρ S = .ok (.own k) S1) (hn : noTab S1 k = true) (h2 : g ρ S1 = .ok (.d x) S2) (h3 : S2[k]? = some (.lst l)) (h4 : l.length < sizeLine) : eApp f g ρ S = .ok (.d .none) (S2.set k (.lst (l ++ [x]))) := by
  unfold eApp; rw [h1]; simp only [Rs.bind, hn, Bool.true_eq_false, if_false]; rw [h2]; simp only [Rs.bind, ownL, h3, h4, if_true]
theorem ev_valo {k : Nat} (h1 : f ρ S = .ok (.own k) S1) (h2 : S1[k]? = some (.lst l)) : iVal f ρ S = .ok l (S1.set k (.frz l)) := by
  unfold iVal; rw [h1]; simp only [Rs.bind, frzW, h2, seqD]
theorem ev_frzd (h1 : f ρ S = .ok (.d x) S1) : eFrz f ρ S = .ok (.d x) S1 := by unfold eFrz; rw [h1]; rfl
theorem ev_frzo {k : Nat} (h1 : f ρ S = .ok (.own k) S1) (h2 : S1[k]? = some (.lst l)) : eFrz f ρ S = .ok (.d (.list l)) (S1.set k (.frz l)) := by unfold eFrz; rw [h1]; simp only [Rs.bind, frzW, h2]
theorem ev_dput {k : Nat} {j : PyData} {d : List (PyData × PyData)} (he : h ρ S = .ok (.d x) S1) (ho : f ρ S1 = .ok (.own k) S2) (hi : g ρ S2 = .ok (.d j) S3) (hk : S3[k]? = some (.dct d)) (ok : dputOk d j = true) : sDput f g h ρ S = .fl (.nx ρ) (S3.set k (.dct (putD d j x))) := by
  unfold sDput; rw [he]; simp only [Rs.bind, frzW, bindS]; rw [ho]; simp only [bindS]; rw [hi]; simp only [bindS, ownD, hk, ok, if_true]
theorem ev_asg {t : GF} {ρ1 : Rho} (h1 : f ρ S = .ok (.d x) S1) (h2 : t x ρ = some ρ1) : sAsg f t ρ S = .fl (.nx ρ1) S1 := by unfold sAsg; rw [h1]; simp only [Rs.bind, frzW, bindS, h2]
theorem ev_dzip {L : LF} {b1 b2 : Bool} (h1 : L ρ S = .ok [.d x, .d y] S1) (k1 : kindB x = some (b1, l)) (k2 : kindB y = some (b2, m)) (h2 : l.all tkey = true) (h3 : l.zip m ≠ []) : eDZip L ρ S = .ok (.d (.dict (mrgD [] (l.zip m)))) S1 := by
  unfold eDZip; rw [h1]; simp only [Rs.bind, k1, k2]; rw [if_pos ⟨h2, h3⟩]
theorem ev_lpopat {k j : Nat} {i : Int} (h1 : f ρ S = .ok (.own k) S1) (hn : noTab S1 k = true) (h2 : g ρ S1 = .ok (.d (.int i)) S2) (hi : -(2 ^ 63) ≤ i ∧ i < 2 ^ 63) (h3 : S2[k]? = some (.lst l)) (h4 : ixN l.length i = some j) (h5 : l[j]? = some x) : eLPopAt f g ρ S = .ok (.d x) (S2.set k (.lst (l.eraseIdx j))) := by
  unfold eLPopAt; rw [h1]; simp only [Rs.bind, hn, Bool.true_eq_false, if_false]; rw [h2]; simp only [Rs.bind, ownL, h3, hi, and_self, if_true, h4, h5]
theorem get2_0 {A : Sto} {x y : MO} : (A ++ [x, y])[A.length]? = some x := by simp
theorem get2_1 {A : Sto} {x y : MO} : (A ++ [x, y])[A.length + 1]? = some y := by
  rw [List.getElem?_append_right (by omega)]
  have : A.length + 1 - A.length = 1 := by omega
  rw [this]; rfl
theorem set2_0 {A : Sto} {x y z : MO} : (A ++ [x, y]).set A.length z = A ++ [z, y] := by simp
theorem set2_1 {A : Sto} {x y z : MO} : (A ++ [x, y]).set (A.length + 1) z = A ++ [x, z] := by
  rw [List.set_append_right _ _ (by omega)]
  have : A.length + 1 - A.length = 1 := by omega
  rw [this]; rfl
theorem noTab_l {S : Sto} {k : Nat} {l : List PyData} (h : S[k]? = some (.lst l)) : noTab S k = true := by unfold noTab; rw [h]
theorem view_l {S : Sto} {k : Nat} {l : List PyData} (h : S[k]? = some (.lst l)) : view S (.own k) = some (.list l) := by unfold view; simp only [h]
theorem view_dct {S : Sto} {k : Nat} {l : List (PyData × PyData)} (h : S[k]? = some (.dct l)) : view S (.own k) = some (.dict l) := by unfold view; simp only [h]
theorem ev_enot (h1 : f ρ S = .ok w S1) (h2 : view S1 w = some x) (h3 : truD x = some p) : eNot f ρ S = .ok (.d (.bool (!p))) S1 := by unfold eNot; rw [h1]; simp only [Rs.bind, truW, h2, h3]
end
/-! ### comprehensions over things with a form of their own -/
theorem lc_mapT {α : Type} {enc : α → PyData} {t : GF} {c : BF} {f : EF} {ρ : Rho} {S : Sto} {g : α → PyData} {p : α → Bool} : ∀ (l : List α) (acc : List PyData), (∀ a ∈ l, ∃ ρ1, t (enc a) ρ = some ρ1 ∧ c ρ1 S = .ok (p a) S ∧ (p a = true → f ρ1 S = .ok (.d (g a)) S)) → lcRun t c f ρ (l.map enc) acc S = .ok (acc ++ (l.filter p).map g) S
  | [], acc, _ => by simp [lcRun]
  | a :: l, acc, h => by
    obtain ⟨ρ1, h1, h2, h3⟩ := h a (by simp)
    have ih := fun acc => lc_mapT (t := t) (c := c) (f := f) (ρ := ρ) (S := S) (g := g) (p := p) (enc := enc) l acc fun x hx => h x (by simp [hx])
    rw [List.map_cons]
    unfold lcRun
    rw [h1]
    dsimp only
    rw [h2]
    cases hp : p a with
    | true =>
      dsimp only
      rw [h3 hp]
      dsimp only
      rw [ih]
      simp [List.filter_cons, hp]
    | false =>
      dsimp only
      rw [ih]
      simp [List.filter_cons, hp]
theorem lc_all {α : Type} {enc : α → PyData} {t : GF} {f : EF} {ρ : Rho} {S : Sto} {g : α → PyData} (l : List α) (h : ∀ a ∈ l, ∃ ρ1, t (enc a) ρ = some ρ1 ∧ f ρ1 S = .ok (.d (g a)) S) : lcRun t bYes f ρ (l.map enc) [] S = .ok (l.map g) S := by
  have := lc_mapT (t := t) (c := bYes) (f := f) (ρ := ρ) (S := S) (g := g) (p := fun _ => true) (enc := enc) l [] fun a ha => by
    obtain ⟨ρ1, h1, h2⟩ := h a ha
    exact ⟨ρ1, h1, rfl, fun _ => h2⟩
  rw [this, List.nil_append, List.filter_eq_self.mpr (fun _ _ => rfl)]
theorem lc_some {α : Type} {enc : α → PyData} {t : GF} {c : BF} {f : EF} {ρ : Rho} {S : Sto} {g : α → PyData} (p : α → Bool) (l : List α) (h : ∀ a ∈ l, ∃ ρ1, t (enc a) ρ = some ρ1 ∧ c ρ1 S = .ok (p a) S ∧ (p a = true → f ρ1 S = .ok (.d (g a)) S)) : lcRun t c f ρ (l.map enc) [] S = .ok ((l.filter p).map g) S := by
  rw [lc_mapT l [] h, List.nil_append]
theorem zip_map {α β : Type} {e : α → PyData} {e' : β → PyData} (l : List α) (m : List β) : zipD (l.map e) (m.map e') = (l.zip m).map fun p => .tuple [e p.1, e' p.2] := by
  unfold zipD
  rw [List.zip_map, List.map_map]
  rfl
theorem enum_map {α : Type} {e : α → PyData} (l : List α) : enumD 0 (l.map e) = l.zipIdx.map fun p => .tuple [.int (p.2 : Int), e p.1] := by
  unfold enumD
  rw [List.zipIdx_map, List.map_map]
  refine List.map_congr_left fun p _ => ?_
  simp
/-! ### forms -/
def nI (n : Nat) : PyData := .int (n : Int)
def tb (b : List Nat) : PyData := .tuple (b.map nI)
def tI (t : List Int) : PyData := .tuple (t.map PyData.int)
def chD (c : Ch) : PyData := .tuple [tb c.1, .int c.2]
def gdD (g : Str × Int) : PyData := .tuple [.str g.1, .int g.2]
structure Shop where
  gs : List (Str × Int)
  ds : List Ch
def Shop.d (s : Shop) : PyData := .tuple [.tuple (s.gs.map gdD), .tuple (s.ds.map chD)]
def Shop.cs (s : Shop) : List Ch := s.gs.zipIdx.map (fun p => (pieceL s.gs.length p.2, p.1.2)) ++ s.ds
theorem all_bools {α : Type} (l : List α) (p : α → Bool) : allG [.list (l.map fun a => .bool (p a))] = some (.bool (l.all p)) := by
  have : ∀ l : List α, boolsD (l.map fun a => PyData.bool (p a)) = some (l.map p) := fun l => by
    induction l with
    | nil => rfl
    | cons a l ih => rw [List.map_cons, boolsD, ih]; rfl
  show Option.map (fun bs => PyData.bool (bs.all id)) (boolsD (l.map fun a => PyData.bool (p a))) = _
  rw [this]
  simp [List.all_map]
theorem sum_ints {α : Type} (l : List α) (p : α → Int) : sumG [.list (l.map fun a => .int (p a))] = some (.int (l.map p).sum) := by
  have : (l.map fun a => PyData.int (p a)) = (l.map p).map PyData.int := by rw [List.map_map]; rfl
  show Option.map (fun bs : List Int => PyData.int bs.sum) (intsD (l.map fun a => PyData.int (p a))) = _
  rw [this, intsD_map]
  rfl
theorem k_list {l : List PyData} : kindB (.list l) = some (false, l) := rfl
theorem k_tuple {l : List PyData} : kindB (.tuple l) = some (true, l) := rfl
end DL

set_option Elab.async false
set_option linter.all false
set_option maxRecDepth 100000
set_option maxHeartbeats 4000000
namespace DL
/-! ### ways, plain -/
def addL (a b : List Nat) : List Nat := (a.zip b).map fun p => p.1 + p.2
def mulL (k : Nat) (a : List Nat) : List Nat := a.map fun x => k * x
def zeroL (n : Nat) : List Nat := List.replicate n 0
theorem add_len {a b : List Nat} (h : a.length = b.length) : (addL a b).length = a.length := by simp [addL, h]
theorem mul_len (k : Nat) (a : List Nat) : (mulL k a).length = a.length := by simp [mulL]
theorem add_cons (x y : Nat) (a b : List Nat) : addL (x :: a) (y :: b) = (x + y) :: addL a b := rfl
theorem mul_cons (k x : Nat) (a : List Nat) : mulL k (x :: a) = (k * x) :: mulL k a := rfl
theorem less_cons (x y : Nat) (a b : List Nat) : lessL (x :: a) (y :: b) = (x - y) :: lessL a b := rfl
theorem fits_cons (x y : Nat) (a b : List Nat) : fitsL (x :: a) (y :: b) = (decide (x ≤ y) && fitsL a b) := rfl
theorem add_zero : ∀ {a : List Nat}, addL a (zeroL a.length) = a
  | [] => rfl
  | x :: a => by
    have := add_zero (a := a)
    unfold zeroL at *
    rw [List.length_cons, List.replicate_succ, add_cons, this, Nat.add_zero]
theorem zero_add : ∀ {a : List Nat}, addL (zeroL a.length) a = a
  | [] => rfl
  | x :: a => by
    have := zero_add (a := a)
    unfold zeroL at *
    rw [List.length_cons, List.replicate_succ, add_cons, this, Nat.zero_add]
theorem add_comm' : ∀ {a b : List Nat}, addL a b = addL b a
  | [], [] => rfl
  | [], _ :: _ => rfl
  | _ :: _, [] => rfl
  | x :: a, y :: b => by rw [add_cons, add_cons, add_comm' (a := a), Nat.add_comm]
theorem add_assoc' : ∀ {a b c : List Nat}, addL (addL a b) c = addL a (addL b c)
  | [], _, _ => rfl
  | _ :: _, [], _ => rfl
  | _ :: _, _ :: _, [] => rfl
  | x :: a, y :: b, z :: c => by simp only [add_cons, add_assoc' (a := a), Nat.add_assoc]
theorem mul_succ' : ∀ {k : Nat} {a : List Nat}, mulL (k + 1) a = addL (mulL k a) a
  | k, [] => rfl
  | k, x :: a => by rw [mul_cons, mul_cons, add_cons, mul_succ' (a := a), Nat.succ_mul]
theorem mul_zero' : ∀ {a : List Nat}, mulL 0 a = zeroL a.length
  | [] => rfl
  | x :: a => by
    have := mul_zero' (a := a)
    unfold zeroL at *
    rw [mul_cons, this, List.length_cons, List.replicate_succ, Nat.zero_mul]
theorem less_add : ∀ {a c : List Nat}, a.length = c.length → lessL (addL a c) c = a
  | [], [], _ => rfl
  | [], _ :: _, h => by simp at h
  | _ :: _, [], h => by simp at h
  | x :: a, y :: c, h => by rw [add_cons, less_cons, less_add (by simpa using h)]; congr 1; omega
theorem add_less : ∀ {p c : List Nat}, p.length = c.length → fitsL c p = true → addL c (lessL p c) = p
  | [], [], _, _ => rfl
  | [], _ :: _, h, _ => by simp at h
  | _ :: _, [], h, _ => by simp at h
  | x :: a, y :: c, h, hf => by
    rw [fits_cons, Bool.and_eq_true, decide_eq_true_eq] at hf
    rw [less_cons, add_cons, add_less (by simpa using h) hf.2]
    congr 1
    omega
theorem fits_add : ∀ {a c : List Nat}, a.length = c.length → fitsL c (addL a c) = true
  | [], [], _ => rfl
  | [], _ :: _, h => by simp at h
  | _ :: _, [], h => by simp at h
  | x :: a, y :: c, h => by rw [add_cons, fits_cons, fits_add (by simpa using h), decide_eq_true (by omega)]; rfl
theorem fits_add' {a c : List Nat} (h : a.length = c.length) : fitsL a (addL a c) = true := by
  rw [add_comm']
  exact fits_add h.symm
/-- the basket of a way -/
def wayR (n : Nat) : List Ch → List Nat → List Nat
  | c :: cs, k :: w => addL (mulL k c.1) (wayR n cs w)
  | _, _ => zeroL n
def wayB (n : Nat) (cs : List Ch) (w : List Nat) : List Nat := (cs.zip w).foldl (fun f p => addL f (mulL p.2 p.1.1)) (zeroL n)
def waySum (cs : List Ch) (w : List Nat) : Int := ((cs.zip w).map fun p => (p.2 : Int) * p.1.2).sum
theorem wayR_len {n : Nat} : ∀ {cs : List Ch} {w : List Nat}, (∀ c ∈ cs, c.1.length = n) → (wayR n cs w).length = n
  | [], _, _ => by simp [wayR, zeroL]
  | _ :: _, [], _ => by simp [wayR, zeroL]
  | c :: cs, k :: w, h => by
    have h1 := h c (by simp)
    have h2 := wayR_len (n := n) (cs := cs) (w := w) fun x hx => h x (by simp [hx])
    rw [wayR, add_len (by rw [mul_len, h1, h2]), mul_len, h1]
theorem wayB_fold {n : Nat} : ∀ {cs : List Ch} {w f : List Nat}, (∀ c ∈ cs, c.1.length = n) → f.length = n → (cs.zip w).foldl (fun f p => addL f (mulL p.2 p.1.1)) f = addL f (wayR n cs w)
  | [], w, f, _, hf => by
    have : zeroL n = zeroL f.length := by rw [hf]
    simp only [List.zip_nil_left, List.foldl_nil, wayR]
    rw [this, add_zero]
  | c :: cs, [], f, _, hf => by
    have : zeroL n = zeroL f.length := by rw [hf]
    simp only [List.zip_nil_right, List.foldl_nil, wayR]
    rw [this, add_zero]
  | c :: cs, k :: w, f, h, hf => by
    have h1 := h c (by simp)
    rw [List.zip_cons_cons, List.foldl_cons, wayB_fold (fun x hx => h x (by simp [hx])) (by rw [add_len (by rw [mul_len, h1, hf])]; exact hf), wayR, add_assoc']
theorem wayB_eq {n : Nat} {cs : List Ch} {w : List Nat} (h : ∀ c ∈ cs, c.1.length = n) : wayB n cs w = wayR n cs w := by
  unfold wayB
  rw [wayB_fold h (by simp [zeroL])]
  have hl := wayR_len (n := n) (cs := cs) (w := w) h
  have : zeroL n = zeroL (wayR n cs w).length := by rw [hl]
  rw [this, zero_add]
theorem way_bump {n : Nat} : ∀ {cs : List Ch} {w : List Nat} {i : Nat} {c : Ch}, (∀ c ∈ cs, c.1.length = n) → w.length = cs.length → cs[i]? = some c →
    wayR n cs (w.set i (w.getD i 0 + 1)) = addL c.1 (wayR n cs w) ∧ waySum cs (w.set i (w.getD i 0 + 1)) = waySum cs w + c.2
  | [], _, _, _, _, _, e => by simp at e
  | _ :: _, [], _, _, _, h, _ => by simp at h
  | d :: cs, k :: w, 0, c, h, hl, e => by
    simp at e
    subst e
    have h1 := h d (by simp)
    have h2 := wayR_len (n := n) (cs := cs) (w := w) fun x hx => h x (by simp [hx])
    refine ⟨?_, ?_⟩
    · simp only [List.set_cons_zero, List.getD_cons_zero, wayR]
      rw [mul_succ', add_comm' (a := mulL k d.1), add_assoc']
    · simp only [List.set_cons_zero, List.getD_cons_zero, waySum, List.zip_cons_cons, List.map_cons, List.sum_cons]
      have : ((k + 1 : Nat) : Int) * d.2 = (k : Int) * d.2 + d.2 := by rw [Int.natCast_add, Int.add_mul]; simp
      rw [this]
      omega
  | d :: cs, k :: w, i + 1, c, h, hl, e => by
    have ih := way_bump (n := n) (cs := cs) (w := w) (i := i) (c := c) (fun x hx => h x (by simp [hx])) (by simpa using hl) (by simpa using e)
    refine ⟨?_, ?_⟩
    · simp only [List.set_cons_succ, List.getD_cons_succ, wayR]
      rw [ih.1, ← add_assoc', ← add_assoc', add_comm' (a := mulL k d.1)]
    · have ih2 := ih.2
      simp only [List.set_cons_succ, List.getD_cons_succ, waySum, List.zip_cons_cons, List.map_cons, List.sum_cons] at ih2 ⊢
      rw [ih2]
      omega
/-! ### potentials -/
def PotL (cs : List Ch) (b : List Nat) (v : List Nat → Int) : Prop := ∀ p ∈ partsR b, ∀ c ∈ cs, fitsL c.1 p = true → v p ≤ c.2 + v (lessL p c.1)
def potB (cs : List Ch) (b : List Nat) (v : List Nat → Int) : Bool := (partsR b).all fun p => (cs.filter fun c => fitsL c.1 p).all fun c => decide (v p ≤ c.2 + v (lessL p c.1))
theorem potB_iff {cs : List Ch} {b : List Nat} {v : List Nat → Int} : potB cs b v = true ↔ PotL cs b v := by
  unfold potB PotL
  simp only [List.all_eq_true, List.mem_filter, decide_eq_true_eq, and_imp]
theorem zeros_of : ∀ {p : List Nat}, p.sum = 0 → p = zeroL p.length
  | [], _ => rfl
  | x :: p, h => by
    rw [List.sum_cons] at h
    have h1 : x = 0 := by omega
    have h2 := zeros_of (p := p) (by omega)
    subst h1
    unfold zeroL at *
    rw [List.length_cons, List.replicate_succ, ← h2]
theorem zero_sum (n : Nat) : (zeroL n).sum = 0 := by
  unfold zeroL
  induction n with
  | zero => rfl
  | succ n ih => rw [List.replicate_succ, List.sum_cons, ih]
theorem pot_le_price {n : Nat} {cs : List Ch} (h : Chs n cs) (hF : Full n cs) {b : List Nat} (hb : b.length = n) {v : List Nat → Int} (h0 : v (zeroL n) = 0) (hv : PotL cs b v) : ∀ (m : Nat) (p : List Nat), p.sum ≤ m → p ∈ partsR b → v p ≤ priceL cs p := by
  intro m
  induction m with
  | zero =>
    intro p hs hp
    have hpl : p.length = n := (mem_parts.mp hp).1.trans hb
    rw [price_eq h hpl, prF_nil h hpl (by omega), zeros_of (p := p) (by omega), hpl, h0]
    exact Int.le_refl _
  | succ m ih =>
    intro p hs hp
    have hpm := mem_parts.mp hp
    have hpl : p.length = n := hpm.1.trans hb
    by_cases hz : p.sum = 0
    · exact ih p (by omega) hp
    · rw [price_eq h hpl]
      refine mn_ge (by simpa using some_fit hF hpl (by omega)) fun y hy => ?_
      obtain ⟨c, hc, rfl⟩ := List.mem_map.mp hy
      obtain ⟨hc, hf⟩ := List.mem_filter.mp hc
      have h3 := h c hc
      have hl := (h3.1.trans hpl.symm).symm
      have h4 := less_sum hl hf
      have h5 : lessL p c.1 ∈ partsR b := mem_parts.mpr ⟨by rw [less_len hl]; exact hpm.1, fits_trans (less_len hl) hpm.1 (less_fits hl) hpm.2⟩
      have h6 := ih _ (by omega) h5
      have h7 := hv p hp c hc hf
      omega
theorem price_pot {n : Nat} {cs : List Ch} (h : Chs n cs) {b : List Nat} (hb : b.length = n) : priceL cs (zeroL n) = 0 ∧ PotL cs b (priceL cs) := by
  refine ⟨?_, fun p hp c hc hf => ?_⟩
  · rw [price_eq h (by simp [zeroL]), prF_nil h (by simp [zeroL]) (zero_sum n)]
    rfl
  · have hpl : p.length = n := (mem_parts.mp hp).1.trans hb
    rw [price_eq h hpl]
    have := mn_le (y := priceL cs (lessL p c.1) + c.2) (l := (cs.filter fun c => fitsL c.1 p).map fun c => priceL cs (lessL p c.1) + c.2) (List.mem_map.mpr ⟨c, List.mem_filter.mpr ⟨hc, hf⟩, rfl⟩)
    omega
theorem pot_times {n : Nat} {cs : List Ch} {b : List Nat} {v : List Nat → Int} (hb : b.length = n) (hv : PotL cs b v) {c : Ch} (hc : c ∈ cs) (hcl : c.1.length = n) {f : List Nat} (hf : f.length = n) : ∀ k : Nat, fitsL (addL f (mulL k c.1)) b = true → v (addL f (mulL k c.1)) ≤ v f + (k : Int) * c.2
  | 0, _ => by
    have : mulL 0 c.1 = zeroL f.length := by rw [mul_zero', hcl, hf]
    rw [this, add_zero]
    simp
  | k + 1, hfit => by
    have e : addL f (mulL (k + 1) c.1) = addL (addL f (mulL k c.1)) c.1 := by rw [mul_succ', add_assoc']
    have hl : (addL f (mulL k c.1)).length = n := by rw [add_len (by rw [mul_len, hcl, hf])]; exact hf
    rw [e] at hfit ⊢
    have h1 : fitsL (addL f (mulL k c.1)) (addL (addL f (mulL k c.1)) c.1) = true := fits_add' (hl.trans hcl.symm)
    have hl2 : (addL (addL f (mulL k c.1)) c.1).length = n := by rw [add_len (hl.trans hcl.symm)]; exact hl
    have h2 := pot_times hb hv hc hcl hf k (fits_trans (hl.trans hl2.symm) (hl2.trans hb.symm) h1 hfit)
    have h3 := hv _ (mem_parts.mpr ⟨hl2.trans hb.symm, hfit⟩) c hc (fits_add (hl.trans hcl.symm))
    rw [less_add (hl.trans hcl.symm)] at h3
    have h4 : ((k + 1 : Nat) : Int) * c.2 = (k : Int) * c.2 + c.2 := by rw [Int.natCast_add, Int.add_mul]; simp
    rw [h4]
    omega
theorem fold_grow {n : Nat} : ∀ {zs : List (Ch × Nat)} {f : List Nat}, (∀ z ∈ zs, z.1.1.length = n) → f.length = n → (zs.foldl (fun f p => addL f (mulL p.2 p.1.1)) f).length = n ∧ fitsL f (zs.foldl (fun f p => addL f (mulL p.2 p.1.1)) f) = true
  | [], f, _, hf => ⟨hf, fits_refl f⟩
  | z :: zs, f, h, hf => by
    have h1 := h z (by simp)
    have hl : (addL f (mulL z.2 z.1.1)).length = n := by rw [add_len (by rw [mul_len, h1, hf])]; exact hf
    obtain ⟨h2, h3⟩ := fold_grow (zs := zs) (f := addL f (mulL z.2 z.1.1)) (fun x hx => h x (by simp [hx])) hl
    rw [List.foldl_cons]
    exact ⟨h2, fits_trans (hf.trans hl.symm) (hl.trans h2.symm) (fits_add' (by rw [mul_len, h1, hf])) h3⟩
theorem pot_fold {n : Nat} {cs : List Ch} {b : List Nat} {v : List Nat → Int} (hb : b.length = n) (hv : PotL cs b v) : ∀ {zs : List (Ch × Nat)} {f : List Nat}, (∀ z ∈ zs, z.1 ∈ cs ∧ z.1.1.length = n) → f.length = n → fitsL (zs.foldl (fun f p => addL f (mulL p.2 p.1.1)) f) b = true →
    v (zs.foldl (fun f p => addL f (mulL p.2 p.1.1)) f) ≤ v f + (zs.map fun p => (p.2 : Int) * p.1.2).sum
  | [], f, _, _, _ => by simp
  | z :: zs, f, h, hf, hfit => by
    obtain ⟨h1, h2⟩ := h z (by simp)
    have hl : (addL f (mulL z.2 z.1.1)).length = n := by rw [add_len (by rw [mul_len, h2, hf])]; exact hf
    rw [List.foldl_cons] at hfit ⊢
    obtain ⟨g1, g2⟩ := fold_grow (n := n) (zs := zs) (f := addL f (mulL z.2 z.1.1)) (fun x hx => (h x (by simp [hx])).2) hl
    have ih := pot_fold hb hv (zs := zs) (f := addL f (mulL z.2 z.1.1)) (fun x hx => h x (by simp [hx])) hl hfit
    have h3 := pot_times hb hv h1 h2 hf z.2 (fits_trans (hl.trans g1.symm) (g1.trans hb.symm) g2 hfit)
    rw [List.map_cons, List.sum_cons]
    omega
/-- a potential is nowhere above what a way costs -/
theorem pot_le_way {n : Nat} {cs : List Ch} (h : Chs n cs) {b : List Nat} (hb : b.length = n) {v : List Nat → Int} (h0 : v (zeroL n) = 0) (hv : PotL cs b v) {w : List Nat} (hw : wayB n cs w = b) : v b ≤ waySum cs w := by
  have := pot_fold hb hv (zs := cs.zip w) (f := zeroL n) (fun z hz => by
    have := (List.of_mem_zip hz).1
    exact ⟨this, (h _ this).1⟩) (by simp [zeroL]) (by
    show fitsL (wayB n cs w) b = true
    rw [hw]; exact fits_refl b)
  have e : (cs.zip w).foldl (fun f p => addL f (mulL p.2 p.1.1)) (zeroL n) = b := hw
  rw [e, h0] at this
  unfold waySum
  omega
/-- prices are not great -/
theorem price_bound {n : Nat} {cs : List Ch} (h : Chs n cs) (hF : Full n cs) {B : Int} (hB : ∀ c ∈ cs, 0 ≤ c.2 ∧ c.2 ≤ B) : ∀ (m : Nat) (p : List Nat), p.sum ≤ m → p.length = n → 0 ≤ priceL cs p ∧ priceL cs p ≤ B * p.sum := by
  intro m
  induction m with
  | zero =>
    intro p hs hp
    have hz : p.sum = 0 := by omega
    rw [price_eq h hp, prF_nil h hp hz, hz]
    simp [mn]
  | succ m ih =>
    intro p hs hp
    by_cases hz : p.sum = 0
    · rw [price_eq h hp, prF_nil h hp hz, hz]
      simp [mn]
    · have hne := some_fit hF hp (by omega)
      have hmem := mn_mem (l := (cs.filter fun c => fitsL c.1 p).map fun c => priceL cs (lessL p c.1) + c.2) (by simpa using hne)
      rw [← price_eq h hp] at hmem
      obtain ⟨c, hc, e⟩ := List.mem_map.mp hmem
      obtain ⟨hc, hf⟩ := List.mem_filter.mp hc
      have h3 := h c hc
      have hl := (h3.1.trans hp.symm).symm
      have h4 := less_sum hl hf
      have h5 := ih (lessL p c.1) (by omega) (by rw [less_len hl]; exact hp)
      have h6 := hB c hc
      rw [← e]
      have h7 : B * (p.sum : Int) = B * ((lessL p c.1).sum : Int) + B * (c.1.sum : Int) := by
        rw [← Int.mul_add, ← h4, Int.natCast_add]
      have h8 : B * 1 ≤ B * (c.1.sum : Int) := Int.mul_le_mul_of_nonneg_left (by omega) (by omega)
      omega
end DL

set_option Elab.async false
set_option linter.all false
set_option maxRecDepth 100000
set_option maxHeartbeats 4000000
namespace DL
open PySem PySem.Spec PyProof.Rows L2
theorem run_ret0 {nn ar : Nat} {b : SF} {ws : List Wv} {S : Sto} {d : PyData} (h : b (ws.map some ++ List.replicate (nn - ar) none) S = .fl (.rt (.d d)) S) : runDef nn ar b ws S = .ok (.d d) S := by
  have := run_ret h
  rw [List.take_length] at this
  exact this
/-- what may be compared, of a depth of n at most -/
def Cm (n : Nat) (d : PyData) : Prop := noDict d = true ∧ d.depth ≤ n
theorem cms {n : Nat} : ∀ {l : List PyData}, (∀ x ∈ l, Cm n x) → noDicts l = true ∧ PyData.depthAll l ≤ n
  | [], _ => ⟨rfl, Nat.zero_le _⟩
  | x :: l, h => by
    obtain ⟨h1, h2⟩ := cms (l := l) fun y hy => h y (by simp [hy])
    obtain ⟨h3, h4⟩ := h x (by simp)
    exact ⟨by rw [noDicts, h1, h3]; rfl, by rw [PyData.depthAll]; exact Nat.max_le.mpr ⟨h4, h2⟩⟩
theorem Cm.list {n : Nat} {l : List PyData} (h : ∀ x ∈ l, Cm n x) : Cm (n + 1) (.list l) := ⟨by rw [noDict]; exact (cms h).1, by rw [PyData.depth]; exact Nat.succ_le_succ (cms h).2⟩
theorem Cm.tup {n : Nat} {l : List PyData} (h : ∀ x ∈ l, Cm n x) : Cm (n + 1) (.tuple l) := ⟨by rw [noDict]; exact (cms h).1, by rw [PyData.depth]; exact Nat.succ_le_succ (cms h).2⟩
theorem Cm.mono {n m : Nat} {d : PyData} (h : Cm n d) (hm : n ≤ m) : Cm m d := ⟨h.1, Nat.le_trans h.2 hm⟩
theorem Cm.int {i : Int} {n : Nat} : Cm n (.int i) := ⟨rfl, Nat.zero_le _⟩
theorem Cm.str {i : Str} {n : Nat} : Cm n (.str i) := ⟨rfl, Nat.zero_le _⟩
theorem Cm.bool {i : Bool} {n : Nat} : Cm n (.bool i) := ⟨rfl, Nat.zero_le _⟩
theorem Cm.none {n : Nat} : Cm n .none := ⟨rfl, Nat.zero_le _⟩
theorem Cm.nI {i : Nat} {n : Nat} : Cm n (nI i) := Cm.int
theorem Cm.tb {b : List Nat} : Cm 1 (tb b) := Cm.tup fun x hx => by
  obtain ⟨i, _, rfl⟩ := List.mem_map.mp hx
  exact Cm.nI
theorem Cm.tI {b : List Int} : Cm 1 (tI b) := Cm.tup fun x hx => by
  obtain ⟨i, _, rfl⟩ := List.mem_map.mp hx
  exact Cm.int
theorem Cm.ok {n : Nat} {d : PyData} (h : Cm n d) (hn : n ≤ 64) : cmpOk d = true := by
  unfold cmpOk
  rw [h.1, decide_eq_true (Nat.le_trans h.2 hn)]
  rfl
theorem eqD_nil {l : List PyData} (h : cmpOk (.list l) = true) : eqD (.list l) (.list []) = some (.bool l.isEmpty) := by
  unfold eqD
  have : cmpOk (.list []) = true := by decide
  rw [h, this]
  cases l <;> rfl
theorem neD_nil {l : List PyData} (h : cmpOk (.list l) = true) : neD (.list l) (.list []) = some (.bool (!l.isEmpty)) := by
  unfold neD
  have : cmpOk (.list []) = true := by decide
  rw [h, this]
  cases l <;> rfl
theorem ones_ok {α : Type} (l : List α) : cmpOk (.list (l.map fun _ => PyData.int 1)) = true := (Cm.list (n := 0) fun x hx => by
  obtain ⟨i, _, rfl⟩ := List.mem_map.mp hx
  exact Cm.int).ok (by decide)
theorem filt_empty {α : Type} (l : List α) (p : α → Bool) (q : α → PyData) : ((l.filter p).map q).isEmpty = l.all fun a => !p a := by
  induction l with
  | nil => rfl
  | cons a l ih =>
    cases h : p a with
    | true => simp [List.filter_cons, h]
    | false => simp only [List.filter_cons, h, Bool.false_eq_true, if_false, List.all_cons, Bool.not_false, Bool.true_and]; exact ih
section
variable {S : Sto}
/-! ### whole numbers -/
def isI : PyData → Bool
  | .int _ => true
  | _ => false
/-! ### parts, what is left -/
variable {a b : List Nat}
theorem less_map (h : a.length = b.length) (hf : fitsL b a = true) : ((a.zip b).map fun p => PyData.int ((p.1 : Int) - (p.2 : Int))) = (lessL a b).map nI := by
  unfold lessL
  rw [List.map_map]
  refine List.map_congr_left fun p hp => ?_
  have : p.2 ≤ p.1 := by
    obtain ⟨i, hi, e⟩ := List.mem_iff_getElem.mp hp
    rw [List.getElem_zip] at e
    unfold fitsL at hf
    rw [List.all_eq_true] at hf
    have hi1 : i < (b.zip a).length := by simp at hi ⊢; omega
    have := hf _ (List.getElem_mem hi1)
    rw [List.getElem_zip] at this
    rw [← e]
    exact of_decide_eq_true this
  show _ = PyData.int _
  congr 1
  dsimp only
  omega
/-! ### worths -/
variable {t : List Int}
/-- numbers that are not great -/
def Sm (i : Int) : Prop := i.natAbs < 2 ^ 400
end
end DL

set_option Elab.async false
set_option linter.all false
set_option maxRecDepth 100000
set_option maxHeartbeats 4000000
namespace DL
open PySem PySem.Spec PyProof.Rows L2
section
variable {S : Sto}
/-! ### pieces, choices -/
theorem piece_map (n k : Nat) : ((List.range n).map fun i => PyData.int (if i = k then 1 else 0)) = (pieceL n k).map nI := by
  unfold pieceL
  rw [List.map_map]
  refine List.map_congr_left fun i _ => ?_
  show _ = PyData.int _
  congr 1
  by_cases h : i = k <;> simp [h]
theorem eq_nat (i k : Nat) : eqD (.int (i : Int)) (.int (k : Int)) = some (.bool (decide (i = k))) := by
  rw [eqD_int]
  congr 2
  rw [Bool.eq_iff_iff]
  simp
  omega
theorem int_bool (b : Bool) : intG [.bool b] = some (.int (if b = true then 1 else 0)) := by cases b <;> rfl
theorem piece_sem {x : PyData} {l : List PyData} {n k : Nat} (hn : n ≤ 1000) (hl : l.length = n) : f_one_piece [.d (.tuple [.tuple l, x]), .d (nI k)] S = .ok (.d (tb (pieceL n k))) S := by
  refine run_ret0 (ws := [.d (.tuple [.tuple l, x]), .d (nI k)]) (nn := 3) (ar := 2) ?_
  show b_one_piece [some (.d (.tuple [.tuple l, x])), some (.d (nI k)), none] S = _
  refine ev_ret (ev_b1 (ev_fz (ev_lc (ev_range (n := n) (ev_b1 (ev_bin (ev_var rfl) ev_c rfl rfl rfl) rfl rfl) (by rw [hl]) (by omega)) (m := (pieceL n k).map nI) ?_)) rfl rfl)
  rw [← piece_map]
  refine lc_all _ fun p hp => ⟨_, rfl, ev_b1 (ev_bin (ev_var rfl) (ev_var rfl) rfl rfl (eq_nat _ _)) rfl ?_⟩
  rw [int_bool]
  congr 2
  by_cases h : p = k <;> simp [h]
theorem lpiece_sem {n k : Nat} (hn : n ≤ 1000) : f__law_piece [.d (nI n), .d (nI k)] S = .ok (.d (tb (pieceL n k))) S := by
  refine run_ret0 (ws := [.d (nI n), .d (nI k)]) (nn := 3) (ar := 2) ?_
  show b__law_piece [some (.d (nI n)), some (.d (nI k)), none] S = _
  refine ev_ret (ev_b1 (ev_fz (ev_lc (ev_range (n := n) (ev_var rfl) rfl (by omega)) (m := (pieceL n k).map nI) ?_)) rfl rfl)
  rw [← piece_map]
  refine lc_all _ fun p hp => ⟨_, rfl, ev_b1 (ev_bin (ev_var rfl) (ev_var rfl) rfl rfl (eq_nat _ _)) rfl ?_⟩
  rw [int_bool]
  congr 2
  by_cases h : p = k <;> simp [h]
theorem li2 : litOk (0 + 1 + 1) = true := by decide
theorem singles_map (gs : List (Str × Int)) : (gs.zipIdx.map fun p => PyData.tuple [tb (pieceL gs.length p.2), .int p.1.2]) = (gs.zipIdx.map fun p => (pieceL gs.length p.2, p.1.2)).map chD := by
  rw [List.map_map]
  rfl
theorem dats_d : ∀ l : List PyData, dats (l.map Wv.d) = some l
  | [] => rfl
  | x :: l => by rw [List.map_cons, dats, dats_d l]; rfl
theorem choices_sem {s : Shop} (hn : s.gs.length ≤ 40) (hd : s.ds.length ≤ 900) : f_choices_of [.d s.d] S = .ok (.d (.tuple (s.cs.map chD))) S := by
  refine run_ret0 (ws := [.d s.d]) (nn := 5) (ar := 1) ?_
  show b_choices_of [some (.d s.d), none, none, none, none] S = _
  refine ev_seq (ev_set (ev_fz (ev_lc (ev_enum (ev_bin (ev_var rfl) ev_c rfl rfl rfl) rfl) (m := (s.gs.zipIdx.map fun p => (pieceL s.gs.length p.2, p.1.2)).map chD) (S2 := S) ?_))) (ev_ret ?_)
  · rw [enum_map, ← singles_map]
    refine lc_all _ fun p hp => ⟨_, rfl, ev_tup (ev_lc1 (ev_call2 (ev_var rfl) (ev_var rfl) (piece_sem (n := s.gs.length) (by omega) (by rw [List.length_map]))) (ev_lc1 (ev_var rfl) ev_ln)) rfl li2⟩
  · have hl : litOk (s.cs.map chD).length = true := by
      refine decide_eq_true ?_
      simp [Shop.cs]
      omega
    refine ev_tup (ws := (s.cs.map chD).map Wv.d) ?_ (dats_d _) hl
    unfold lStar
    rw [ev_var (w := .d (.list ((s.gs.zipIdx.map fun p => (pieceL s.gs.length p.2, p.1.2)).map chD))) rfl]
    simp only [Rs.bind, frzW]
    have : eBin ixD (eVar 0) (eC (.int 1)) [some (.d s.d), some (.d (.list ((s.gs.zipIdx.map fun p => (pieceL s.gs.length p.2, p.1.2)).map chD))), none, none, none] S = .ok (.d (.tuple (s.ds.map chD))) S := ev_bin (ev_var rfl) ev_c rfl rfl rfl
    have e2 : (([some (.d s.d), none, none, none, none] : Rho).set 1 (some (.d (.list ((s.gs.zipIdx.map fun p => (pieceL s.gs.length p.2, p.1.2)).map chD))))) = [some (.d s.d), some (.d (.list ((s.gs.zipIdx.map fun p => (pieceL s.gs.length p.2, p.1.2)).map chD))), none, none, none] := rfl
    rw [e2, this]
    simp only [Rs.bind, frzW, lNil, List.append_nil, Shop.cs, List.map_append]
theorem lchoices_sem {s : Shop} (hn : s.gs.length ≤ 40) (hd : s.ds.length ≤ 900) : f__law_choices [.d s.d] S = .ok (.d (.list (s.cs.map chD))) S := by
  refine run_ret0 (ws := [.d s.d]) (nn := 5) (ar := 1) ?_
  show b__law_choices [some (.d s.d), none, none, none, none] S = _
  refine ev_seq (ev_set (ev_fz (ev_lc (ev_enum (ev_bin (ev_var rfl) ev_c rfl rfl rfl) rfl) (m := (s.gs.zipIdx.map fun p => (pieceL s.gs.length p.2, p.1.2)).map chD) (S2 := S) ?_))) (ev_ret (ev_bin (ev_var rfl) (ev_fz (ev_lstof (l := s.ds.map chD) (ev_lc1 (ev_bin (ev_var rfl) ev_c rfl rfl rfl) ev_ln) (.inr rfl))) rfl rfl ?_))
  · rw [enum_map, ← singles_map]
    have hp : ∀ k, f__law_piece [.d (.int ((s.gs.map gdD).length : Nat)), .d (nI k)] S = .ok (.d (tb (pieceL s.gs.length k))) S := fun k => by
      rw [List.length_map]
      exact lpiece_sem (by omega)
    exact lc_all _ fun p _ => ⟨_, rfl, ev_tup (ev_lc1 (ev_call2 (ev_b1 (ev_bin (ev_var rfl) ev_c rfl rfl rfl) rfl rfl) (ev_var rfl) (hp p.2)) (ev_lc1 (ev_var rfl) ev_ln)) rfl li2⟩
  · have hl : ((s.gs.zipIdx.map fun p => (pieceL s.gs.length p.2, p.1.2)).map chD).length + (s.ds.map chD).length ≤ sizeLine := by
      simp
      have : (1000 : Nat) ≤ sizeLine := by decide
      omega
    simp only [addD, hl, if_true, Shop.cs, List.map_append]
end
end DL

set_option Elab.async false
set_option linter.all false
set_option maxRecDepth 100000
set_option maxHeartbeats 4000000
namespace DL
open PySem PySem.Spec PyProof.Rows L2
section
variable {S : Sto}
/-! ### how many parts -/
theorem many_run {w0 : Option Wv} : ∀ (b : List Nat) (a : Nat) (w2 : Option Wv), (∀ m ∈ b, m ≤ 1000) → a * 1001 ^ b.length < 2 ^ 200 →
    ∃ w, forRun (gNm 2) (sSet 1 (eBin mulD (eVar 1) (eBin addD (eVar 2) (eC (.int 1))))) (b.map nI) [w0, some (.d (nI a)), w2] S = .fl (.nx [w0, some (.d (nI (b.foldl (fun a m => a * (m + 1)) a))), w]) S
  | [], a, w2, _, _ => ⟨w2, rfl⟩
  | m :: b, a, w2, hb, hz => by
    have hm := hb m (by simp)
    have hp : 1 ≤ 1001 ^ b.length := Nat.one_le_pow _ _ (by decide)
    have e1 : a * 1001 ^ (m :: b).length = a * 1001 * 1001 ^ b.length := by rw [List.length_cons, Nat.pow_succ, Nat.mul_comm (1001 ^ b.length), Nat.mul_assoc]
    rw [e1] at hz
    have h1 : a * (m + 1) * 1001 ^ b.length ≤ a * 1001 * 1001 ^ b.length := Nat.mul_le_mul_right _ (Nat.mul_le_mul_left _ (by omega))
    obtain ⟨w, ih⟩ := many_run (w0 := w0) b (a * (m + 1)) (some (.d (nI m))) (fun x hx => hb x (by simp [hx])) (by omega)
    refine ⟨w, ?_⟩
    rw [List.foldl_cons, ← ih, List.map_cons]
    have ha : a < 2 ^ 200 := by
      have : a * 1 ≤ a * 1001 := Nat.mul_le_mul_left _ (by decide)
      have : a * 1001 * 1 ≤ a * 1001 * 1001 ^ b.length := Nat.mul_le_mul_left _ hp
      omega
    have h4 : (2 : Nat) ^ 200 < 2 ^ 400 := Nat.pow_lt_pow_right (by decide) (by decide)
    have hmul : mulD (nI a) (.int ((m : Int) + 1)) = some (nI (a * (m + 1))) := by
      simp only [nI, mulD, mulOk_small (i := (a : Int)) (j := (m : Int) + 1) (by omega) (by omega), if_true]
      congr 2
    exact for_step rfl (ev_set (ev_bin (w := .d (nI a)) (u := .d (.int ((m : Int) + 1))) (S1 := S) (S2 := S) (ev_var rfl) (ev_bin (ev_var rfl) ev_c rfl rfl rfl) rfl rfl hmul))
theorem many_ok {b : List Nat} (hb : ∀ m ∈ b, m ≤ 1000) (hl : b.length ≤ 12) : 1 * 1001 ^ b.length < 2 ^ 200 := by
  have : 1001 ^ b.length ≤ 1001 ^ 12 := Nat.pow_le_pow_right (by decide) hl
  have : 1001 ^ 12 < 2 ^ 200 := by decide
  omega
/-! ### the list of all parts -/
def PartE (e : EF) : Prop := ∀ (w0 w1 w2 w3 : Option Wv) (p : List Nat) (i : Nat) (S : Sto), p.length ≤ 900 → e [w0, w1, w2, w3, some (.d (tb p)), some (.d (nI i))] S = .ok (.d (tb (p ++ [i]))) S
def partB (e : EF) : SF := sExpr (eExt (eVar 3) (mLc (iRange1 (lCons (eBin addD (eVar 2) (eC (.int 1))) lNil)) (gNm 5) bYes e [5]))
theorem inner_run {e : EF} (he : PartE e) {w0 w1 w5 : Option Wv} {m : Nat} {A : Sto} (hm : m ≤ 1000) : ∀ (ps ls : List (List Nat)) (w4 : Option Wv), (∀ p ∈ ps, p.length ≤ 900) → ls.length + ps.length * (m + 1) ≤ 1000000 →
    ∃ w4', forRun (gNm 4) (partB e) (ps.map tb) [w0, w1, some (.d (nI m)), some (.own A.length), w4, w5] (A ++ [.lst (ls.map tb)])
      = .fl (.nx [w0, w1, some (.d (nI m)), some (.own A.length), w4', w5]) (A ++ [.lst ((ls ++ ps.flatMap fun p => (List.range (m + 1)).map fun k => p ++ [k]).map tb)])
  | [], ls, w4, _, _ => ⟨w4, by simp [forRun]⟩
  | p :: ps, ls, w4, hp, hz => by
    have e1 : (p :: ps).length * (m + 1) = ps.length * (m + 1) + (m + 1) := by rw [List.length_cons, Nat.succ_mul]
    rw [e1] at hz
    obtain ⟨w4', ih⟩ := inner_run he (w0 := w0) (w1 := w1) (w5 := w5) (A := A) hm ps (ls ++ (List.range (m + 1)).map fun k => p ++ [k]) (some (.d (tb p))) (fun x hx => hp x (by simp [hx])) (by simp; omega)
    refine ⟨w4', ?_⟩
    have e2 : (ls ++ List.flatMap (fun p => List.map (fun k => p ++ [k]) (List.range (m + 1))) (p :: ps)) = ((ls ++ (List.range (m + 1)).map fun k => p ++ [k]) ++ ps.flatMap fun p => (List.range (m + 1)).map fun k => p ++ [k]) := by simp
    rw [e2, ← ih, List.map_cons]
    have hsz : (ls.map tb).length + (((List.range (m + 1)).map fun k => tb (p ++ [k]))).length ≤ sizeLine := by
      have : (1000000 : Nat) ≤ sizeLine := by decide
      simp only [List.length_map, List.length_range]
      omega
    have key : partB e [w0, w1, some (.d (nI m)), some (.own A.length), some (.d (tb p)), w5] (A ++ [.lst (ls.map tb)]) = .fl (.nx [w0, w1, some (.d (nI m)), some (.own A.length), some (.d (tb p)), w5]) ((A ++ [MO.lst (ls.map tb)]).set A.length (MO.lst (ls.map tb ++ (List.range (m + 1)).map fun k => tb (p ++ [k])))) := by
      refine ev_expr (ev_ext (ev_var rfl) last_noTab (ev_lc (ev_range (n := m + 1) (ev_bin (ev_var rfl) ev_c rfl rfl rfl) (by omega) (by omega)) (lc_all _ fun k _ => ⟨_, rfl, he _ _ _ _ p k _ (hp p (by simp))⟩)) last_get hsz)
    rw [last_set] at key
    have e3 : (ls.map tb ++ (List.range (m + 1)).map fun k => tb (p ++ [k])) = (ls ++ (List.range (m + 1)).map fun k => p ++ [k]).map tb := by
      rw [List.map_append, List.map_map]
      rfl
    rw [e3] at key
    exact for_step rfl key
def partO (e : EF) : SF := (sSeq (sSet 3 (eOwn (mLst lNil))) (sSeq (sFor (iVal (eVar 1)) (gNm 4) (partB e)) (sSet 1 (eVar 3))))
/-- what is found so far stands in the name, or in the store -/
def At (S0 T : Sto) (fs : List (List Nat)) (v : Wv) : Prop := v = .d (.list (fs.map tb)) ∨ ∃ j, v = .own (S0.length + j) ∧ T[j]? = some (.lst (fs.map tb))
theorem outer_run {e : EF} (he : PartE e) {w0 : Option Wv} {S0 : Sto} : ∀ (b : List Nat) (fs : List (List Nat)) (T : Sto) (v : Wv) (w2 w3 w4 w5 : Option Wv), At S0 T fs v → (∀ m ∈ b, m ≤ 1000) → (∀ p ∈ fs, p.length + b.length ≤ 900) → b.foldl (fun a m => a * (m + 1)) fs.length ≤ 1000000 →
    ∃ T' v' w2' w3' w4' w5', forRun (gNm 2) (partO e) (b.map nI) [w0, some v, w2, w3, w4, w5] (S0 ++ T) = .fl (.nx [w0, some v', w2', w3', w4', w5']) (S0 ++ T') ∧ At S0 T' (partsF b fs) v'
  | [], fs, T, v, w2, w3, w4, w5, hv, _, _, _ => ⟨T, v, w2, w3, w4, w5, rfl, hv⟩
  | m :: b, fs, T, v, w2, w3, w4, w5, hv, hb, hp, hz => by
    have hm := hb m (by simp)
    rw [List.foldl_cons] at hz
    have hlen : (fs.flatMap fun p => (List.range (m + 1)).map fun k => p ++ [k]).length = fs.length * (m + 1) := by
      induction fs with
      | nil => simp
      | cons f fs ih => 
        rw [List.flatMap_cons, List.length_append, List.length_cons, Nat.succ_mul]
        have : (fs.flatMap fun p => (List.range (m + 1)).map fun k => p ++ [k]).length = fs.length * (m + 1) := by
          clear ih hv hp hz
          induction fs with
          | nil => simp
          | cons g fs ih => rw [List.flatMap_cons, List.length_append, List.length_cons, Nat.succ_mul, ih]; simp; omega
        rw [this]; simp; omega
    have hgrow : ∀ (b : List Nat) (x : Nat), x ≤ b.foldl (fun a m => a * (m + 1)) x := fun b => by
      induction b with
      | nil => intro x; exact Nat.le_refl _
      | cons c b ih => intro x; exact Nat.le_trans (Nat.le_mul_of_pos_right _ (by omega)) (ih _)
    have hfs : fs.length * (m + 1) ≤ 1000000 := Nat.le_trans (hgrow b _) hz
    -- the walk through what is found
    have hval : ∃ T1 : Sto, iVal (eVar 1) [w0, some v, some (.d (nI m)), some (.own (S0 ++ T).length), w4, w5] ((S0 ++ T) ++ [.lst []]) = .ok (fs.map tb) (S0 ++ T1 ++ [.lst []]) ∧ T1.length = T.length := by
      rcases hv with rfl | ⟨j, rfl, hj⟩
      · exact ⟨T, ev_val (ev_var rfl) rfl, rfl⟩
      · have hj' : j < T.length := (List.getElem?_eq_some_iff.mp hj).1
        refine ⟨T.set j (.frz (fs.map tb)), ?_, by simp⟩
        have hg : ((S0 ++ T) ++ [MO.lst []])[S0.length + j]? = some (.lst (fs.map tb)) := by
          rw [List.append_assoc, List.getElem?_append_right (by omega), Nat.add_sub_cancel_left, List.getElem?_append_left hj', hj]
        have hst : ((S0 ++ T) ++ [MO.lst []]).set (S0.length + j) (.frz (fs.map tb)) = S0 ++ T.set j (.frz (fs.map tb)) ++ [.lst []] := by
          rw [List.append_assoc, List.set_append_right _ _ (by omega), Nat.add_sub_cancel_left, List.set_append_left _ _ hj', List.append_assoc]
        rw [← hst]
        exact ev_valo (ev_var rfl) hg
    obtain ⟨T1, hv1, hT1⟩ := hval
    obtain ⟨w4', hin⟩ := inner_run he (w0 := w0) (w1 := some v) (w5 := w5) (m := m) (A := S0 ++ T1) hm fs [] w4 (fun p hp' => by have := hp p hp'; omega) (by simp; omega)
    rw [List.nil_append] at hin
    have hlT : (S0 ++ T1).length = (S0 ++ T).length := by simp [hT1]
    have hbody : partO e [w0, some v, some (.d (nI m)), w3, w4, w5] (S0 ++ T) = .fl (.nx [w0, some (.own (S0 ++ T).length), some (.d (nI m)), some (.own (S0 ++ T).length), w4', w5]) (S0 ++ (T1 ++ [.lst ((fs.flatMap fun p => (List.range (m + 1)).map fun k => p ++ [k]).map tb)])) := by
      refine ev_seq (ev_set (ev_own (ev_lst ev_ln rfl rfl))) ?_
      rw [hlT] at hin
      rw [← List.append_assoc]
      exact ev_seq (ev_for hv1 hin) (ev_set (ev_var rfl))
    obtain ⟨T', v', a2, a3, a4, a5, hr, hA⟩ := outer_run he (w0 := w0) (S0 := S0) b (fs.flatMap fun p => (List.range (m + 1)).map fun k => p ++ [k]) (T1 ++ [.lst ((fs.flatMap fun p => (List.range (m + 1)).map fun k => p ++ [k]).map tb)]) (.own (S0 ++ T).length) (some (.d (nI m))) (some (.own (S0 ++ T).length)) w4' w5
      (.inr ⟨T1.length, by rw [List.length_append, hT1], by rw [List.getElem?_append_right (Nat.le_refl _), Nat.sub_self]; rfl⟩) (fun x hx => hb x (by simp [hx])) (fun p hp' => by
        obtain ⟨q, hq, h2⟩ := List.mem_flatMap.mp hp'
        obtain ⟨k, _, rfl⟩ := List.mem_map.mp h2
        have := hp q hq
        simp at this ⊢
        omega) (by rw [hlen]; exact hz)
    refine ⟨T', v', a2, a3, a4, a5, ?_, hA⟩
    rw [List.map_cons, ← hr]
    exact for_step rfl hbody
theorem partE1 : PartE (eTup (lStar (eVar 4) (lCons (eVar 5) lNil))) := fun w0 w1 w2 w3 p i S hp => by
  refine ev_tup (ws := ((p ++ [i]).map nI).map Wv.d) ?_ (dats_d _) ?_
  · unfold lStar
    rw [ev_var (w := .d (tb p)) rfl]
    simp only [Rs.bind, frzW, tb]
    rw [ev_lc1 (w := .d (nI i)) (ev_var rfl) ev_ln]
    simp
  · refine decide_eq_true ?_
    simp
    omega
theorem partE2 : PartE (eBin addD (eVar 4) (eTup (lCons (eVar 5) lNil))) := fun w0 w1 w2 w3 p i S hp => by
  refine ev_bin (ev_var rfl) (ev_tup (ev_lc1 (ev_var rfl) ev_ln) rfl (lo1 _)) rfl rfl ?_
  have : (p.map nI).length + [nI i].length ≤ sizeLine := by
    have : (1000 : Nat) ≤ sizeLine := by decide
    simp
    omega
  simp only [tb, addD, this, if_true]
  simp
end
end DL

set_option Elab.async false
set_option linter.all false
set_option maxRecDepth 100000
set_option maxHeartbeats 4000000
namespace DL
open PySem PySem.Spec PyProof.Rows L2
/-! ### dicts with baskets as keys -/
def zs (b : List Nat) : List Int := b.map fun (n : Nat) => ((n : Nat) : Int)
theorem tb_ints (b : List Nat) : tb b = .tuple ((zs b).map PyData.int) := by
  unfold tb zs
  rw [List.map_map]
  rfl
theorem keyD_b (b : List Nat) : keyD (tb b) = some (.inr (zs b)) := by rw [tb_ints, keyD_tb]
theorem zs_inj : ∀ {a b : List Nat}, zs a = zs b → a = b
  | [], [], _ => rfl
  | [], _ :: _, h => by simp [zs] at h
  | _ :: _, [], h => by simp [zs] at h
  | x :: a, y :: b, h => by
    unfold zs at h
    rw [List.map_cons, List.map_cons, List.cons.injEq] at h
    have := zs_inj (a := a) (b := b) h.2
    have h1 : x = y := by have := h.1; omega
    rw [h1, this]
theorem kEq_b (a b : List Nat) : kEq (tb a) (tb b) = decide (a = b) := by
  unfold kEq
  rw [keyD_b, keyD_b]
  simp only
  by_cases h : a = b
  · subst h; simp
  · rw [decide_eq_false h, decide_eq_false]
    intro e
    exact h (zs_inj (Sum.inr.inj e))
theorem keyOk_b (b : List Nat) : keyOk (tb b) = true := by
  unfold keyOk tb kst
  simp only [Bool.not_not]
  rw [List.all_eq_true]
  intro x hx
  obtain ⟨i, _, rfl⟩ := List.mem_map.mp hx
  rfl
def dictL (l : List (List Nat)) (v : List Nat → Int) : List (PyData × PyData) := l.map fun p => (tb p, PyData.int (v p))
theorem kind_b {l : List (List Nat)} {v : List Nat → Int} {q : List Nat} : kindOk (dictL l v) (tb q) = true := by
  unfold kindOk dictL
  rw [keyD_b, List.all_eq_true.mpr]
  · rfl
  · intro x hx
    obtain ⟨p, _, rfl⟩ := List.mem_map.mp hx
    rfl
theorem val_b {v : List Nat → Int} {q : List Nat} : ∀ {l : List (List Nat)}, q ∈ l → valD (dictL l v) (tb q) = some (.int (v q))
  | [], h => by cases h
  | p :: l, h => by
    unfold valD dictL
    rw [List.map_cons, List.find?_cons, kEq_b]
    by_cases e : p = q
    · subst e; simp
    · rw [decide_eq_false e]
      rcases List.mem_cons.mp h with z | z
      · exact absurd z.symm e
      · exact val_b (l := l) z
theorem ix_b {v : List Nat → Int} {q : List Nat} {l : List (List Nat)} (h : q ∈ l) : ixD (.dict (dictL l v)) (tb q) = some (.int (v q)) := by
  show (if kindOk (dictL l v) (tb q) && keyOk (tb q) then valD (dictL l v) (tb q) else none) = _
  rw [kind_b, keyOk_b, val_b h]
  rfl
theorem put_b {v : List Nat → Int} {q : List Nat} {l : List (List Nat)} (h : q ∉ l) : putD (dictL l v) (tb q) (.int (v q)) = dictL (l ++ [q]) v := by
  unfold putD
  rw [if_neg]
  · unfold dictL; simp
  · intro z
    rw [List.any_eq_true] at z
    obtain ⟨x, hx, hk⟩ := z
    obtain ⟨p, hp, rfl⟩ := List.mem_map.mp hx
    rw [kEq_b] at hk
    have := of_decide_eq_true hk
    subst this
    exact h hp
theorem dput_b {v : List Nat → Int} {q : List Nat} {l : List (List Nat)} (h : l.length ≤ 1000000) : dputOk (dictL l v) (tb q) = true := by
  unfold dputOk
  have : (1000000 : Nat) < sizeLine := by decide
  rw [kind_b, keyOk_b, decide_eq_true (by unfold dictL; rw [List.length_map]; omega)]
  rfl
theorem mrg_b {v : List Nat → Int} : ∀ (l pre : List (List Nat)), (pre ++ l).Nodup → mrgD (dictL pre v) ((l.map tb).zip (l.map fun p => .int (v p))) = dictL (pre ++ l) v
  | [], pre, _ => by simp [mrgD]
  | q :: l, pre, h => by
    have hq : q ∉ pre := by
      rw [List.nodup_append] at h
      exact fun z => h.2.2 q z q (by simp) rfl
    have h' : pre ++ q :: l = (pre ++ [q]) ++ l := by simp
    rw [List.map_cons, List.map_cons, List.zip_cons_cons]
    unfold mrgD
    rw [List.foldl_cons]
    dsimp only
    rw [put_b hq, h']
    exact mrg_b l (pre ++ [q]) (h' ▸ h)
theorem tkey_b (b : List Nat) : tkey (tb b) = true := by
  unfold tkey
  rw [keyD_b, keyOk_b]
  rfl
/-! ### shops that are right -/
structure Shop.Ok (s : Shop) : Prop where
  g1 : 1 ≤ s.gs.length
  g2 : s.gs.length ≤ 6
  d1 : s.ds.length ≤ 60
  d2 : ∀ d ∈ s.ds, d.1.length = s.gs.length ∧ 1 < d.1.sum ∧ (∀ m ∈ d.1, m ≤ 1000) ∧ 0 ≤ d.2 ∧ d.2 ≤ 10 ^ 9
  p : ∀ g ∈ s.gs, 0 ≤ g.2 ∧ g.2 ≤ 10 ^ 9
  nd : (s.ds.map (·.1)).Nodup
theorem pieces_len (n k : Nat) : (pieceL n k).length = n := by simp [pieceL]
theorem pieces_sum {n k : Nat} (h : k < n) : 0 < (pieceL n k).sum := by
  have hm : (1 : Nat) ∈ pieceL n k := List.mem_map.mpr ⟨k, List.mem_range.mpr h, by simp⟩
  have : ∀ l : List Nat, 1 ∈ l → 0 < l.sum := fun l => by
    induction l with
    | nil => intro h; cases h
    | cons x l ih =>
      intro h
      rw [List.sum_cons]
      rcases List.mem_cons.mp h with e | e
      · omega
      · have := ih e; omega
  exact this _ hm
theorem pieces_le (n k : Nat) : ∀ m ∈ pieceL n k, m ≤ 1 := fun m hm => by
  obtain ⟨i, _, rfl⟩ := List.mem_map.mp hm
  split <;> omega
namespace Shop.Ok
variable {s : Shop} (o : s.Ok)
include o
theorem mem {c : Ch} (h : c ∈ s.cs) : c.1.length = s.gs.length ∧ 0 < c.1.sum ∧ (∀ m ∈ c.1, m ≤ 1000) ∧ 0 ≤ c.2 ∧ c.2 ≤ 10 ^ 9 := by
  unfold Shop.cs at h
  rcases List.mem_append.mp h with h | h
  · obtain ⟨p, hp, rfl⟩ := List.mem_map.mp h
    obtain ⟨h1, h2⟩ := List.mem_zipIdx' hp
    have hg := o.p p.1 (by rw [h2]; exact List.getElem_mem _)
    exact ⟨pieces_len _ _, pieces_sum h1, fun m hm => Nat.le_trans (pieces_le _ _ m hm) (by decide), hg.1, hg.2⟩
  · obtain ⟨h1, h2, h3⟩ := o.d2 c h
    exact ⟨h1, by omega, h3⟩
theorem chs : Chs s.gs.length s.cs := fun c hc => ⟨(o.mem hc).1, (o.mem hc).2.1⟩
theorem full : Full s.gs.length s.cs := fun k hk => by
  refine ⟨s.gs[k].2, List.mem_append_left _ (List.mem_map.mpr ⟨(s.gs[k], k), ?_, rfl⟩)⟩
  rw [List.mem_iff_getElem]
  exact ⟨k, by simpa using hk, by simp⟩
end Shop.Ok
/-- a basket of a shop with n products, of few parts -/
structure Bsk (n : Nat) (b : List Nat) : Prop where
  len : b.length = n
  le : ∀ m ∈ b, m ≤ 1000
  few : manyL b ≤ 3000
section
variable {S : Sto} {s : Shop} {b p : List Nat}
/-! ### prices -/
end
end DL

set_option Elab.async false
set_option linter.all false
set_option maxRecDepth 100000
set_option maxHeartbeats 4000000
namespace DL
open PySem PySem.Spec PyProof.Rows L2
section
variable {S : Sto} {s : Shop} {b p : List Nat}
/-! ### potentials -/
theorem ints_all {α : Type} (l : List α) (v : α → Int) : (l.map fun p => PyData.int (v p)).all isI = true := by
  rw [List.all_eq_true]
  intro x hx
  obtain ⟨p, _, rfl⟩ := List.mem_map.mp hx
  rfl
theorem ints_isi {α : Type} (l : List α) (v : α → Int) : ∀ x ∈ l.map fun p => PyData.int (v p), isiOk x = true := fun x hx => by
  obtain ⟨p, _, rfl⟩ := List.mem_map.mp hx
  rfl
theorem less_in (hcs : Chs b.length s.cs) (hp : p ∈ partsR b) {c : Ch} (hc : c ∈ s.cs) (hf : fitsL c.1 p = true) : lessL p c.1 ∈ partsR b := by
  have hpm := mem_parts.mp hp
  have hl : p.length = c.1.length := hpm.1.trans (hcs c hc).1.symm
  exact mem_parts.mpr ⟨by rw [less_len hl]; exact hpm.1, fits_trans (less_len hl) hpm.1 (less_fits hl) hpm.2⟩
/-! ### tariffs -/
variable {t : List Int}
theorem up_small {x : Nat} (h : x ≤ 1000) : x < 2 ^ 400 := Nat.lt_of_le_of_lt h (by
  have : (2 : Nat) ^ 10 < 2 ^ 400 := Nat.pow_lt_pow_right (by decide) (by decide)
  omega)
theorem part_le (hb : ∀ m ∈ b, m ≤ 1000) (hp : p ∈ partsR b) : ∀ m ∈ p, m ≤ 1000 := fun m hm => by
  have h := mem_parts.mp hp
  obtain ⟨i, hi, rfl⟩ := List.mem_iff_getElem.mp hm
  have h2 := h.2
  unfold fitsL at h2
  rw [List.all_eq_true] at h2
  have hi1 : i < (p.zip b).length := by simp; omega
  have := h2 _ (List.getElem_mem hi1)
  rw [List.getElem_zip] at this
  have h3 := of_decide_eq_true this
  have hi2 : i < b.length := by omega
  have h4 := hb b[i] (List.getElem_mem hi2)
  dsimp only at h3
  omega
theorem ints_all' (t : List Int) : (t.map PyData.int).all isI = true := ints_all t id
theorem ints_isi' (t : List Int) : ∀ x ∈ t.map PyData.int, isiOk x = true := ints_isi t id
theorem len_ne (l m : List PyData) : neD (.int (l.length : Nat)) (.int (m.length : Nat)) = some (.bool (!decide (l.length = m.length))) := by
  rw [neD_int]
  congr 3
  rw [Bool.eq_iff_iff]
  simp only [beq_iff_eq, decide_eq_true_eq]
  omega
/-! ### the law's own look at tariffs -/
end
end DL

set_option Elab.async false
set_option linter.all false
set_option maxRecDepth 100000
set_option maxHeartbeats 4000000
namespace DL
open PySem PySem.Spec PyProof.Rows L2
theorem Bag.push {n : Nat} {pre rest S : Sto} (h : Bag pre n rest S) (T : Sto) : Bag pre n (rest ++ T) (S ++ T) := by
  obtain ⟨b0, b1, b2, cs, e, h⟩ := h
  exact ⟨b0, b1, b2, cs, by rw [e, List.append_assoc, List.cons_append], h⟩
theorem Bag.pop {n : Nat} {pre rest T S : Sto} (h : Bag pre n (rest ++ T) S) : ∃ S1, S = S1 ++ T ∧ Bag pre n rest S1 := by
  obtain ⟨b0, b1, b2, cs, e, h⟩ := h
  exact ⟨pre ++ .lst (bagL b0 b1 b2 cs) :: rest, by rw [e, List.append_assoc, List.cons_append], b0, b1, b2, cs, rfl, h⟩
theorem erase_perm {α : Type} : ∀ {l : List α} {j : Nat} (h : j < l.length), (l[j] :: l.eraseIdx j).Perm l
  | [], _, h => absurd h (by simp)
  | x :: l, 0, _ => by simp
  | x :: l, j + 1, h => by
    have hj : j < l.length := by simpa using h
    simp only [List.getElem_cons_succ, List.eraseIdx_cons_succ]
    exact (List.Perm.swap _ _ _).trans (List.Perm.cons _ (erase_perm hj))
theorem small9000 {i : Int} (h : i.natAbs < 2 ^ 100) : i.natAbs.log2 < 9000 := by
  have : (2 : Nat) ^ 100 < 2 ^ 400 := Nat.pow_lt_pow_right (by decide) (by decide)
  exact Nat.lt_trans (lg400 _ (by omega)) (by decide)
/-- a comprehension that draws, with what is known of each -/
theorem lc_bagT {α β : Type} {enc : α → PyData} {dec : β → PyData} {t : GF} {f : EF} {ρ : Rho} {pre rest : Sto} {R : α → β → Prop} {k : Nat} : ∀ (l : List α) (n : Nat) (acc : List PyData) (S : Sto), (∀ a ∈ l, ∃ ρ1, t (enc a) ρ = some ρ1 ∧ ∀ (m : Nat) (S : Sto), Bag pre (m + k) rest S → ∃ y S', f ρ1 S = .ok (.d (dec y)) S' ∧ R a y ∧ Bag pre m rest S') → Bag pre (n + k * l.length) rest S →
    ∃ (ys : List β) (S' : Sto), lcRun t bYes f ρ (l.map enc) acc S = .ok (acc ++ ys.map dec) S' ∧ ys.length = l.length ∧ (∀ p ∈ l.zip ys, R p.1 p.2) ∧ Bag pre n rest S'
  | [], n, acc, S, _, hB => ⟨[], S, by simp [lcRun], rfl, (fun _ h => by simp at h), by simpa using hB⟩
  | d :: l, n, acc, S, h, hB => by
    obtain ⟨ρ1, h1, h2⟩ := h d (by simp)
    have e : n + k * (d :: l).length = n + k * l.length + k := by rw [List.length_cons, Nat.mul_succ]; omega
    rw [e] at hB
    obtain ⟨y, S1, h3, h4, h5⟩ := h2 _ S hB
    obtain ⟨ys, S', h6, h7, h8, h9⟩ := lc_bagT (enc := enc) (dec := dec) (t := t) (f := f) (ρ := ρ) (pre := pre) (rest := rest) (R := R) (k := k) l n (acc ++ [dec y]) S1 (fun x hx => h x (by simp [hx])) h5
    refine ⟨y :: ys, S', ?_, by simp [h7], fun z hz => ?_, h9⟩
    · rw [List.map_cons]
      unfold lcRun
      rw [h1]
      dsimp only [bYes]
      rw [h3]
      dsimp only
      rw [h6, List.append_assoc]
      rfl
    · rw [List.zip_cons_cons] at hz
      rcases List.mem_cons.mp hz with e | e
      · rw [e]; exact h4
      · exact h8 z e
section
variable {pre rest S : Sto} {n : Nat}
/-! ### a drawn order -/
end
end DL

set_option Elab.async false
set_option linter.all false
set_option maxRecDepth 100000
set_option maxHeartbeats 4000000
namespace DL
open PySem PySem.Spec PyProof.Rows L2
theorem ev_osom {ρ : Rho} {S S1 : Sto} {f : EF} {i : Int} (h : f ρ S = .ok (.d (.int i)) S1) : oSom f ρ S = .ok (some i) S1 := by unfold oSom; rw [h]; rfl
theorem ev_sl {ρ : Rho} {S S1 S2 S3 : Sto} {f : EF} {lo hi : OF} {w : Wv} {x y : PyData} {a b : Option Int} (h1 : f ρ S = .ok w S1) (h2 : lo ρ S1 = .ok a S2) (h3 : hi ρ S2 = .ok b S3) (hv : view S3 w = some x) (hs : slD x a b = some y) : eSl f lo hi ρ S = .ok (.d y) S3 := by
  unfold eSl; rw [h1]; simp only [Rs.bind]; rw [h2]; simp only [Rs.bind]; rw [h3]; simp only [Rs.bind, hv, hs]
theorem cut_take (l : List PyData) (k : Nat) : cutD l none (some (k : Int)) = l.take k := by
  unfold cutD
  rw [HT.sIx_none, HT.sIx_nat, List.drop_zero, Nat.sub_zero]
  by_cases h : k ≤ l.length
  · rw [Nat.min_eq_left h]
  · rw [Nat.min_eq_right (by omega), List.take_of_length_le (by omega), List.take_of_length_le (by omega)]
theorem cut_drop (l : List PyData) (k : Nat) : cutD l (some (k : Int)) none = l.drop k := by
  unfold cutD
  rw [HT.sIx_none, HT.sIx_nat]
  by_cases h : k ≤ l.length
  · rw [Nat.min_eq_left h, List.take_of_length_le (by rw [List.length_drop]; omega)]
  · rw [Nat.min_eq_right (by omega), List.drop_of_length_le (by omega), List.drop_of_length_le (by omega)]
    simp
def nine : List Str := [PySem.Str.ofString "apple", PySem.Str.ofString "tea", PySem.Str.ofString "x", PySem.Str.ofString "bread", PySem.Str.ofString "milk", PySem.Str.ofString "zz", PySem.Str.ofString "nut", PySem.Str.ofString "abcdefgh", PySem.Str.ofString "q"]
theorem nine_nodup : nine.Nodup := by decide +kernel
section
variable {pre rest S : Sto} {n : Nat}
/-! ### dicts of bundles and prices -/
def prsD (prs : List Ch) : List (PyData × PyData) := prs.map fun p => (tb p.1, PyData.int p.2)
def putP (prs : List Ch) (q : List Nat) (x : Int) : List Ch := if (prs.any fun p => decide (p.1 = q)) = true then prs.map fun p => if p.1 = q then (p.1, x) else p else prs ++ [(q, x)]
theorem put_prs (prs : List Ch) (q : List Nat) (x : Int) : putD (prsD prs) (tb q) (.int x) = prsD (putP prs q x) := by
  unfold putD putP prsD
  have h1 : ((prs.map fun p => (tb p.1, PyData.int p.2)).any fun p => kEq p.1 (tb q)) = prs.any fun p => decide (p.1 = q) := by
    rw [List.any_map]
    congr 1
    funext p
    exact kEq_b _ _
  rw [h1]
  split
  · rw [List.map_map, List.map_map]
    refine List.map_congr_left fun p _ => ?_
    simp only [Function.comp_def, kEq_b]
    by_cases e : p.1 = q <;> simp [e]
  · simp
theorem dput_prs {prs : List Ch} {q : List Nat} (h : prs.length ≤ 1000000) : dputOk (prsD prs) (tb q) = true := by
  unfold dputOk kindOk prsD
  have : (1000000 : Nat) < sizeLine := by decide
  rw [keyD_b, keyOk_b, decide_eq_true (by rw [List.length_map]; omega), List.all_eq_true.mpr]
  · rfl
  · intro x hx
    obtain ⟨p, _, rfl⟩ := List.mem_map.mp hx
    rfl
def lookP (prs : List Ch) (q : List Nat) : Int := ((prs.find? fun p => decide (p.1 = q)).map (·.2)).getD 0
theorem find_prs {q : List Nat} : ∀ {prs : List Ch}, q ∈ prs.map (·.1) → valD (prsD prs) (tb q) = some (.int (lookP prs q)) ∧ (q, lookP prs q) ∈ prs
  | [], h => by simp at h
  | p :: prs, h => by
    unfold valD prsD lookP
    rw [List.map_cons, List.find?_cons, List.find?_cons, kEq_b]
    by_cases e : p.1 = q
    · subst e; simp
    · rw [decide_eq_false e]
      rw [List.map_cons] at h
      rcases List.mem_cons.mp h with z | z
      · exact absurd z.symm e
      · obtain ⟨h1, h2⟩ := find_prs (prs := prs) z
        exact ⟨h1, List.mem_cons_of_mem _ h2⟩
theorem ix_prs {q : List Nat} {prs : List Ch} (h : q ∈ prs.map (·.1)) : ixD (.dict (prsD prs)) (tb q) = some (.int (lookP prs q)) := by
  have hk : kindOk (prsD prs) (tb q) = true := by
    unfold kindOk prsD
    rw [keyD_b, List.all_eq_true.mpr]
    · rfl
    · intro x hx
      obtain ⟨p, _, rfl⟩ := List.mem_map.mp hx
      rfl
  show (if kindOk (prsD prs) (tb q) && keyOk (tb q) then valD (prsD prs) (tb q) else none) = _
  rw [hk, keyOk_b, (find_prs h).1]
  rfl
theorem tups_tb (bs : List (List Nat)) : tupsD (bs.map tb) = some (bs.map zs) := by
  have h : bs.map tb = (bs.map zs).map fun b => .tuple (b.map PyData.int) := by
    rw [List.map_map]
    exact List.map_congr_left fun b _ => tb_ints b
  rw [h, tupsD_map]
theorem sort_prs {prs : List Ch} {P : Nat} (h1 : 1 ≤ P) (hl : ∀ d ∈ prs, d.1.length = P) (hz : prs.length < 64) : ∃ bs : List (List Nat), srtG [.dict (prsD prs)] = some (.list (bs.map tb)) ∧ bs.Perm (prs.map (·.1)) := by
  have hk : (prsD prs).map (·.1) = (prs.map (·.1)).map tb := by unfold prsD; rw [List.map_map, List.map_map]; rfl
  show ∃ bs : List (List Nat), (srtL ((prsD prs).map (·.1))).map PyData.list = some (.list (bs.map tb)) ∧ bs.Perm (prs.map (·.1))
  rw [hk]
  cases prs with
  | nil => exact ⟨[], rfl, List.Perm.refl _⟩
  | cons p prs =>
    have hperm := sortB_perm HT.lexLt (((p :: prs).map (·.1)).map zs)
    obtain ⟨bs, hb, e⟩ := perm_map_inv hperm rfl
    refine ⟨bs, ?_, hb⟩
    unfold srtL
    rw [if_pos (by simpa using hz)]
    have hi : intsD (((p :: prs).map (·.1)).map tb) = none := rfl
    rw [hi]
    dsimp only
    rw [tups_tb]
    dsimp only
    have he : evenT (((p :: prs).map (·.1)).map zs) = true := by
      rw [List.map_cons, List.map_cons]
      have hp := hl p (by simp)
      have hp1 : 1 ≤ (zs p.1).length := by unfold zs; rw [List.length_map]; omega
      show (decide (1 ≤ (zs p.1).length) && (zs p.1 :: (prs.map (·.1)).map zs).all fun c => decide (c.length = (zs p.1).length) && c.all fun i => decide (0 ≤ i)) = true
      rw [decide_eq_true hp1, Bool.true_and, List.all_eq_true]
      intro c hc
      rw [← List.map_cons, ← List.map_cons (f := fun x : Ch => x.1)] at hc
      obtain ⟨b, hb, rfl⟩ := List.mem_map.mp hc
      obtain ⟨d, hd, rfl⟩ := List.mem_map.mp hb
      have hd' := hl d hd
      rw [Bool.and_eq_true, List.all_eq_true]
      refine ⟨decide_eq_true (by unfold zs; rw [List.length_map, List.length_map]; omega), fun i hi => ?_⟩
      obtain ⟨k, _, rfl⟩ := List.mem_map.mp hi
      exact decide_eq_true (by omega)
    rw [he, if_pos rfl]
    have hs : sortT (((p :: prs).map (·.1)).map zs) = bs.map zs := e
    rw [hs, List.map_map]
    have hm : bs.map ((fun b => PyData.tuple (b.map PyData.int)) ∘ zs) = bs.map tb := List.map_congr_left fun b _ => (tb_ints b).symm
    rw [hm]
    rfl
end
end DL

set_option Elab.async false
set_option linter.all false
set_option maxRecDepth 100000
set_option maxHeartbeats 4000000
namespace DL
open PySem PySem.Spec PyProof.Rows L2
theorem sum_bound {α : Type} {f : α → Int} {c : Int} : ∀ l : List α, (∀ a ∈ l, 0 ≤ f a ∧ f a ≤ c) → 0 ≤ (l.map f).sum ∧ (l.map f).sum ≤ c * l.length
  | [], _ => by simp
  | a :: l, h => by
    obtain ⟨h1, h2⟩ := h a (by simp)
    obtain ⟨h3, h4⟩ := sum_bound l fun x hx => h x (by simp [hx])
    rw [List.map_cons, List.sum_cons, List.length_cons]
    have : c * ((l.length + 1 : Nat) : Int) = c * l.length + c := by rw [Int.natCast_add, Int.mul_add]; simp
    rw [this]
    omega
/-- pairs that may stand among the deals of a list of P products -/
def GoodP (P M : Nat) (prs : List Ch) : Prop := (prs.map (·.1)).Nodup ∧ ∀ d ∈ prs, d.1.length = P ∧ 1 < d.1.sum ∧ (∀ m ∈ d.1, m ≤ M) ∧ 0 ≤ d.2 ∧ d.2 ≤ 10 ^ 9
theorem GoodP.put {P M : Nat} {prs : List Ch} {q : List Nat} {x : Int} (h : GoodP P M prs) (hq : q.length = P ∧ 1 < q.sum ∧ (∀ m ∈ q, m ≤ M) ∧ 0 ≤ x ∧ x ≤ 10 ^ 9) : GoodP P M (putP prs q x) ∧ (putP prs q x).length ≤ prs.length + 1 := by
  unfold putP
  split
  · refine ⟨⟨?_, fun d hd => ?_⟩, by rw [List.length_map]; omega⟩
    · have e : ((prs.map fun p => if p.1 = q then (p.1, x) else p).map (·.1)) = prs.map (·.1) := by
        rw [List.map_map]
        refine List.map_congr_left fun p _ => ?_
        simp only [Function.comp_def]
        split <;> rfl
      rw [e]
      exact h.1
    · obtain ⟨p, hp, rfl⟩ := List.mem_map.mp hd
      have := h.2 p hp
      split
      · rename_i e
        rw [e]
        exact hq
      · exact this
  · rename_i hany
    refine ⟨⟨?_, fun d hd => ?_⟩, by simp⟩
    · rw [List.map_append, List.nodup_append]
      refine ⟨h.1, by simp, fun a ha b hb z => ?_⟩
      simp only [List.map_cons, List.map_nil, List.mem_singleton] at hb
      subst hb
      subst z
      obtain ⟨p, hp, e⟩ := List.mem_map.mp ha
      exact hany (List.any_eq_true.mpr ⟨p, hp, decide_eq_true e⟩)
    · rcases List.mem_append.mp hd with z | z
      · exact h.2 d z
      · rw [List.mem_singleton.mp z]
        exact hq
section
variable {pre rest S : Sto} {n : Nat}
noncomputable def dealB : SF := (sSeq (sSet 8 (eB tupG (lCons (eFz (mLc (iVal (eVar 4)) (gNm 10) bYes (eCall 2 f__law_some (lCons (eVar 0) (lCons (eFz (mLst (lCons (eC (.int 0)) (lCons (eC (.int 1)) (lCons (eC (.int 1)) (lCons (eBin addD (eC (.int 1)) (eCall 2 f__law_take (lCons (eVar 0) (lCons (eVar 3) lNil)))) lNil)))))) lNil))) [10])) lNil))) (sIf (tCmpB gtD (eB sumG (lCons (eVar 8) lNil)) (eC (.int 1))) (sSeq (sSet 9 (eB sumG (lCons (eFz (mLc (iZip (lCons (eVar 8) (lCons (eVar 6) lNil))) (gTp 2 (gsCons (gNm 11) (gsCons (gTp 2 (gsCons (gNm 10) (gsCons (gNm 12) gsNil))) gsNil))) bYes (eBin mulD (eVar 11) (eVar 12)) [11, 10, 12])) lNil))) (sDput (eVar 5) (eVar 8) (eB maxLG (lCons (eC (.int 0)) (lCons (eBin subD (eVar 9) (eCall 2 f__law_some (lCons (eVar 0) (lCons (eFz (mLst (lCons (eC (.int 0)) (lCons (eC (.int 1)) (lCons (eC (.int 1)) (lCons (eC (.int 2)) (lCons (eC (.int 3)) (lCons (eBin fdivD (eVar 9) (eC (.int 3))) (lCons (eBin fdivD (eVar 9) (eC (.int 2))) (lCons (eB negG (lCons (eC (.int 1)) lNil)) (lCons (eVar 9) lNil))))))))))) lNil)))) lNil))))) sNil))
theorem sum_nats (b : List Nat) : sumG [tb b] = some (.int ((b.sum : Nat) : Int)) := by
  show Option.map (fun bs : List Int => PyData.int bs.sum) (intsD (b.map nI)) = _
  have e : b.map nI = (zs b).map PyData.int := by
    unfold zs
    rw [List.map_map]
    rfl
  rw [e, intsD_map]
  have : ∀ b : List Nat, (zs b).sum = ((b.sum : Nat) : Int) := fun b => by
    induction b with
    | nil => rfl
    | cons x b ih =>
      unfold zs at *
      rw [List.map_cons, List.sum_cons, List.sum_cons, ih]
      omega
  simp [this]
theorem fdiv_ok {a : Int} {c : Int} (hc : 0 < c) (hz : c ≤ 1000) : fdivD (.int a) (.int c) = some (.int (a.fdiv c)) := by
  have h1 : divOk c = true := decide_eq_true ⟨by omega, small9000 (by omega)⟩
  simp only [fdivD, h1, if_true]
theorem deal_step {P M k : Nat} {w1 w2 w7 w8 w9 : Option Wv} {nms : List Str} {gs : List (Str × Int)} {prs : List Ch} (hP : nms.length = P) (hP6 : P ≤ 6) (hg : gs.length = P) (hgs : ∀ g ∈ gs, 0 ≤ g.2 ∧ g.2 ≤ 100) (hM : 1 ≤ M) (hM2 : M ≤ 1000) (hgood : GoodP P M prs) (hl : prs.length ≤ 1000) (hk : S.length = k) (hB : Bag pre (n + (2 * P + 1)) rest S) :
    ∃ (w8' w9' : Option Wv) (prs' : List Ch) (S' : Sto), dealB [some (.own pre.length), w1, w2, some (.d (nI M)), some (.d (.list (nms.map PyData.str))), some (.own k), some (.d (.tuple (gs.map gdD))), w7, w8, w9, none, none, none] (S ++ [.dct (prsD prs)])
      = .fl (.nx [some (.own pre.length), w1, w2, some (.d (nI M)), some (.d (.list (nms.map PyData.str))), some (.own k), some (.d (.tuple (gs.map gdD))), w7, w8', w9', none, none, none]) (S' ++ [.dct (prsD prs')]) ∧ S'.length = k ∧ GoodP P M prs' ∧ prs'.length ≤ prs.length + 1 ∧ Bag pre n rest S' := by
  subst hk
  have hB0 : Bag pre ((n + 1) + 2 * nms.length) (rest ++ [.dct (prsD prs)]) (S ++ [.dct (prsD prs)]) := (hB.push _).mono (by omega)
  obtain ⟨b, S1, e1, hb1, hb2, hB1⟩ := lc_bagT (enc := PyData.str) (dec := nI) (t := gNm 10) (f := (eCall 2 f__law_some (lCons (eVar 0) (lCons (eFz (mLst (lCons (eC (.int 0)) (lCons (eC (.int 1)) (lCons (eC (.int 1)) (lCons (eBin addD (eC (.int 1)) (eCall 2 f__law_take (lCons (eVar 0) (lCons (eVar 3) lNil)))) lNil)))))) lNil)))) (ρ := [some (.own pre.length), w1, w2, some (.d (nI M)), some (.d (.list (nms.map PyData.str))), some (.own S.length), some (.d (.tuple (gs.map gdD))), w7, w8, w9, none, none, none]) (pre := pre) (rest := rest ++ [.dct (prsD prs)]) (R := fun _ m => m ≤ M) (k := 2) nms (n + 1) [] _
    (fun a _ => ⟨_, rfl, fun m S hB => by
      obtain ⟨r, S1, e, r0, r1, hB1⟩ := take_sem (n := m + 1) (many := (M : Int)) hB (by omega) (small9000 (by omega))
      obtain ⟨x, S2, e2, hx, hB2⟩ := some_sem (things := [.int 0, .int 1, .int 1, .int (1 + r)]) hB1 (by simp) (by simp)
      have hx' : ∃ v : Nat, x = nI v ∧ v ≤ M := by
        simp only [List.mem_cons, List.not_mem_nil, or_false] at hx
        rcases hx with h | h | h | h
        · exact ⟨0, h, by omega⟩
        · exact ⟨1, h, by omega⟩
        · exact ⟨1, h, by omega⟩
        · refine ⟨(1 + r).toNat, ?_, by omega⟩
          rw [h]
          unfold nI
          congr 1
          omega
      obtain ⟨v, rfl, hv⟩ := hx'
      exact ⟨v, S2, ev_call2 (ev_var rfl) (ev_fz (ev_lst (ev_lc1 ev_c (ev_lc1 ev_c (ev_lc1 ev_c (ev_lc1 (ev_bin ev_c (ev_call2 (ev_var rfl) (ev_var rfl) e) rfl rfl rfl) ev_ln)))) rfl (lo4 _ _ _ _))) e2, hv, hB2⟩⟩) hB0
  rw [List.nil_append] at e1
  obtain ⟨S2, rfl, hB2⟩ := hB1.pop
  have hlen2 : S2.length = S.length := by rw [hB2.len, hB.len]
  have hbM : ∀ m ∈ b, m ≤ M := fun m hm => by
    obtain ⟨i, hi, rfl⟩ := List.mem_iff_getElem.mp hm
    have hi2 : i < (nms.zip b).length := by simp; omega
    have := hb2 _ (List.getElem_mem hi2)
    rw [List.getElem_zip] at this
    exact this
  have hset8 : sSet 8 (eB tupG (lCons (eFz (mLc (iVal (eVar 4)) (gNm 10) bYes (eCall 2 f__law_some (lCons (eVar 0) (lCons (eFz (mLst (lCons (eC (.int 0)) (lCons (eC (.int 1)) (lCons (eC (.int 1)) (lCons (eBin addD (eC (.int 1)) (eCall 2 f__law_take (lCons (eVar 0) (lCons (eVar 3) lNil)))) lNil)))))) lNil))) [10])) lNil)) [some (.own pre.length), w1, w2, some (.d (nI M)), some (.d (.list (nms.map PyData.str))), some (.own S.length), some (.d (.tuple (gs.map gdD))), w7, w8, w9, none, none, none] (S ++ [.dct (prsD prs)])
      = .fl (.nx [some (.own pre.length), w1, w2, some (.d (nI M)), some (.d (.list (nms.map PyData.str))), some (.own S.length), some (.d (.tuple (gs.map gdD))), w7, some (.d (tb b)), w9, none, none, none]) (S2 ++ [.dct (prsD prs)]) := ev_set (ev_b1 (ev_fz (ev_lc (ev_val (ev_var rfl) rfl) e1)) rfl rfl)
  by_cases hsum : 1 < b.sum
  · -- a deal
    have hgt : gtD (.int ((b.sum : Nat) : Int)) (.int 1) = some (.bool true) := by
      simp only [gtD]
      rw [decide_eq_true (by omega)]
    generalize hW : ((b.zip gs).map fun p => (p.1 : Int) * p.2.2).sum = W
    have hWb : 0 ≤ W ∧ W ≤ 100000 * ((b.zip gs).length : Nat) := by
      rw [← hW]
      refine sum_bound _ fun p hp => ?_
      have h1 := hbM _ (List.of_mem_zip hp).1
      obtain ⟨h2, h3⟩ := hgs _ (List.of_mem_zip hp).2
      refine ⟨Int.mul_nonneg (by omega) h2, ?_⟩
      have h4 : (p.1 : Int) ≤ 1000 := by omega
      have := Int.mul_le_mul h4 h3 h2 (by decide)
      simpa using this
    have hWl : (b.zip gs).length ≤ 6 := by rw [List.length_zip]; omega
    have hset9 : ∀ S, sSet 9 (eB sumG (lCons (eFz (mLc (iZip (lCons (eVar 8) (lCons (eVar 6) lNil))) (gTp 2 (gsCons (gNm 11) (gsCons (gTp 2 (gsCons (gNm 10) (gsCons (gNm 12) gsNil))) gsNil))) bYes (eBin mulD (eVar 11) (eVar 12)) [11, 10, 12])) lNil)) [some (.own pre.length), w1, w2, some (.d (nI M)), some (.d (.list (nms.map PyData.str))), some (.own S2.length), some (.d (.tuple (gs.map gdD))), w7, some (.d (tb b)), w9, none, none, none] S
        = .fl (.nx [some (.own pre.length), w1, w2, some (.d (nI M)), some (.d (.list (nms.map PyData.str))), some (.own S2.length), some (.d (.tuple (gs.map gdD))), w7, some (.d (tb b)), some (.d (.int W)), none, none, none]) S := fun S => by
      rw [← hW]
      refine ev_set (ev_b1 (ev_fz (ev_lc (ev_zip (ev_var rfl) (ev_var rfl) rfl rfl) (m := (b.zip gs).map fun p => .int ((p.1 : Int) * p.2.2)) ?_)) rfl (sum_ints _ _))
      rw [zip_map]
      refine lc_all _ fun p hp => ⟨_, rfl, ev_bin (ev_var rfl) (ev_var rfl) rfl rfl ?_⟩
      have h1 := hbM _ (List.of_mem_zip hp).1
      obtain ⟨h2, h3⟩ := hgs _ (List.of_mem_zip hp).2
      have h10 : (1001 : Nat) < 2 ^ 400 := up_small (Nat.le_refl 1000) |> fun _ => by
        have : (2 : Nat) ^ 10 < 2 ^ 400 := Nat.pow_lt_pow_right (by decide) (by decide)
        omega
      simp only [nI, mulD, mulOk_small (i := (p.1 : Int)) (j := p.2.2) (by omega) (by omega), if_true]
    obtain ⟨x, S3, e3, hx, hB3⟩ := some_sem (n := n) (things := [.int 0, .int 1, .int 1, .int 2, .int 3, .int (W.fdiv 3), .int (W.fdiv 2), .int (-1), .int W]) (hB2.push [.dct (prsD prs)]) (by simp) (by simp)
    obtain ⟨S4, rfl, hB4⟩ := hB3.pop
    have hlen4 : S4.length = S.length := by rw [hB4.len, hB.len]
    have hx' : ∃ v : Int, x = .int v ∧ -1 ≤ v := by
      have h3 := Int.fdiv_nonneg hWb.1 (b := 3) (by decide)
      have h2 := Int.fdiv_nonneg hWb.1 (b := 2) (by decide)
      simp only [List.mem_cons, List.not_mem_nil, or_false] at hx
      rcases hx with h | h | h | h | h | h | h | h | h <;> exact ⟨_, h, by omega⟩
    obtain ⟨v, rfl, hv⟩ := hx'
    have hmax : maxLG [.int 0, .int (W - v)] = some (.int (if W - v > 0 then W - v else 0)) := rfl
    have hval : eB maxLG (lCons (eC (.int 0)) (lCons (eBin subD (eVar 9) (eCall 2 f__law_some (lCons (eVar 0) (lCons (eFz (mLst (lCons (eC (.int 0)) (lCons (eC (.int 1)) (lCons (eC (.int 1)) (lCons (eC (.int 2)) (lCons (eC (.int 3)) (lCons (eBin fdivD (eVar 9) (eC (.int 3))) (lCons (eBin fdivD (eVar 9) (eC (.int 2))) (lCons (eB negG (lCons (eC (.int 1)) lNil)) (lCons (eVar 9) lNil))))))))))) lNil)))) lNil)) [some (.own pre.length), w1, w2, some (.d (nI M)), some (.d (.list (nms.map PyData.str))), some (.own S2.length), some (.d (.tuple (gs.map gdD))), w7, some (.d (tb b)), some (.d (.int W)), none, none, none] (S2 ++ [.dct (prsD prs)])
        = .ok (.d (.int (if W - v > 0 then W - v else 0))) (S4 ++ [.dct (prsD prs)]) :=
      ev_b2 ev_c (ev_bin (ev_var rfl) (ev_call2 (ev_var rfl) (ev_fz (ev_lst (ev_lc1 ev_c (ev_lc1 ev_c (ev_lc1 ev_c (ev_lc1 ev_c (ev_lc1 ev_c (ev_lc1 (ev_bin (ev_var rfl) ev_c rfl rfl (fdiv_ok (by decide) (by decide))) (ev_lc1 (ev_bin (ev_var rfl) ev_c rfl rfl (fdiv_ok (by decide) (by decide))) (ev_lc1 (ev_b1 ev_c rfl rfl) (ev_lc1 (ev_var rfl) ev_ln))))))))) rfl rfl)) e3) rfl rfl rfl) rfl rfl hmax
    have hput := ev_dput (f := eVar 5) (g := eVar 8) hval (ev_var rfl) (ev_var rfl) (by rw [hlen2, ← hlen4]; exact last_get) (dput_prs (q := b) (prs := prs) (by omega))
    rw [put_prs] at hput
    have hset : (S4 ++ [MO.dct (prsD prs)]).set S2.length (.dct (prsD (putP prs b (if W - v > 0 then W - v else 0)))) = S4 ++ [.dct (prsD (putP prs b (if W - v > 0 then W - v else 0)))] := by rw [hlen2, ← hlen4]; exact last_set
    rw [hset] at hput
    obtain ⟨g1, g2⟩ := hgood.put (q := b) (x := if W - v > 0 then W - v else 0) ⟨by omega, hsum, fun m hm => hbM m hm, by split <;> omega, by split <;> omega⟩
    refine ⟨some (.d (tb b)), some (.d (.int W)), putP prs b (if W - v > 0 then W - v else 0), S4, ?_, hlen4, g1, g2, hB4⟩
    refine ev_seq hset8 ?_
    rw [← hlen2]
    refine Eq.trans (ev_if1 (S1 := S2 ++ [.dct (prsD prs)]) ?_) ?_
    · exact ev_cmp (ev_b1 (ev_var rfl) rfl (sum_nats b)) ev_c rfl rfl hgt
    · exact ev_seq (hset9 _) hput
  · refine ⟨some (.d (tb b)), w9, prs, S2, ?_, hlen2, hgood, by omega, hB2.mono (by omega)⟩
    have hgt : gtD (.int ((b.sum : Nat) : Int)) (.int 1) = some (.bool false) := by
      simp only [gtD]
      rw [decide_eq_false (by omega)]
    refine ev_seq hset8 ?_
    refine Eq.trans (ev_if2 (S1 := S2 ++ [.dct (prsD prs)]) ?_) ?_
    · exact ev_cmp (ev_b1 (ev_var rfl) rfl (sum_nats b)) ev_c rfl rfl hgt
    · exact ev_nil
end
end DL

set_option Elab.async false
set_option linter.all false
set_option maxRecDepth 100000
set_option maxHeartbeats 4000000
namespace DL
open PySem PySem.Spec PyProof.Rows L2
section
variable {pre rest S : Sto} {n : Nat}
theorem deals_run {P M k : Nat} {w1 w2 : Option Wv} {nms : List Str} {gs : List (Str × Int)} (hP : nms.length = P) (hP6 : P ≤ 6) (hg : gs.length = P) (hgs : ∀ g ∈ gs, 0 ≤ g.2 ∧ g.2 ≤ 100) (hM : 1 ≤ M) (hM2 : M ≤ 1000) : ∀ (l : List PyData) (S : Sto) (n : Nat) (prs : List Ch) (w7 w8 w9 : Option Wv), GoodP P M prs → prs.length + l.length ≤ 1000 → S.length = k → Bag pre (n + (2 * P + 1) * l.length) rest S →
    ∃ (w7' w8' w9' : Option Wv) (prs' : List Ch) (S' : Sto), forRun (gNm 7) dealB l [some (.own pre.length), w1, w2, some (.d (nI M)), some (.d (.list (nms.map PyData.str))), some (.own k), some (.d (.tuple (gs.map gdD))), w7, w8, w9, none, none, none] (S ++ [.dct (prsD prs)])
      = .fl (.nx [some (.own pre.length), w1, w2, some (.d (nI M)), some (.d (.list (nms.map PyData.str))), some (.own k), some (.d (.tuple (gs.map gdD))), w7', w8', w9', none, none, none]) (S' ++ [.dct (prsD prs')]) ∧ S'.length = k ∧ GoodP P M prs' ∧ prs'.length ≤ prs.length + l.length ∧ Bag pre n rest S'
  | [], S, n, prs, w7, w8, w9, hgood, hz, hk, hB => ⟨w7, w8, w9, prs, S, rfl, hk, hgood, by simp, by simpa using hB⟩
  | d :: l, S, n, prs, w7, w8, w9, hgood, hz, hk, hB => by
    rw [List.length_cons] at hz
    have e : n + (2 * P + 1) * (d :: l).length = n + (2 * P + 1) * l.length + (2 * P + 1) := by rw [List.length_cons, Nat.mul_succ]; omega
    rw [e] at hB
    obtain ⟨w8', w9', prs', S1, h1, h2, h3, h4, h5⟩ := deal_step (w1 := w1) (w2 := w2) (w7 := some (.d d)) (w8 := w8) (w9 := w9) hP hP6 hg hgs hM hM2 hgood (by omega) hk hB
    obtain ⟨v7, v8, v9, prs2, S2, g1, g2, g3, g4, g5⟩ := deals_run (w1 := w1) (w2 := w2) hP hP6 hg hgs hM hM2 l S1 n prs' (some (.d d)) w8' w9' h3 (by omega) h2 h5
    refine ⟨v7, v8, v9, prs2, S2, ?_, g2, g3, by rw [List.length_cons]; omega, g5⟩
    rw [← g1]
    exact for_step rfl h1
/-- what more is known of drawn lists -/
structure Shop.Few (s : Shop) (M : Nat) : Prop where
  d : ∀ d ∈ s.ds, ∀ m ∈ d.1, m ≤ M
  g : ∀ g ∈ s.gs, 1 ≤ g.2 ∧ g.2 ≤ 100
/-! ### baskets -/
end
end DL

set_option Elab.async false
set_option linter.all false
set_option maxRecDepth 100000
set_option maxHeartbeats 4000000
namespace DL
open PySem PySem.Spec PyProof.Rows L2
/-! ### repr of shops -/
/-- what may be shown: ints and texts that are short, of a weight of w at most -/
def Sw (w : Nat) (d : PyData) : Prop := d.showable = true ∧ d.leavesShort 13 = true ∧ d.weight ≤ w
theorem sws {w : Nat} : ∀ {l : List PyData}, (∀ x ∈ l, Sw w x) → PyData.showableAll l = true ∧ PyData.leavesShortAll 13 l = true ∧ PyData.weightAll l ≤ (w + 1) * l.length
  | [], _ => ⟨rfl, rfl, by simp [PyData.weightAll]⟩
  | x :: l, h => by
    obtain ⟨h1, h2, h3⟩ := sws (l := l) fun y hy => h y (by simp [hy])
    obtain ⟨g1, g2, g3⟩ := h x (by simp)
    refine ⟨by rw [PyData.showableAll, h1, g1]; rfl, by rw [PyData.leavesShortAll, h2, g2]; rfl, ?_⟩
    rw [PyData.weightAll, List.length_cons, Nat.mul_succ]
    omega
theorem Sw.tup {w v : Nat} {l : List PyData} (h : ∀ x ∈ l, Sw w x) (hv : (w + 1) * l.length ≤ v) : Sw v (.tuple l) := by
  obtain ⟨h1, h2, h3⟩ := sws h
  exact ⟨by rw [PyData.showable]; exact h1, by rw [PyData.leavesShort]; exact h2, by rw [PyData.weight]; omega⟩
theorem Sw.mono {w v : Nat} {d : PyData} (h : Sw w d) (hv : w ≤ v) : Sw v d := ⟨h.1, h.2.1, Nat.le_trans h.2.2 hv⟩
theorem Sw.int {i : Int} (h : i.natAbs ≤ 10 ^ 9) : Sw 40 (.int i) := by
  have hl : i.natAbs.log2 < 40 := by
    by_cases h0 : i.natAbs = 0
    · rw [h0]; decide
    · rw [Nat.log2_lt h0]
      have : (10 : Nat) ^ 9 < 2 ^ 40 := by decide
      omega
  refine ⟨by rw [PyData.showable]; exact decide_eq_true (by omega), by rw [PyData.leavesShort]; exact decide_eq_true (PyData.shown_int_le (by omega)), ?_⟩
  rw [PyData.weight]
  split <;> omega
theorem Sw.nI {i : Nat} (h : i ≤ 1000) : Sw 40 (nI i) := Sw.int (by omega)
theorem Sw.nine {x : Str} (h : x ∈ nine) : Sw 40 (.str x) := by
  have : ∀ x ∈ DL.nine, x.cps.size ≤ 40 ∧ (x.cps.toList.all fun c => decide (c < 16 ^ 8)) = true := by decide +kernel
  obtain ⟨h1, h2⟩ := this x h
  exact ⟨rfl, by rw [PyData.leavesShort]; exact h2, by rw [PyData.weight]; exact h1⟩
theorem shop_repr {s : Shop} (o : s.Ok) (hn : ∀ g ∈ s.gs, g.1 ∈ nine) : reprG [s.d] = some (.str s.d.shown) := by
  have h6 := o.g2
  have h60 := o.d1
  have hcm : Cm 4 s.d := by
    refine Cm.tup fun x hx => ?_
    simp only [List.mem_cons, List.not_mem_nil, or_false] at hx
    rcases hx with rfl | rfl
    · refine Cm.tup fun x hx => ?_
      obtain ⟨g, _, rfl⟩ := List.mem_map.mp hx
      refine (Cm.tup (n := 0) fun y hy => ?_).mono (by decide)
      simp only [List.mem_cons, List.not_mem_nil, or_false] at hy
      rcases hy with rfl | rfl
      · exact Cm.str
      · exact Cm.int
    · refine Cm.tup fun x hx => ?_
      obtain ⟨g, _, rfl⟩ := List.mem_map.mp hx
      refine (Cm.tup (n := 1) fun y hy => ?_)
      simp only [List.mem_cons, List.not_mem_nil, or_false] at hy
      rcases hy with rfl | rfl
      · exact Cm.tb
      · exact Cm.int
  have hsw : Sw (2 ^ 20) s.d := by
    refine Sw.tup (w := 100000) (fun x hx => ?_) (by show 100001 * 2 ≤ 2 ^ 20; decide)
    simp only [List.mem_cons, List.not_mem_nil, or_false] at hx
    rcases hx with rfl | rfl
    · refine Sw.tup (w := 100) (fun x hx => ?_) (by rw [List.length_map]; omega)
      obtain ⟨g, hg, rfl⟩ := List.mem_map.mp hx
      refine Sw.tup (w := 40) (fun y hy => ?_) (by show 41 * 2 ≤ 100; decide)
      simp only [List.mem_cons, List.not_mem_nil, or_false] at hy
      rcases hy with rfl | rfl
      · exact Sw.nine (hn g hg)
      · have := o.p g hg
        exact Sw.int (by omega)
    · refine Sw.tup (w := 1000) (fun x hx => ?_) (by rw [List.length_map]; omega)
      obtain ⟨c, hc, rfl⟩ := List.mem_map.mp hx
      obtain ⟨h1, h2, h3, h4, h5⟩ := o.d2 c hc
      refine Sw.tup (w := 400) (fun y hy => ?_) (by show 401 * 2 ≤ 1000; decide)
      simp only [List.mem_cons, List.not_mem_nil, or_false] at hy
      rcases hy with rfl | rfl
      · refine Sw.tup (w := 40) (fun y hy => ?_) (by rw [List.length_map]; omega)
        obtain ⟨m, hm, rfl⟩ := List.mem_map.mp hy
        exact Sw.nI (h3 m hm)
      · exact (Sw.int (by omega)).mono (by decide)
  have hok : reprOk s.d = true := by
    unfold reprOk
    rw [hcm.ok (by decide), hsw.1, hsw.2.1, decide_eq_true hsw.2.2, decide_eq_true (Nat.le_trans hcm.2 (by decide))]
    rfl
  show (if reprOk s.d = true then some (PyData.str s.d.shown) else none) = _
  rw [if_pos hok]
theorem str_ne (x : Str) : neD (.str x) (.str x) = some (.bool false) := by
  unfold neD
  rw [if_pos (by rfl)]
  simp [PyData.eqv]
theorem for_stepc {ρ : Rho} {S S2 : Sto} {t : GF} {s : SF} {d : PyData} {l : List PyData} {ρ1 ρ2 : Rho} (ht : t d ρ = some ρ1) (hb : s ρ1 S = .fl (.ct ρ2) S2) : forRun t s (d :: l) ρ S = forRun t s l ρ2 S2 := by
  show (match t d ρ with | some ρ1 => stepR (s ρ1 S) (forRun t s l) | none => .bad) = _
  rw [ht]; simp only []; rw [hb]; rfl
theorem ev_seqc {ρ ρ1 : Rho} {S S1 : Sto} {s t : SF} (h1 : s ρ S = .fl (.ct ρ1) S1) : sSeq s t ρ S = .fl (.ct ρ1) S1 := by unfold sSeq; rw [h1]; rfl
/-! ### what is asked of each thing -/
def TH (x : PyData) : Prop := (∃ t : List Int, x = tI t ∧ ∀ i ∈ t, Sm i) ∨ (isiOk x = true ∧ subT (tyD x) "tuple" = false) ∨ ∃ l, x = .tuple l ∧ (∀ y ∈ l, isiOk y = true) ∧ l.all isI = false
theorem last_ix (l : List PyData) (x : PyData) : ixD (.tuple (l ++ [x])) (.int (-1)) = some x := by
  show atI (l ++ [x]) (-1) = some x
  unfold atI ixN
  rw [if_neg (by decide)]
  have h1 : (-(((l ++ [x]).length : Nat) : Int) ≤ -1) := by rw [List.length_append, List.length_singleton]; omega
  have h2 : ((-1 : Int) + ((l ++ [x]).length : Nat)).toNat = l.length := by rw [List.length_append, List.length_singleton]; omega
  first
    | (rw [if_pos h1, h2]; simp)
    | (rw [if_pos (by rw [List.length_append, List.length_singleton]; omega)]; simp)
theorem ev_rev {ρ : Rho} {S S1 : Sto} {f : EF} {w : Wv} {x y : PyData} (h1 : f ρ S = .ok w S1) (h2 : view S1 w = some x) (h3 : revD x = some y) : eRev f ρ S = .ok (.d y) S1 := by
  unfold eRev; rw [h1]; simp only [Rs.bind, h2, h3]
theorem ev_cat {ρ : Rho} {S S1 S2 : Sto} {f g : EF} {w u : Wv} {l m : List PyData} (h1 : f ρ S = .ok w S1) (h2 : g ρ S1 = .ok u S2) (h3 : view S2 w = some (.list l)) (h4 : view S2 u = some (.list m)) (h5 : l.length + m.length ≤ sizeLine) : mCat f g ρ S = .ok (l ++ m) S2 := by
  unfold mCat; rw [h1]; simp only [Rs.bind]; rw [h2]; simp only [Rs.bind, h3, h4, h5, if_true]
theorem atI_nat {l : List PyData} {k : Nat} (h : k < l.length) : atI l (k : Int) = some l[k] := by
  unfold atI ixN
  rw [if_pos (by omega), if_pos (by omega)]
  simp [h]
theorem sm_of {i : Int} (h : i.natAbs ≤ 10 ^ 21) : Sm i := by
  have h1 : (10 : Nat) ^ 21 < 2 ^ 100 := by decide
  have h2 : (2 : Nat) ^ 100 < 2 ^ 400 := Nat.pow_lt_pow_right (by decide) (by decide)
  exact Nat.lt_of_le_of_lt h (Nat.lt_trans h1 h2)
theorem rev_map (t : List Int) : revD (tI t) = some (tI t.reverse) := by
  show some (PyData.tuple (t.map PyData.int).reverse) = _
  rw [← List.map_reverse]
  rfl
theorem ev_dvals {ρ : Rho} {S S1 : Sto} {f : EF} {l : List (PyData × PyData)} (h1 : f ρ S = .ok (.d (.dict l)) S1) (h2 : l.length ≤ sizeLine) : iDVals f ρ S = .ok (l.map (·.2)) S1 := by
  unfold iDVals; rw [h1]; simp only [Rs.bind, frzW, h2, if_true]
/-- a tuple with one item otherwise -/
def oddT (t0 : List Int) (a : Nat) (x : PyData) : PyData := .tuple ((t0.take a).map PyData.int ++ [x] ++ (t0.drop (a + 1)).map PyData.int)
theorem odd_eval {ρ : Rho} {S : Sto} {i j m : Nat} {t0 : List Int} {a : Nat} {x : PyData} (h1 : ρ[i]? = some (some (.d (tI t0)))) (h2 : ρ[j]? = some (some (.d (nI a)))) (h3 : ρ[m]? = some (some (.d x))) (ht : t0.length ≤ 10000) :
    eBin addD (eBin addD (eSl (eVar i) oNon (oSom (eVar j))) (eTup (lCons (eVar m) lNil))) (eSl (eVar i) (oSom (eBin addD (eVar j) (eC (.int 1)))) oNon) ρ S = .ok (.d (oddT t0 a x)) S := by
  have hz : (1000000 : Nat) < sizeLine := by decide
  have e1 : slD (tI t0) none (some (a : Int)) = some (.tuple ((t0.take a).map PyData.int)) := by
    show some (PyData.tuple (cutD _ none (some (a : Int)))) = _
    rw [cut_take, List.map_take]
  have e2 : slD (tI t0) (some ((a : Int) + 1)) none = some (.tuple ((t0.drop (a + 1)).map PyData.int)) := by
    show some (PyData.tuple (cutD _ (some (((a + 1 : Nat)) : Int)) none)) = _
    rw [cut_drop, List.map_drop]
  have l1 : ((t0.take a).map PyData.int).length + [x].length ≤ sizeLine := by
    rw [List.length_map, List.length_take, List.length_singleton]; omega
  have l2 : ((t0.take a).map PyData.int ++ [x]).length + ((t0.drop (a + 1)).map PyData.int).length ≤ sizeLine := by
    rw [List.length_append, List.length_map, List.length_map, List.length_take, List.length_drop, List.length_singleton]; omega
  have a1 : addD (.tuple ((t0.take a).map PyData.int)) (.tuple [x]) = some (.tuple ((t0.take a).map PyData.int ++ [x])) := by simp only [addD, l1, if_true]
  have a2 : addD (.tuple ((t0.take a).map PyData.int ++ [x])) (.tuple ((t0.drop (a + 1)).map PyData.int)) = some (oddT t0 a x) := by simp only [addD, l2, if_true, oddT]
  exact ev_bin (ev_bin (ev_sl (ev_var h1) rfl (ev_osom (ev_var h2)) rfl e1) (ev_tup (ev_lc1 (ev_var h3) ev_ln) rfl (lo1 _)) rfl rfl a1) (ev_sl (ev_var h1) (ev_osom (ev_bin (ev_var h2) ev_c rfl rfl rfl)) rfl rfl e2) rfl rfl a2
end DL

set_option Elab.async false
set_option linter.all false
set_option maxRecDepth 100000
set_option maxHeartbeats 4000000
namespace DL
open PySem PySem.Spec PyProof.Rows L2
section
variable {S : Sto} {s : Shop} {a b : List Nat}
theorem zeros_map {α : Type} (l : List α) : (l.map fun _ => PyData.int 0) = (zeroL l.length).map nI := by
  unfold zeroL
  induction l with
  | nil => rfl
  | cons x l ih => rw [List.map_cons, List.length_cons, List.replicate_succ, List.map_cons, ih]; rfl
theorem add_map : ((a.zip b).map fun p => PyData.int ((p.1 : Int) + (p.2 : Int))) = (addL a b).map nI := by
  unfold addL
  rw [List.map_map]
  exact List.map_congr_left fun p _ => by show _ = PyData.int _; rfl
theorem mul_map (k : Nat) : (a.map fun (x : Nat) => PyData.int ((k : Int) * ((x : Nat) : Int))) = (mulL k a).map nI := by
  unfold mulL
  rw [List.map_map]
  exact List.map_congr_left fun p _ => by show _ = PyData.int _; rfl
theorem mulD_nat {k x : Nat} (hk : k < 2 ^ 400) (hx : x < 2 ^ 400) : mulD (nI k) (nI x) = some (.int ((k : Int) * (x : Int))) := by
  simp only [nI, mulD, mulOk_small (i := (k : Int)) (j := (x : Int)) (by simpa using hk) (by simpa using hx), if_true]
/-! ### ways -/
variable {w : List Nat}
/-! ### prices by parts -/
theorem vals_b (l : List (List Nat)) (v : List Nat → Int) : (dictL l v).map (·.2) = l.map fun p => .int (v p) := by
  unfold dictL
  rw [List.map_map]
  rfl
/-- numbers told for all parts -/
def numsD (b : List Nat) (v : List Nat → Int) : PyData := .tuple ((partsR b).map fun p => .int (v p))
end
end DL

set_option Elab.async false
set_option linter.all false
set_option maxRecDepth 100000
set_option maxHeartbeats 4000000
namespace DL
open PySem PySem.Spec PyProof.Rows L2
/-! ### numbers told for parts -/
def vOf (b : List Nat) (t : List Int) : List Nat → Int := lookV ((partsR b).zip t)
where
  lookV (z : List (List Nat × Int)) (p : List Nat) : Int := ((z.find? fun x => decide (x.1 = p)).map (·.2)).getD 0
theorem vOf_map {l : List (List Nat)} : ∀ {t : List Int}, l.Nodup → t.length = l.length → l.map (vOf.lookV (l.zip t)) = t := by
  induction l with
  | nil => intro t _ h; cases t <;> simp at h ⊢
  | cons p l ih =>
    intro t hn h
    cases t with
    | nil => simp at h
    | cons i t =>
      rw [List.nodup_cons] at hn
      have h2 := ih hn.2 (by simpa using h)
      rw [List.zip_cons_cons, List.map_cons]
      have e1 : vOf.lookV ((p, i) :: l.zip t) p = i := by simp [vOf.lookV]
      have e2 : l.map (vOf.lookV ((p, i) :: l.zip t)) = l.map (vOf.lookV (l.zip t)) := List.map_congr_left fun q hq => by
        have : ¬ (p = q) := fun e => hn.1 (e ▸ hq)
        simp [vOf.lookV, this]
      rw [e1, e2, h2]
theorem nums_of {b : List Nat} {t : List Int} (h : t.length = (partsR b).length) : tI t = numsD b (vOf b t) := by
  have := vOf_map (l := partsR b) (t := t) (parts_nodup b) h
  unfold tI numsD
  congr 1
  conv => lhs; rw [← this]
  rw [List.map_map]
  rfl
theorem nums_tI (b : List Nat) (v : List Nat → Int) : numsD b v = tI ((partsR b).map v) := by
  unfold tI numsD
  rw [List.map_map]
  rfl
theorem eqvAll_b : ∀ a b : List Nat, PyData.eqvAll (a.map nI) (b.map nI) = decide (a = b)
  | [], [] => rfl
  | [], _ :: _ => rfl
  | _ :: _, [] => rfl
  | x :: a, y :: b => by
    rw [List.map_cons, List.map_cons, PyData.eqvAll, eqvAll_b a b]
    show (((x : Int) == (y : Int)) && decide (a = b)) = _
    rw [Bool.eq_iff_iff]
    simp only [Bool.and_eq_true, beq_iff_eq, decide_eq_true_eq, List.cons.injEq]
    constructor
    · rintro ⟨h1, h2⟩; exact ⟨by omega, h2⟩
    · rintro ⟨h1, h2⟩; exact ⟨by omega, h2⟩
theorem eqD_b (a b : List Nat) : eqD (tb a) (tb b) = some (.bool (decide (a = b))) := by
  unfold eqD
  rw [Cm.tb.ok (by decide), Cm.tb.ok (by decide)]
  show some (PyData.bool (PyData.eqvAll (a.map nI) (b.map nI))) = _
  rw [eqvAll_b]
theorem eand_f {f g : EF} {ρ : Rho} {S S1 : Sto} (h : f ρ S = .ok (.d (.bool false)) S1) : eAnd f g ρ S = .ok (.d (.bool false)) S1 := by unfold eAnd; rw [h]; rfl
theorem eand_t {f g : EF} {ρ : Rho} {S S1 : Sto} (h : f ρ S = .ok (.d (.bool true)) S1) : eAnd f g ρ S = g ρ S1 := by unfold eAnd; rw [h]; rfl
section
variable {S : Sto} {s : Shop} {b : List Nat} {t u : List Int}
/-! ### ways of any value -/
def isWayT (s : Shop) (b : List Nat) (t : List Int) : Bool := decide (t.length = s.cs.length) && ((t.all fun i => decide (0 ≤ i)) && decide (wayB s.gs.length s.cs (t.map Int.toNat) = b))
theorem tI_nat (h : (t.all fun i => decide (0 ≤ i)) = true) : tI t = tb (t.map Int.toNat) := by
  unfold tI tb
  rw [List.map_map]
  congr 1
  refine List.map_congr_left fun i hi => ?_
  rw [List.all_eq_true] at h
  have := of_decide_eq_true (h i hi)
  show PyData.int i = PyData.int _
  congr 1
  omega
theorem sm_nat (ht : ∀ i ∈ t, Sm i) : ∀ k ∈ t.map Int.toNat, k < 2 ^ 400 := fun k hk => by
  obtain ⟨i, hi, rfl⟩ := List.mem_map.mp hk
  have := ht i hi
  unfold Sm at this
  omega
theorem any_bools {α : Type} (l : List α) (p : α → Bool) : anyG [.list (l.map fun a => .bool (p a))] = some (.bool (l.any p)) := by
  have : ∀ l : List α, boolsD (l.map fun a => PyData.bool (p a)) = some (l.map p) := fun l => by
    induction l with
    | nil => rfl
    | cons a l ih => rw [List.map_cons, boolsD, ih]; rfl
  show Option.map (fun bs => PyData.bool (bs.any id)) (boolsD (l.map fun a => PyData.bool (p a))) = _
  rw [this]
  simp [List.any_map]
theorem neg_any (t : List Int) : (t.any fun i => decide (i < 0)) = !(t.all fun i => decide (0 ≤ i)) := by
  rw [List.all_eq_not_any_not, Bool.not_not]
  congr 1
  funext i
  by_cases h : i < 0
  · rw [decide_eq_true h, decide_eq_false (by omega)]; rfl
  · rw [decide_eq_false h, decide_eq_true (by omega)]; rfl
end
end DL

set_option Elab.async false
set_option linter.all false
set_option maxRecDepth 100000
set_option maxHeartbeats 4000000
namespace DL
open PySem PySem.Spec PyProof.Rows L2
theorem for_stepb {ρ : Rho} {S S2 : Sto} {t : GF} {s : SF} {d : PyData} {l : List PyData} {ρ1 ρ2 : Rho} (ht : t d ρ = some ρ1) (hb : s ρ1 S = .fl (.bk ρ2) S2) : forRun t s (d :: l) ρ S = .fl (.nx ρ2) S2 := by
  show (match t d ρ with | some ρ1 => stepR (s ρ1 S) (forRun t s l) | none => .bad) = _
  rw [ht]; simp only []; rw [hb]; rfl
theorem for_stepr {ρ : Rho} {S S2 : Sto} {t : GF} {s : SF} {d : PyData} {l : List PyData} {ρ1 : Rho} {w : Wv} (ht : t d ρ = some ρ1) (hb : s ρ1 S = .fl (.rt w) S2) : forRun t s (d :: l) ρ S = .fl (.rt w) S2 := by
  show (match t d ρ with | some ρ1 => stepR (s ρ1 S) (forRun t s l) | none => .bad) = _
  rw [ht]; simp only []; rw [hb]; rfl
theorem ev_forr {ρ : Rho} {S S1 S2 : Sto} {i : IF} {t : GF} {s : SF} {l : List PyData} {w : Wv} (h1 : i ρ S = .ok l S1) (h2 : forRun t s l ρ S1 = .fl (.rt w) S2) : sFor i t s ρ S = .fl (.rt w) S2 := by unfold sFor; rw [h1]; exact h2
theorem ev_augi {ρ : Rho} {S S1 S2 S3 : Sto} {g0 : PyData → PyData → Option PyData} {fo fi fe : EF} {k j : Nat} {w : Wv} {l : List PyData} {x y z : PyData} (h1 : fo ρ S = .ok (.own k) S1) (h2 : fi ρ S1 = .ok (.d (nI j)) S2) (h3 : S2[k]? = some (.lst l)) (h4 : l[j]? = some x) (h5 : fe ρ S2 = .ok w S3) (h6 : view S3 w = some y) (h7 : g0 x y = some z) (h8 : S3[k]? = some (.lst l)) : sAugI g0 fo fi fe ρ S = .fl (.nx ρ) (S3.set k (.lst (l.set j z))) := by
  have hj : j < l.length := (List.getElem?_eq_some_iff.mp h4).1
  have hat : atI l (j : Int) = some x := by rw [atI_n hj]; rw [← h4, List.getElem?_eq_getElem hj]
  have hset : ixSet l (j : Int) z = some (l.set j z) := by
    unfold ixSet ixN
    rw [if_pos (by omega), if_pos (by omega), Int.toNat_natCast]
    rfl
  unfold sAugI
  rw [h1]; simp only [bindS]; rw [h2]; simp only [bindS, nI, ownL, h3, hat]
  rw [h5]; simp only [bindS, h6, h7, h8, hset]
where
  atI_n {l : List PyData} {j : Nat} (h : j < l.length) : atI l (j : Int) = some l[j] := by
    unfold atI ixN
    rw [if_pos (by omega), if_pos (by omega), Int.toNat_natCast]
    simp [h]
section
variable {S : Sto} {s : Shop} {b : List Nat}
/-! ### a least way -/
def pickC (cs : List Ch) (p : List Nat) (c : Ch) : Bool := fitsL c.1 p && decide (priceL cs (lessL p c.1) + c.2 = priceL cs p)
theorem pick_some {n : Nat} {cs : List Ch} (h : Chs n cs) (hF : Full n cs) {p : List Nat} (hp : p.length = n) (h0 : 0 < p.sum) : ∃ c ∈ cs, pickC cs p c = true := by
  have hne := some_fit hF hp h0
  have hmem := mn_mem (l := (cs.filter fun c => fitsL c.1 p).map fun c => priceL cs (lessL p c.1) + c.2) (by simpa using hne)
  rw [← price_eq h hp] at hmem
  obtain ⟨c, hc, e⟩ := List.mem_map.mp hmem
  obtain ⟨hc, hf⟩ := List.mem_filter.mp hc
  exact ⟨c, hc, by unfold pickC; rw [hf, decide_eq_true e]; rfl⟩
end
end DL

set_option Elab.async false
set_option linter.all false
set_option maxRecDepth 100000
set_option maxHeartbeats 4000000
namespace DL
open PySem PySem.Spec PyProof.Rows L2
section
variable {S : Sto} {s : Shop} {b : List Nat} {t u : List Int} {v : List Nat → Int}
/-! ### potentials, any numbers -/
def isPotV (s : Shop) (b : List Nat) (v : List Nat → Int) : Bool := decide (v (zeroL s.gs.length) = 0) && potB s.cs b v
theorem first_zero (hb : b.length = s.gs.length) : ∃ l, partsR b = zeroL s.gs.length :: l := by
  obtain ⟨z, l, e, hz⟩ := parts_first b
  have : z ∈ partsR b := by rw [e]; simp
  have hzl : z.length = s.gs.length := (mem_parts.mp this).1.trans hb
  exact ⟨l, by rw [e, zeros_of hz, hzl]⟩
/-! ### the law's own look at potentials -/
theorem pairs_b (l : List (List Nat)) (v : List Nat → Int) : pairsD (l.map fun p => .tuple [tb p, .int (v p)]) = some (dictL l v) := by
  induction l with
  | nil => rfl
  | cons p l ih =>
    rw [List.map_cons, pairsD, ih]
    rfl
theorem mrg_dict {l : List (List Nat)} (v : List Nat → Int) (h : l.Nodup) : mrgD [] (dictL l v) = dictL l v := by
  have := mrg_b (v := v) l [] h
  rw [List.nil_append] at this
  have e : (l.map tb).zip (l.map fun p => PyData.int (v p)) = dictL l v := by
    unfold dictL
    clear this h
    induction l with
    | nil => rfl
    | cons p l ih => rw [List.map_cons, List.map_cons, List.zip_cons_cons, ih, List.map_cons]
  rw [e] at this
  exact this
end
end DL

set_option Elab.async false
set_option linter.all false
set_option maxRecDepth 100000
set_option maxHeartbeats 4000000
namespace DL
open PySem PySem.Spec PyProof.Rows L2
section
variable {S : Sto} {s : Shop} {b : List Nat} {t u : List Int} {v : List Nat → Int}
theorem nums_last : ixD (numsD b v) (.int (-1)) = some (.int (v b)) := by
  obtain ⟨l, e⟩ := parts_last b
  unfold numsD
  rw [e, List.map_append]
  exact last_ixN _ _
where
  last_ixN (l : List PyData) (x : PyData) : ixD (.tuple (l ++ [x])) (.int (-1)) = some x := by
    show atI (l ++ [x]) (-1) = some x
    unfold atI ixN
    rw [if_neg (by decide), if_pos (by rw [List.length_append, List.length_singleton]; omega)]
    have h2 : ((-1 : Int) + ((l ++ [x]).length : Nat)).toNat = l.length := by rw [List.length_append, List.length_singleton]; omega
    rw [h2]
    simp
/-! ### papers -/
def isPotT (s : Shop) (b : List Nat) (u : List Int) : Bool := if u.length = (partsR b).length then isPotV s b (vOf b u) else false
def isPapT (s : Shop) (b : List Nat) (t u : List Int) : Bool := isWayT s b t && (isPotT s b u && decide (vOf b u b = waySum s.cs (t.map Int.toNat)))
theorem eqD_ii (a c : Int) : eqD (.int a) (.int c) = some (.bool (decide (a = c))) := by
  rw [eqD_int]
  rfl
theorem len2_ne {l : List PyData} : neD (.int (l.length : Nat)) (.int 2) = some (.bool (!decide (l.length = 2))) := by
  rw [neD_int]
  congr 3
  rw [Bool.eq_iff_iff]
  simp only [beq_iff_eq, decide_eq_true_eq]
  omega
theorem potT_last (h : isPotT s b u = true) : ixD (tI u) (.int (-1)) = some (.int (vOf b u b)) := by
  unfold isPotT at h
  split at h
  · rename_i hl
    rw [nums_of hl]
    exact nums_last
  · cases h
theorem wayT_nat (h : isWayT s b t = true) : tI t = tb (t.map Int.toNat) ∧ wayB s.gs.length s.cs (t.map Int.toNat) = b := by
  unfold isWayT at h
  simp only [Bool.and_eq_true, decide_eq_true_eq] at h
  exact ⟨tI_nat h.2.1, h.2.2⟩
/-- of a paper that is one, the way costs the price -/
theorem pap_price (o : s.Ok) (hb : Bsk s.gs.length b) (h : isPapT s b t u = true) : waySum s.cs (t.map Int.toNat) = priceL s.cs b := by
  unfold isPapT at h
  simp only [Bool.and_eq_true, decide_eq_true_eq] at h
  obtain ⟨hw, hp, he⟩ := h
  obtain ⟨e1, e2⟩ := wayT_nat hw
  unfold isPotT at hp
  split at hp
  · unfold isPotV at hp
    simp only [Bool.and_eq_true, decide_eq_true_eq] at hp
    have hv := potB_iff.mp hp.2
    have h1 := pot_le_price o.chs o.full hb.len hp.1 hv b.sum b (Nat.le_refl _) (mem_parts.mpr ⟨rfl, fits_refl b⟩)
    obtain ⟨q1, q2⟩ := price_pot (cs := s.cs) o.chs hb.len
    have h2 := pot_le_way o.chs hb.len q1 q2 e2
    omega
  · cases hp
/-! ### a drawn potential -/
end
end DL

set_option Elab.async false
set_option linter.all false
set_option maxRecDepth 100000
set_option maxHeartbeats 4000000
namespace DL
open PySem PySem.Spec PyProof.Rows L2
/-- the shop without a deal -/
def Shop.wo (s : Shop) (q : List Nat) : Shop := ⟨s.gs, s.ds.filter fun d => !decide (d.1 = q)⟩
theorem Shop.Ok.wo {s : Shop} (o : s.Ok) (q : List Nat) : (s.wo q).Ok where
  g1 := o.g1
  g2 := o.g2
  d1 := Nat.le_trans (List.length_filter_le _ _) o.d1
  d2 := fun d hd => o.d2 d (List.mem_filter.mp hd).1
  p := o.p
  nd := by
    refine List.Nodup.sublist ?_ o.nd
    exact List.Sublist.map _ List.filter_sublist
theorem deal_bsk {s : Shop} (o : s.Ok) {d : Ch} (hd : d ∈ s.ds) (hf : manyL d.1 ≤ 3000) : Bsk s.gs.length d.1 := ⟨(o.d2 d hd).1, (o.d2 d hd).2.2.1, hf⟩
theorem find_one {s : Shop} (o : s.Ok) {d : Ch} (hd : d ∈ s.ds) : s.ds.filter (fun x => decide (x.1 = d.1)) = [d] := by
  have hnd := o.nd
  revert hnd hd
  generalize s.ds = l
  induction l with
  | nil => intro h; cases h
  | cons x l ih =>
    intro h hnd
    rw [List.map_cons, List.nodup_cons] at hnd
    rcases List.mem_cons.mp h with e | h
    · subst e
      rw [List.filter_cons, if_pos (by simp)]
      have : l.filter (fun x => decide (x.1 = d.1)) = [] := by
        rw [List.filter_eq_nil_iff]
        intro y hy hz
        exact hnd.1 (List.mem_map.mpr ⟨y, hy, of_decide_eq_true hz⟩)
      rw [this]
    · have hne : ¬ (x.1 = d.1) := fun e => hnd.1 (e ▸ List.mem_map.mpr ⟨d, h, rfl⟩)
      rw [List.filter_cons, if_neg (by simp [hne])]
      exact ih h hnd.2
section
variable {S : Sto} {s : Shop} {b q : List Nat} {c : Int}
theorem neD_b (a b : List Nat) : neD (tb a) (tb b) = some (.bool (!decide (a = b))) := by
  unfold neD
  rw [Cm.tb.ok (by decide), Cm.tb.ok (by decide)]
  show some (PyData.bool (!PyData.eqvAll (a.map nI) (b.map nI))) = _
  rw [eqvAll_b]
theorem wo_map (s : Shop) (q : List Nat) : (s.ds.filter fun d => !decide (d.1 = q)).map chD = (s.wo q).ds.map chD := rfl
/-- what the others ask for a deal's bundle -/
def othersL (s : Shop) (q : List Nat) : Int := priceL (s.wo q).cs q
end
end DL

set_option Elab.async false
set_option linter.all false
set_option maxRecDepth 100000
set_option maxHeartbeats 4000000
namespace DL
open PySem PySem.Spec PyProof.Rows L2
/-! ### what many laws use -/
theorem price_le_way {n : Nat} {cs : List Ch} (h : Chs n cs) {b : List Nat} (hb : b.length = n) {w : List Nat} (hw : wayB n cs w = b) : priceL cs b ≤ waySum cs w := by
  obtain ⟨h0, hv⟩ := price_pot (cs := cs) h hb
  exact pot_le_way h hb h0 hv hw
theorem cs_len2 (s : Shop) : s.cs.length = s.gs.length + s.ds.length := by simp [Shop.cs]
theorem many_le {M : Nat} : ∀ (b : List Nat) (a : Nat), (∀ m ∈ b, m ≤ M) → b.foldl (fun a m => a * (m + 1)) a ≤ a * (M + 1) ^ b.length
  | [], a, _ => by simp
  | m :: b, a, h => by
    have ih := many_le b (a * (m + 1)) fun x hx => h x (by simp [hx])
    have h1 := h m (by simp)
    rw [List.foldl_cons, List.length_cons, Nat.pow_succ, Nat.mul_comm _ (M + 1), ← Nat.mul_assoc]
    exact Nat.le_trans ih (Nat.mul_le_mul_right _ (Nat.mul_le_mul_left _ (by omega)))
section
variable {S : Sto} {s : Shop} {b : List Nat} {t u : List Int}
theorem eqD_str (x y : Str) : eqD (.str x) (.str y) = some (.bool (x == y)) := by
  unfold eqD
  rw [(Cm.str (i := x) (n := 0)).ok (by decide), (Cm.str (i := y) (n := 0)).ok (by decide)]
  rfl
theorem neD_str (x y : Str) : neD (.str x) (.str y) = some (.bool (!(x == y))) := by
  unfold neD
  rw [(Cm.str (i := x) (n := 0)).ok (by decide), (Cm.str (i := y) (n := 0)).ok (by decide)]
  rfl
theorem ix_tI {k : Nat} (h : k < t.length) : ixD (tI t) (nI k) = some (.int (t.getD k 0)) := by
  show atI (t.map PyData.int) (k : Int) = _
  rw [atI_nat (by rw [List.length_map]; exact h), List.getElem_map]
  simp [List.getD_eq_getElem?_getD, List.getElem?_eq_getElem h]
theorem alike_bool (due : Bool) (S : Sto) : f__law_alike [.d (.bool due), .d (.bool due)] S = .ok (.d (.bool true)) S := alike_sem rfl (by show 1 ≤ 999999; decide)
theorem vOf_agree {v : List Nat → Int} : ∀ p ∈ partsR b, vOf b ((partsR b).map v) p = v p := by
  have h := vOf_map (l := partsR b) (t := (partsR b).map v) (parts_nodup b) (by rw [List.length_map])
  exact List.map_inj_left.mp h
theorem isPotV_congr (o : s.Ok) (hb : b.length = s.gs.length) {v u : List Nat → Int} (h : ∀ p ∈ partsR b, v p = u p) : isPotV s b v = isPotV s b u := by
  obtain ⟨l, hz⟩ := first_zero (s := s) hb
  have hcs : Chs b.length s.cs := by rw [hb]; exact o.chs
  unfold isPotV
  rw [h _ (by rw [hz]; simp)]
  congr 1
  rw [Bool.eq_iff_iff, potB_iff, potB_iff]
  unfold PotL
  constructor
  · intro g p hp c hc hf
    have := g p hp c hc hf
    rw [h p hp, h _ (less_in hcs hp hc hf)] at this
    exact this
  · intro g p hp c hc hf
    have := g p hp c hc hf
    rw [h p hp, h _ (less_in hcs hp hc hf)]
    exact this
theorem zs_nat (w : List Nat) : (zs w).map Int.toNat = w := by
  unfold zs
  rw [List.map_map]
  conv => rhs; rw [← List.map_id w]
  exact List.map_congr_left fun x _ => by simp
theorem tb_tI (w : List Nat) : tb w = tI (zs w) := tb_ints w
theorem sum_le1000 : ∀ l : List Nat, (∀ k ∈ l, k ≤ 1000) → l.sum ≤ 1000 * l.length
  | [], _ => by simp
  | x :: l, h => by
    have h1 := h x (by simp)
    have h2 := sum_le1000 l fun y hy => h y (by simp [hy])
    rw [List.sum_cons, List.length_cons, Nat.mul_succ]
    omega
theorem price_small (o : s.Ok) (hb : Bsk s.gs.length b) : ∀ p ∈ partsR b, (priceL s.cs p).natAbs ≤ 10 ^ 20 := fun p hp => by
  have h1 := sum_le1000 b hb.le
  have h2 := hb.len
  have h3 := o.g2
  have hpm := mem_parts.mp hp
  have hps := fits_sum hpm.1 hpm.2
  have hbd := price_bound o.chs o.full (B := 10 ^ 9) (fun c hc => (o.mem hc).2.2.2) p.sum p (Nat.le_refl _) (hpm.1.trans hb.len)
  have h4 : (10 ^ 9 : Int) * (p.sum : Int) ≤ 10 ^ 9 * 6000 := Int.mul_le_mul_of_nonneg_left (by omega) (by decide)
  omega
end
end DL

set_option Elab.async false
set_option linter.all false
set_option maxRecDepth 100000
set_option maxHeartbeats 4000000
namespace DL
open PySem PySem.Spec PyProof.Rows L2
/-! ### what raises, step by step -/
section
variable {ρ ρ1 : Rho} {S S1 S2 S3 : Sto} {f g h : EF} {w u : Wv} {x : Xc} {l m : List PyData} {op : PyData → PyData → Option PyData} {s t : SF} {L : LF} {i j : Nat} {ws : List Wv} {ds : List PyData}
theorem ex_set (h1 : f ρ S = .exc x S1) : sSet i f ρ S = .exc x ρ S1 := by unfold sSet; rw [h1]; rfl
theorem ex_expr (h1 : f ρ S = .exc x S1) : sExpr f ρ S = .exc x ρ S1 := by unfold sExpr; rw [h1]; rfl
theorem ex_ret (h1 : f ρ S = .exc x S1) : sRet f ρ S = .exc x ρ S1 := by unfold sRet; rw [h1]; rfl
theorem ex_seq (h1 : s ρ S = .exc x ρ1 S1) : sSeq s t ρ S = .exc x ρ1 S1 := by unfold sSeq; rw [h1]; rfl
theorem ex_par1 (h1 : f ρ S = .exc x S1) : sPar i j f g ρ S = .exc x ρ S1 := by unfold sPar; rw [h1]; rfl
theorem ex_par2 (h1 : f ρ S = .ok w S1) (h2 : g ρ S1 = .exc x S2) : sPar i j f g ρ S = .exc x ρ S2 := by unfold sPar; rw [h1]; simp only [bindS]; rw [h2]
theorem ex_val (h1 : f ρ S = .exc x S1) : iVal f ρ S = .exc x S1 := by unfold iVal; rw [h1]; rfl
theorem ex_for {it : IF} {tg : GF} (h1 : it ρ S = .exc x S1) : sFor it tg s ρ S = .exc x ρ S1 := by unfold sFor; rw [h1]; rfl
theorem ex_bin1 (h1 : f ρ S = .exc x S1) : eBin op f g ρ S = .exc x S1 := by unfold eBin; rw [h1]; rfl
theorem ex_bin2 (h1 : f ρ S = .ok w S1) (h2 : g ρ S1 = .exc x S2) : eBin op f g ρ S = .exc x S2 := by unfold eBin; rw [h1]; simp only [Rs.bind]; rw [h2]
theorem ex_lc1 (h1 : f ρ S = .exc x S1) : lCons f L ρ S = .exc x S1 := by unfold lCons; rw [h1]; rfl
theorem ex_lc2 (h1 : f ρ S = .ok w S1) (h2 : L ρ S1 = .exc x S2) : lCons f L ρ S = .exc x S2 := by unfold lCons; rw [h1]; simp only [Rs.bind]; rw [h2]
theorem ex_raise {c : Str} {fs : List Str} (h1 : L ρ S = .ok ws S1) (h2 : allD ws = some ds) (h3 : ds.length = fs.length) : sRaise c fs L ρ S = .exc ⟨c, (fs.zip ds).reverse⟩ ρ S1 := by
  unfold sRaise; rw [h1]; simp only [bindS, h2, h3, if_true]
theorem run_exc {nn ar : Nat} {b : SF} {S' : Sto} (h1 : b (ws.map some ++ List.replicate (nn - ar) none) S = .exc x ρ1 S') : runDef nn ar b ws S = .exc x (S'.take S.length) := by
  unfold runDef; rw [h1]
theorem run_exc0 {nn ar : Nat} {b : SF} (h1 : b (ws.map some ++ List.replicate (nn - ar) none) S = .exc x ρ1 S) : runDef nn ar b ws S = .exc x S := by
  rw [run_exc h1, List.take_length]
theorem run_exc1 {nn ar : Nat} {b : SF} {T : Sto} (h1 : b (ws.map some ++ List.replicate (nn - ar) none) S = .exc x ρ1 (S ++ T)) : runDef nn ar b ws S = .exc x S := by
  rw [run_exc h1, List.take_left]
end
end DL

set_option Elab.async false
set_option linter.all false
set_option maxRecDepth 100000
set_option maxHeartbeats 4000000
namespace DL
/-! ### one product, plain: prices of 0, 1, 2 .. pieces, which come round -/
abbrev Pc := Nat × Int
def P1F (pc : List Pc) : Nat → Nat → Int
  | 0, _ => 0
  | k + 1, n => mn ((pc.filter fun c => decide (c.1 ≤ n)).map fun c => P1F pc k (n - c.1) + c.2)
def P1 (pc : List Pc) (n : Nat) : Int := P1F pc n n
structure Good1 (pc : List Pc) : Prop where
  le : ∀ c ∈ pc, 1 ≤ c.1 ∧ c.1 ≤ 12 ∧ 0 ≤ c.2
  one : ∃ x, (1, x) ∈ pc
section
variable {pc : List Pc} (g : Good1 pc)
include g
theorem p1_none : (pc.filter fun c => decide (c.1 ≤ 0)) = [] := by
  rw [List.filter_eq_nil_iff]
  intro c hc h
  have := (g.le c hc).1
  have := of_decide_eq_true h
  omega
theorem p1F_two : ∀ (m k n : Nat), n ≤ m → n ≤ k → P1F pc m n = P1F pc k n
  | 0, 0, _, _, _ => rfl
  | 0, k + 1, n, h, _ => by
    have : n = 0 := by omega
    subst this
    rw [P1F, P1F, p1_none g]
    rfl
  | m + 1, 0, n, _, h => by
    have : n = 0 := by omega
    subst this
    rw [P1F, P1F, p1_none g]
    rfl
  | m + 1, k + 1, n, h1, h2 => by
    rw [P1F, P1F]
    congr 1
    refine List.map_congr_left fun c hc => ?_
    obtain ⟨hc, hf⟩ := List.mem_filter.mp hc
    have := g.le c hc
    have := of_decide_eq_true hf
    rw [p1F_two m k (n - c.1) (by omega) (by omega)]
theorem p1_eq (n : Nat) : P1 pc n = mn ((pc.filter fun c => decide (c.1 ≤ n)).map fun c => P1 pc (n - c.1) + c.2) := by
  unfold P1
  rw [p1F_two g n (n + 1) n (Nat.le_refl _) (by omega), P1F]
  congr 1
  refine List.map_congr_left fun c hc => ?_
  obtain ⟨hc, hf⟩ := List.mem_filter.mp hc
  have := of_decide_eq_true hf
  rw [p1F_two g n (n - c.1) (n - c.1) (by omega) (Nat.le_refl _)]
theorem p1_zero : P1 pc 0 = 0 := by
  rw [p1_eq g, p1_none g]
  rfl
theorem p1_le {c : Pc} (hc : c ∈ pc) {n : Nat} (h : c.1 ≤ n) : P1 pc n ≤ P1 pc (n - c.1) + c.2 := by
  rw [p1_eq g]
  exact mn_le (List.mem_map.mpr ⟨c, List.mem_filter.mpr ⟨hc, decide_eq_true h⟩, rfl⟩)
theorem p1_some {n : Nat} (h : 1 ≤ n) : (pc.filter fun c => decide (c.1 ≤ n)) ≠ [] := by
  obtain ⟨x, hx⟩ := g.one
  intro e
  rw [List.filter_eq_nil_iff] at e
  exact e _ hx (decide_eq_true h)
theorem p1_at {n : Nat} (h : 1 ≤ n) : ∃ c ∈ pc, c.1 ≤ n ∧ P1 pc n = P1 pc (n - c.1) + c.2 := by
  have hm := mn_mem (l := (pc.filter fun c => decide (c.1 ≤ n)).map fun c => P1 pc (n - c.1) + c.2) (by simpa using p1_some g h)
  obtain ⟨c, hc, e⟩ := List.mem_map.mp hm
  obtain ⟨hc, hf⟩ := List.mem_filter.mp hc
  exact ⟨c, hc, of_decide_eq_true hf, by rw [p1_eq g, e]⟩
end
/-! ### ways, as lists of choices -/
def sz (l : List Pc) : Nat := (l.map (·.1)).sum
def ct (l : List Pc) : Int := (l.map (·.2)).sum
theorem sz_app (a b : List Pc) : sz (a ++ b) = sz a + sz b := by simp [sz]
theorem ct_app (a b : List Pc) : ct (a ++ b) = ct a + ct b := by simp [ct]
theorem sz_cons (c : Pc) (l : List Pc) : sz (c :: l) = c.1 + sz l := by simp [sz]
theorem ct_cons (c : Pc) (l : List Pc) : ct (c :: l) = c.2 + ct l := by simp [ct]
section
variable {pc : List Pc} (g : Good1 pc)
include g
theorem p1_seq : ∀ {l : List Pc}, (∀ c ∈ l, c ∈ pc) → P1 pc (sz l) ≤ ct l
  | [], _ => by
    show P1 pc 0 ≤ 0
    rw [p1_zero g]
    exact Int.le_refl _
  | c :: l, h => by
    have ih := p1_seq (l := l) fun x hx => h x (by simp [hx])
    have := p1_le g (h c (by simp)) (n := sz (c :: l)) (by rw [sz_cons]; omega)
    have e : sz (c :: l) - c.1 = sz l := by rw [sz_cons]; omega
    rw [e] at this
    rw [ct_cons]
    omega
theorem p1_way : ∀ (m n : Nat), n ≤ m → ∃ l : List Pc, (∀ c ∈ l, c ∈ pc) ∧ sz l = n ∧ ct l = P1 pc n
  | 0, n, h => by
    have : n = 0 := by omega
    subst this
    exact ⟨[], (fun c hc => by cases hc), rfl, by rw [p1_zero g]; rfl⟩
  | m + 1, n, h => by
    by_cases h0 : n = 0
    · subst h0
      exact p1_way m 0 (by omega)
    · obtain ⟨c, hc, hle, e⟩ := p1_at g (n := n) (by omega)
      have := (g.le c hc).1
      obtain ⟨l, h1, h2, h3⟩ := p1_way m (n - c.1) (by omega)
      refine ⟨c :: l, fun x hx => ?_, by rw [sz_cons, h2]; omega, by rw [ct_cons, h3, e]; omega⟩
      rcases List.mem_cons.mp hx with z | z
      · rw [z]; exact hc
      · exact h1 x z
end
/-- of m + 1 values below m two are the same -/
theorem holes : ∀ (m : Nat) (g : Nat → Nat), (∀ i, i ≤ m → g i < m) → ∃ i j, i < j ∧ j ≤ m ∧ g i = g j
  | 0, g, h => absurd (h 0 (Nat.le_refl _)) (by omega)
  | m + 1, g, h => by
    by_cases hx : ∃ i, i ≤ m ∧ g i = g (m + 1)
    · obtain ⟨i, h1, h2⟩ := hx
      exact ⟨i, m + 1, by omega, Nat.le_refl _, h2⟩
    · have hne : ∀ i, i ≤ m → g i ≠ g (m + 1) := fun i hi e => hx ⟨i, hi, e⟩
      have hg : ∀ i, i ≤ m → (if g i = m then g (m + 1) else g i) < m := fun i hi => by
        have h1 := h i (by omega)
        have h2 := h (m + 1) (Nat.le_refl _)
        have h3 := hne i hi
        split <;> omega
      obtain ⟨i, j, h1, h2, h3⟩ := holes m (fun i => if g i = m then g (m + 1) else g i) hg
      refine ⟨i, j, h1, by omega, ?_⟩
      have hi := hne i (by omega)
      have hj := hne j h2
      split at h3 <;> split at h3 <;> omega
theorem sz_le {pc l : List Pc} (g : Good1 pc) (h : ∀ c ∈ l, c ∈ pc) : sz l ≤ 12 * l.length ∧ l.length ≤ sz l := by
  induction l with
  | nil => exact ⟨Nat.zero_le _, Nat.zero_le _⟩
  | cons c l ih =>
    have h1 := ih fun x hx => h x (by simp [hx])
    have h2 := g.le c (h c (by simp))
    rw [sz_cons, List.length_cons]
    omega
/-- the choice that costs least for a piece -/
structure Best (pc : List Pc) (b : Pc) : Prop where
  mem : b ∈ pc
  rate : ∀ d ∈ pc, b.2 * (d.1 : Int) ≤ d.2 * (b.1 : Int)
section
variable {pc : List Pc} (g : Good1 pc) {b : Pc} (hb : Best pc b)
include g hb
theorem rate_seq : ∀ {l : List Pc}, (∀ c ∈ l, c ∈ pc) → b.2 * (sz l : Int) ≤ ct l * (b.1 : Int)
  | [], _ => by simp [sz, ct]
  | c :: l, h => by
    have ih := rate_seq (l := l) fun x hx => h x (by simp [hx])
    have h1 := hb.rate c (h c (by simp))
    rw [sz_cons, ct_cons, Int.natCast_add, Int.mul_add, Int.add_mul]
    omega
theorem rate_p1 (n : Nat) : b.2 * (n : Int) ≤ P1 pc n * (b.1 : Int) := by
  obtain ⟨l, h1, h2, h3⟩ := p1_way g n n (Nat.le_refl _)
  have := rate_seq g hb h1
  rw [h2, h3] at this
  exact this
theorem best_step (n : Nat) : P1 pc (n + b.1) ≤ P1 pc n + b.2 := by
  have := p1_le g hb.mem (n := n + b.1) (by omega)
  have e : n + b.1 - b.1 = n := by omega
  rw [e] at this
  exact this
theorem rep_sz (q : Nat) : sz (List.replicate q b) = q * b.1 ∧ ct (List.replicate q b) = (q : Int) * b.2 := by
  induction q with
  | zero => simp [sz, ct]
  | succ q ih =>
    rw [List.replicate_succ, sz_cons, ct_cons, ih.1, ih.2, Nat.succ_mul, Int.natCast_add, Int.add_mul]
    constructor
    · omega
    · simp; omega
/-- far behind, the best choice is taken once more -/
theorem p1_round {n : Nat} (h : 12 * b.1 ≤ n) : P1 pc n = P1 pc (n - b.1) + b.2 := by
  have hb1 := (g.le b hb.mem).1
  have e : n - b.1 + b.1 = n := by omega
  have hle := best_step g hb (n - b.1)
  rw [e] at hle
  refine Int.le_antisymm hle ?_
  obtain ⟨l, h1, h2, h3⟩ := p1_way g n n (Nat.le_refl _)
  by_cases hin : b ∈ l
  · obtain ⟨l1, l2, rfl⟩ := List.append_of_mem hin
    have h4 := p1_seq g (l := l1 ++ l2) fun x hx => h1 x (by
      rcases List.mem_append.mp hx with z | z
      · exact List.mem_append_left _ z
      · exact List.mem_append_right _ (List.mem_cons_of_mem _ z))
    rw [sz_app, sz_cons] at h2
    rw [ct_app, ct_cons] at h3
    rw [sz_app, ct_app] at h4
    have e2 : sz l1 + sz l2 = n - b.1 := by omega
    rw [e2] at h4
    omega
  · have hs := sz_le g h1
    have hlen : b.1 ≤ l.length := by
      rw [h2] at hs
      omega
    obtain ⟨i, j, hij, hj, hm⟩ := holes b.1 (fun i => sz (l.take i) % b.1) (fun i _ => Nat.mod_lt _ (by omega))
    have hsplit : l = l.take i ++ ((l.take j).drop i ++ l.drop j) := by
      have a1 : l.take i = (l.take j).take i := by rw [List.take_take, Nat.min_eq_left (by omega)]
      rw [← List.append_assoc, a1, List.take_append_drop, List.take_append_drop]
    have hmid : sz (l.take j) = sz (l.take i) + sz ((l.take j).drop i) := by
      have a1 : l.take i = (l.take j).take i := by rw [List.take_take, Nat.min_eq_left (by omega)]
      rw [a1, ← sz_app, List.take_append_drop]
    have hmem : ∀ c ∈ (l.take j).drop i, c ∈ pc := fun c hc => h1 c (List.mem_of_mem_take (List.mem_of_mem_drop hc))
    have hml := (sz_le g hmem).2
    have hmlen : ((l.take j).drop i).length = j - i := by rw [List.length_drop, List.length_take]; omega
    have hdvd : sz ((l.take j).drop i) % b.1 = 0 := by
      rw [hmid] at hm
      have := Nat.sub_mod_eq_zero_of_mod_eq hm.symm
      rwa [Nat.add_sub_cancel_left] at this
    obtain ⟨q, hq⟩ := Nat.dvd_of_mod_eq_zero hdvd
    have hq1 : 1 ≤ q := by
      rcases Nat.eq_zero_or_pos q with z | z
      · subst z
        rw [Nat.mul_zero] at hq
        omega
      · exact z
    have hr := rate_seq g hb hmem
    rw [hq] at hr
    have hcost : (q : Int) * b.2 ≤ ct ((l.take j).drop i) := by
      have hpos : (0 : Int) < (b.1 : Int) := by omega
      refine Int.le_of_mul_le_mul_right (a := (b.1 : Int)) ?_ hpos
      have e3 : (q : Int) * b.2 * (b.1 : Int) = b.2 * ((b.1 * q : Nat) : Int) := by
        rw [Int.natCast_mul, Int.mul_comm (q : Int), Int.mul_assoc, Int.mul_comm (q : Int)]
      rw [e3]
      exact hr
    have hrest : ∀ c ∈ l.take i ++ (l.drop j ++ List.replicate (q - 1) b), c ∈ pc := fun c hc => by
      rcases List.mem_append.mp hc with z | z
      · exact h1 c (List.mem_of_mem_take z)
      · rcases List.mem_append.mp z with z | z
        · exact h1 c (List.mem_of_mem_drop z)
        · rw [List.eq_of_mem_replicate z]; exact hb.mem
    have h4 := p1_seq g hrest
    obtain ⟨r1, r2⟩ := rep_sz g hb (q - 1)
    have hsz : sz l = sz (l.take i) + (sz ((l.take j).drop i) + sz (l.drop j)) := by
      conv => lhs; rw [hsplit]
      rw [sz_app, sz_app]
    have hct : ct l = ct (l.take i) + (ct ((l.take j).drop i) + ct (l.drop j)) := by
      conv => lhs; rw [hsplit]
      rw [ct_app, ct_app]
    rw [sz_app, sz_app, ct_app, ct_app, r1, r2] at h4
    have e5 : (q - 1) * b.1 + b.1 = b.1 * q := by
      have : q = (q - 1) + 1 := by omega
      conv => rhs; rw [this, Nat.mul_succ, Nat.mul_comm]
    have e4 : sz (l.take i) + (sz (l.drop j) + (q - 1) * b.1) = n - b.1 := by omega
    rw [e4] at h4
    have e6 : ((q - 1 : Nat) : Int) * b.2 + b.2 = (q : Int) * b.2 := by
      have : (q : Int) = ((q - 1 : Nat) : Int) + 1 := by omega
      rw [this, Int.add_mul]
      simp
    omega
theorem p1_turns {k : Nat} (h : 12 * b.1 ≤ k + b.1) : ∀ t : Nat, P1 pc (k + t * b.1) = P1 pc k + (t : Int) * b.2
  | 0 => by simp
  | t + 1 => by
    have ih := p1_turns h t
    have e : k + (t + 1) * b.1 - b.1 = k + t * b.1 := by rw [Nat.succ_mul]; omega
    have hg := p1_round g hb (n := k + (t + 1) * b.1) (by rw [Nat.succ_mul]; omega)
    rw [hg, e, ih, Int.natCast_add, Int.add_mul]
    simp
    omega
end
/-! ### the best choice, found one by one -/
def bestS (f d : Pc) : Pc := if d.2 * (f.1 : Int) < f.2 * (d.1 : Int) ∨ (d.2 * (f.1 : Int) = f.2 * (d.1 : Int) ∧ d.1 < f.1) then d else f
def bestF (f : Pc) (l : List Pc) : Pc := l.foldl bestS f
theorem bestS_or (f d : Pc) : bestS f d = f ∨ bestS f d = d := by
  unfold bestS
  split
  · exact .inr rfl
  · exact .inl rfl
theorem bestS_rate (f d : Pc) : (bestS f d).2 * (f.1 : Int) ≤ f.2 * ((bestS f d).1 : Int) ∧ (bestS f d).2 * (d.1 : Int) ≤ d.2 * ((bestS f d).1 : Int) := by
  unfold bestS
  split
  · rename_i h
    refine ⟨by omega, Int.le_refl _⟩
  · rename_i h
    exact ⟨Int.le_refl _, by omega⟩
theorem rate_trans {a b c : Pc} (hb : 1 ≤ b.1) (h1 : a.2 * (b.1 : Int) ≤ b.2 * (a.1 : Int)) (h2 : b.2 * (c.1 : Int) ≤ c.2 * (b.1 : Int)) : a.2 * (c.1 : Int) ≤ c.2 * (a.1 : Int) := by
  have hpos : (0 : Int) < (b.1 : Int) := by omega
  refine Int.le_of_mul_le_mul_right (a := (b.1 : Int)) ?_ hpos
  have g1 := Int.mul_le_mul_of_nonneg_right h1 (show (0 : Int) ≤ (c.1 : Int) by omega)
  have g2 := Int.mul_le_mul_of_nonneg_right h2 (show (0 : Int) ≤ (a.1 : Int) by omega)
  have e1 : a.2 * (c.1 : Int) * (b.1 : Int) = a.2 * (b.1 : Int) * (c.1 : Int) := Int.mul_right_comm _ _ _
  have e2 : b.2 * (a.1 : Int) * (c.1 : Int) = b.2 * (c.1 : Int) * (a.1 : Int) := Int.mul_right_comm _ _ _
  have e3 : c.2 * (a.1 : Int) * (b.1 : Int) = c.2 * (b.1 : Int) * (a.1 : Int) := Int.mul_right_comm _ _ _
  rw [e1, e3]
  exact Int.le_trans g1 (by rw [e2]; exact g2)
theorem bestF_best : ∀ (l : List Pc) (f : Pc), 1 ≤ f.1 → (∀ d ∈ l, 1 ≤ d.1) → bestF f l ∈ f :: l ∧ ∀ d ∈ f :: l, (bestF f l).2 * (d.1 : Int) ≤ d.2 * ((bestF f l).1 : Int)
  | [], f, _, _ => ⟨by simp [bestF], fun d hd => by
      have : d = f := by simpa using hd
      subst this
      exact Int.le_refl _⟩
  | d :: l, f, hf, hl => by
    have hd := hl d (by simp)
    have hs : 1 ≤ (bestS f d).1 := by rcases bestS_or f d with e | e <;> rw [e] <;> assumption
    obtain ⟨h1, h2⟩ := bestF_best l (bestS f d) hs fun x hx => hl x (by simp [hx])
    have e : bestF f (d :: l) = bestF (bestS f d) l := rfl
    rw [e]
    obtain ⟨r1, r2⟩ := bestS_rate f d
    have h0 := h2 (bestS f d) (by simp)
    refine ⟨?_, fun x hx => ?_⟩
    · rcases List.mem_cons.mp h1 with z | z
      · rw [z]
        rcases bestS_or f d with e | e <;> rw [e] <;> simp
      · simp [z]
    · rcases List.mem_cons.mp hx with z | z
      · subst z
        exact rate_trans hs h0 r1
      · rcases List.mem_cons.mp z with z | z
        · subst z
          exact rate_trans hs h0 r2
        · exact h2 x (by simp [z])
end DL

set_option Elab.async false
set_option linter.all false
set_option maxRecDepth 100000
set_option maxHeartbeats 4000000
namespace DL
open PySem PySem.Spec PyProof.Rows L2
/-! ### lists of one product -/
def up1 (d : Pc) : Ch := ([d.1], d.2)
def osh (p : Int) (l : List Pc) : Shop := ⟨[(PySem.Str.ofString "bun", p)], l.map up1⟩
def pcs (p : Int) (l : List Pc) : List Pc := (1, p) :: l
def pcD (d : Pc) : PyData := .tuple [nI d.1, .int d.2]
theorem osh_cs (p : Int) (l : List Pc) : (osh p l).cs = (pcs p l).map up1 := rfl
structure One1 (p : Int) (l : List Pc) : Prop where
  p0 : 1 ≤ p ∧ p ≤ 1000
  few : l.length ≤ 50
  le : ∀ d ∈ l, 2 ≤ d.1 ∧ d.1 ≤ 12 ∧ 0 ≤ d.2 ∧ d.2 ≤ 10 ^ 9
  nd : (l.map (·.1)).Nodup
def best1 (p : Int) (l : List Pc) : Pc := bestF (1, p) (pcs p l)
section
variable {p : Int} {l : List Pc} (o : One1 p l)
include o
theorem One1.good : Good1 (pcs p l) := ⟨fun c hc => by
  rcases List.mem_cons.mp hc with z | z
  · subst z
    have := o.p0
    exact ⟨Nat.le_refl 1, (show 1 ≤ 12 by decide), by show (0 : Int) ≤ p; omega⟩
  · have := o.le c z
    omega, ⟨p, by simp [pcs]⟩⟩
theorem One1.best : Best (pcs p l) (best1 p l) := by
  obtain ⟨h1, h2⟩ := bestF_best (pcs p l) (1, p) (Nat.le_refl _) fun d hd => (o.good.le d hd).1
  refine ⟨?_, fun d hd => h2 d (by simp [hd])⟩
  rcases List.mem_cons.mp h1 with z | z
  · show bestF (1, p) (pcs p l) ∈ _
    rw [z]; simp [pcs]
  · exact z
theorem One1.bd {d : Pc} (h : d ∈ pcs p l) : d.1 ≤ 12 ∧ 1 ≤ d.1 ∧ 0 ≤ d.2 ∧ d.2 ≤ 10 ^ 9 := by
  have h1 := o.good.le d h
  rcases List.mem_cons.mp h with z | z
  · subst z
    have := o.p0
    exact ⟨(show 1 ≤ 12 by decide), Nat.le_refl 1, by show (0 : Int) ≤ p; omega, by show p ≤ 10 ^ 9; omega⟩
  · have := o.le d z
    omega
theorem One1.ok : (osh p l).Ok where
  g1 := by show 1 ≤ 1; decide
  g2 := by show 1 ≤ 6; decide
  d1 := by show (l.map up1).length ≤ 60; rw [List.length_map]; have := o.few; omega
  d2 := fun d hd => by
    obtain ⟨c, hc, rfl⟩ := List.mem_map.mp hd
    have := o.le c hc
    refine ⟨rfl, by show 1 < [c.1].sum; simp; omega, fun m hm => ?_, by show (0 : Int) ≤ c.2; omega, by show c.2 ≤ 10 ^ 9; omega⟩
    have : m = c.1 := by simpa [up1] using hm
    omega
  p := fun g hg => by
    have : g = (PySem.Str.ofString "bun", p) := by simpa [osh] using hg
    subst this
    have := o.p0
    exact ⟨by show (0 : Int) ≤ p; omega, by show p ≤ 10 ^ 9; omega⟩
  nd := by
    show ((l.map up1).map (·.1)).Nodup
    have e : (l.map up1).map (·.1) = (l.map (·.1)).map fun k => [k] := by
      rw [List.map_map, List.map_map]
      rfl
    rw [e]
    have h := o.nd
    unfold List.Nodup at h ⊢
    rw [List.pairwise_map]
    exact h.imp fun {a b} h e => h (by simpa using e)
end
theorem run_nx {nn ar : Nat} {b : SF} {ws : List Wv} {S : Sto} {ρ1 : Rho} (h : b (ws.map some ++ List.replicate (nn - ar) none) S = .fl (.nx ρ1) S) : runDef nn ar b ws S = .ok (.d .none) S := by
  unfold runDef
  rw [h]
  simp only [exitW, List.take_length]
theorem ix_first (x : PyData) (m : List PyData) : ixD (.list (x :: m)) (.int 0) = some x := by
  show atI (x :: m) ((0 : Nat) : Int) = _
  rw [atI_nat (by simp)]
  rfl
theorem ltD_lt (a b : Int) : ltD (.int a) (.int b) = some (.bool (decide (a < b))) := by simp only [ltD]
theorem mul_bd {a b : Int} (ha : a.natAbs ≤ 10 ^ 90) (hb : b.natAbs ≤ 10 ^ 90) : mulD (.int a) (.int b) = some (.int (a * b)) := by
  have h : (10 : Nat) ^ 60 < 2 ^ 400 := Nat.lt_of_lt_of_le (show (10 : Nat) ^ 60 < 2 ^ 200 by decide) (Nat.pow_le_pow_right (by decide) (by decide))
  simp only [mulD, mulOk_small (i := a) (j := b) (by omega) (by omega), if_true]
section
variable {S : Sto} {p : Int} {l : List Pc} (o : One1 p l)
include o
theorem plain_sem : f_plain_choices [.d (osh p l).d] S = .ok (.d (.list ((pcs p l).map pcD))) S := by
  refine run_ret0 (ws := [.d (osh p l).d]) (nn := 3) (ar := 1) ?_
  show b_plain_choices [some (.d (osh p l).d), none, none] S = _
  have h6 := o.ok.g2
  have h60 := o.ok.d1
  have e := choices_sem (S := S) (s := osh p l) (by omega) (by omega)
  rw [osh_cs, List.map_map] at e
  exact ev_ret (ev_fz (ev_lc (ev_val (ev_call1 (ev_var rfl) e) rfl) (lc_all (enc := chD ∘ up1) (g := pcD) (pcs p l) fun d _ => ⟨_, rfl, ev_tup (ev_lc1 (ev_bin (ev_var rfl) ev_c rfl rfl rfl) (ev_lc1 (ev_var rfl) ev_ln)) rfl (lo2 _ _)⟩)))
theorem need_sem : f_need_one [.d (osh p l).d] S = .ok (.d .none) S := by
  refine run_nx (ws := [.d (osh p l).d]) (nn := 1) (ar := 1) (ρ1 := [some (.d (osh p l).d)]) ?_
  show b_need_one [some (.d (osh p l).d)] S = _
  exact Eq.trans (ev_if2 (S1 := S) (ev_cmp (ev_b1 (ev_bin (ev_var rfl) ev_c rfl rfl rfl) rfl rfl) ev_c rfl rfl rfl)) ev_nil
/-! ### the best choice -/
noncomputable def brB : SF := (sSeq (sPar 4 5 (eBin mulD (eVar 3) (eBin ixD (eVar 1) (eC (.int 0)))) (eBin mulD (eBin ixD (eVar 1) (eC (.int 1))) (eVar 2))) (sIf (tOrB (tCmpB ltD (eVar 4) (eVar 5)) (tAndB (tCmpB eqD (eVar 4) (eVar 5)) (tCmpB ltD (eVar 2) (eBin ixD (eVar 1) (eC (.int 0)))))) (sSet 1 (eTup (lCons (eVar 2) (lCons (eVar 3) lNil)))) sNil))
theorem best_run {w0 : Option Wv} : ∀ (ds : List Pc) (f : Pc) (w2 w3 w4 w5 : Option Wv), f ∈ pcs p l → (∀ d ∈ ds, d ∈ pcs p l) → ∃ u2 u3 u4 u5 : Option Wv, forRun (gTp 2 (gsCons (gNm 2) (gsCons (gNm 3) gsNil))) brB (ds.map pcD) [w0, some (.d (pcD f)), w2, w3, w4, w5] S = .fl (.nx [w0, some (.d (pcD (bestF f ds))), u2, u3, u4, u5]) S
  | [], f, w2, w3, w4, w5, _, _ => ⟨w2, w3, w4, w5, rfl⟩
  | d :: ds, f, w2, w3, w4, w5, hf, h => by
    have hd := h d (by simp)
    have b1 := o.bd hf
    have b2 := o.bd hd
    have hs : bestS f d ∈ pcs p l := by rcases bestS_or f d with e | e <;> rw [e] <;> assumption
    obtain ⟨u2, u3, u4, u5, ih⟩ := best_run (w0 := w0) ds (bestS f d) (some (.d (nI d.1))) (some (.d (.int d.2))) (some (.d (.int (d.2 * (f.1 : Int))))) (some (.d (.int (f.2 * (d.1 : Int))))) hs fun x hx => h x (by simp [hx])
    refine ⟨u2, u3, u4, u5, ?_⟩
    have e : bestF f (d :: ds) = bestF (bestS f d) ds := rfl
    rw [e, ← ih]
    have m1 : mulD (.int d.2) (nI f.1) = some (.int (d.2 * (f.1 : Int))) := mul_bd (by omega) (by omega)
    have m2 : mulD (.int f.2) (nI d.1) = some (.int (f.2 * (d.1 : Int))) := mul_bd (by omega) (by omega)
    refine for_step rfl (ev_seq (ev_par (ev_bin (ev_var rfl) (ev_bin (ev_var rfl) ev_c rfl rfl rfl) rfl rfl m1) (ev_bin (ev_bin (ev_var rfl) ev_c rfl rfl rfl) (ev_var rfl) rfl rfl m2)) ?_)
    have c1 : tCmpB ltD (eVar 4) (eVar 5) [w0, some (.d (pcD f)), some (.d (nI d.1)), some (.d (.int d.2)), some (.d (.int (d.2 * (f.1 : Int)))), some (.d (.int (f.2 * (d.1 : Int))))] S = .ok (decide (d.2 * (f.1 : Int) < f.2 * (d.1 : Int))) S := ev_cmp (ev_var rfl) (ev_var rfl) rfl rfl (ltD_lt _ _)
    have c2 : tCmpB eqD (eVar 4) (eVar 5) [w0, some (.d (pcD f)), some (.d (nI d.1)), some (.d (.int d.2)), some (.d (.int (d.2 * (f.1 : Int)))), some (.d (.int (f.2 * (d.1 : Int))))] S = .ok (decide (d.2 * (f.1 : Int) = f.2 * (d.1 : Int))) S := ev_cmp (ev_var rfl) (ev_var rfl) rfl rfl (eqD_ii _ _)
    have c3 : tCmpB ltD (eVar 2) (eBin ixD (eVar 1) (eC (.int 0))) [w0, some (.d (pcD f)), some (.d (nI d.1)), some (.d (.int d.2)), some (.d (.int (d.2 * (f.1 : Int)))), some (.d (.int (f.2 * (d.1 : Int))))] S = .ok (decide ((d.1 : Int) < (f.1 : Int))) S := ev_cmp (ev_var rfl) (ev_bin (ev_var rfl) ev_c rfl rfl rfl) rfl rfl (ltD_lt _ _)
    unfold bestS
    by_cases k1 : d.2 * (f.1 : Int) < f.2 * (d.1 : Int)
    · rw [decide_eq_true k1] at c1
      rw [if_pos (.inl k1)]
      exact Eq.trans (ev_if1 (ev_or1 c1)) (ev_set (ev_tup (ev_lc1 (ev_var rfl) (ev_lc1 (ev_var rfl) ev_ln)) rfl (lo2 _ _)))
    · rw [decide_eq_false k1] at c1
      by_cases k2 : d.2 * (f.1 : Int) = f.2 * (d.1 : Int)
      · rw [decide_eq_true k2] at c2
        by_cases k3 : d.1 < f.1
        · rw [decide_eq_true (by omega)] at c3
          rw [if_pos (.inr ⟨k2, k3⟩)]
          exact Eq.trans (ev_if1 (Eq.trans (ev_or2 c1) (Eq.trans (ev_and2 c2) c3))) (ev_set (ev_tup (ev_lc1 (ev_var rfl) (ev_lc1 (ev_var rfl) ev_ln)) rfl (lo2 _ _)))
        · rw [decide_eq_false (by omega)] at c3
          rw [if_neg (by omega)]
          exact Eq.trans (ev_if2 (Eq.trans (ev_or2 c1) (Eq.trans (ev_and2 c2) c3))) ev_nil
      · rw [decide_eq_false k2] at c2
        rw [if_neg (by omega)]
        exact Eq.trans (ev_if2 (Eq.trans (ev_or2 c1) (ev_and1 c2))) ev_nil
theorem best_sem : f_best_rate [.d (osh p l).d] S = .ok (.d (pcD (best1 p l))) S := by
  refine run_ret0 (ws := [.d (osh p l).d]) (nn := 6) (ar := 1) ?_
  show b_best_rate [some (.d (osh p l).d), none, none, none, none, none] S = _
  obtain ⟨u2, u3, u4, u5, e⟩ := best_run (S := S) o (w0 := some (.d (osh p l).d)) (pcs p l) (1, p) none none none none (by simp [pcs]) fun d hd => hd
  exact ev_seq (ev_expr (ev_call1 (ev_var rfl) (need_sem o))) (ev_seq (ev_set (ev_bin (ev_call1 (ev_var rfl) (plain_sem o)) ev_c rfl rfl (ix_first _ _))) (ev_seq (ev_for (ev_val (ev_call1 (ev_var rfl) (plain_sem o)) rfl) e) (ev_ret (ev_var rfl))))
noncomputable def lbrB : SF := (sIf (tOrB (tCmpB ltD (eBin mulD (eVar 3) (eBin ixD (eVar 1) (eC (.int 0)))) (eBin mulD (eBin ixD (eVar 1) (eC (.int 1))) (eVar 2))) (tAndB (tCmpB eqD (eBin mulD (eVar 3) (eBin ixD (eVar 1) (eC (.int 0)))) (eBin mulD (eBin ixD (eVar 1) (eC (.int 1))) (eVar 2))) (tCmpB ltD (eVar 2) (eBin ixD (eVar 1) (eC (.int 0)))))) (sSet 1 (eTup (lCons (eVar 2) (lCons (eVar 3) lNil)))) sNil)
theorem lbest_run {w0 : Option Wv} : ∀ (ds : List Pc) (f : Pc) (w2 w3 : Option Wv), f ∈ pcs p l → (∀ d ∈ ds, d ∈ pcs p l) → ∃ u2 u3 : Option Wv, forRun (gTp 2 (gsCons (gTp 1 (gsCons (gNm 2) gsNil)) (gsCons (gNm 3) gsNil))) lbrB (ds.map (chD ∘ up1)) [w0, some (.d (pcD f)), w2, w3] S = .fl (.nx [w0, some (.d (pcD (bestF f ds))), u2, u3]) S
  | [], f, w2, w3, _, _ => ⟨w2, w3, rfl⟩
  | d :: ds, f, w2, w3, hf, h => by
    have hd := h d (by simp)
    have b1 := o.bd hf
    have b2 := o.bd hd
    have hs : bestS f d ∈ pcs p l := by rcases bestS_or f d with e | e <;> rw [e] <;> assumption
    obtain ⟨u2, u3, ih⟩ := lbest_run (w0 := w0) ds (bestS f d) (some (.d (nI d.1))) (some (.d (.int d.2))) hs fun x hx => h x (by simp [hx])
    refine ⟨u2, u3, ?_⟩
    have e : bestF f (d :: ds) = bestF (bestS f d) ds := rfl
    rw [e, ← ih]
    have m1 : mulD (.int d.2) (nI f.1) = some (.int (d.2 * (f.1 : Int))) := mul_bd (by omega) (by omega)
    have m2 : mulD (.int f.2) (nI d.1) = some (.int (f.2 * (d.1 : Int))) := mul_bd (by omega) (by omega)
    refine for_step (ρ1 := [w0, some (.d (pcD f)), some (.d (nI d.1)), some (.d (.int d.2))]) rfl ?_
    have c1 : tCmpB ltD (eBin mulD (eVar 3) (eBin ixD (eVar 1) (eC (.int 0)))) (eBin mulD (eBin ixD (eVar 1) (eC (.int 1))) (eVar 2)) [w0, some (.d (pcD f)), some (.d (nI d.1)), some (.d (.int d.2))] S = .ok (decide (d.2 * (f.1 : Int) < f.2 * (d.1 : Int))) S := ev_cmp (ev_bin (ev_var rfl) (ev_bin (ev_var rfl) ev_c rfl rfl rfl) rfl rfl m1) (ev_bin (ev_bin (ev_var rfl) ev_c rfl rfl rfl) (ev_var rfl) rfl rfl m2) rfl rfl (ltD_lt _ _)
    have c2 : tCmpB eqD (eBin mulD (eVar 3) (eBin ixD (eVar 1) (eC (.int 0)))) (eBin mulD (eBin ixD (eVar 1) (eC (.int 1))) (eVar 2)) [w0, some (.d (pcD f)), some (.d (nI d.1)), some (.d (.int d.2))] S = .ok (decide (d.2 * (f.1 : Int) = f.2 * (d.1 : Int))) S := ev_cmp (ev_bin (ev_var rfl) (ev_bin (ev_var rfl) ev_c rfl rfl rfl) rfl rfl m1) (ev_bin (ev_bin (ev_var rfl) ev_c rfl rfl rfl) (ev_var rfl) rfl rfl m2) rfl rfl (eqD_ii _ _)
    have c3 : tCmpB ltD (eVar 2) (eBin ixD (eVar 1) (eC (.int 0))) [w0, some (.d (pcD f)), some (.d (nI d.1)), some (.d (.int d.2))] S = .ok (decide ((d.1 : Int) < (f.1 : Int))) S := ev_cmp (ev_var rfl) (ev_bin (ev_var rfl) ev_c rfl rfl rfl) rfl rfl (ltD_lt _ _)
    unfold bestS
    by_cases k1 : d.2 * (f.1 : Int) < f.2 * (d.1 : Int)
    · rw [decide_eq_true k1] at c1
      rw [if_pos (.inl k1)]
      exact Eq.trans (ev_if1 (ev_or1 c1)) (ev_set (ev_tup (ev_lc1 (ev_var rfl) (ev_lc1 (ev_var rfl) ev_ln)) rfl (lo2 _ _)))
    · rw [decide_eq_false k1] at c1
      by_cases k2 : d.2 * (f.1 : Int) = f.2 * (d.1 : Int)
      · rw [decide_eq_true k2] at c2
        by_cases k3 : d.1 < f.1
        · rw [decide_eq_true (by omega)] at c3
          rw [if_pos (.inr ⟨k2, k3⟩)]
          exact Eq.trans (ev_if1 (Eq.trans (ev_or2 c1) (Eq.trans (ev_and2 c2) c3))) (ev_set (ev_tup (ev_lc1 (ev_var rfl) (ev_lc1 (ev_var rfl) ev_ln)) rfl (lo2 _ _)))
        · rw [decide_eq_false (by omega)] at c3
          rw [if_neg (by omega)]
          exact Eq.trans (ev_if2 (Eq.trans (ev_or2 c1) (Eq.trans (ev_and2 c2) c3))) ev_nil
      · rw [decide_eq_false k2] at c2
        rw [if_neg (by omega)]
        exact Eq.trans (ev_if2 (Eq.trans (ev_or2 c1) (ev_and1 c2))) ev_nil
theorem lch1 : f__law_choices [.d (osh p l).d] S = .ok (.d (.list ((pcs p l).map (chD ∘ up1)))) S := by
  have h6 := o.ok.g2
  have h60 := o.ok.d1
  have e := lchoices_sem (S := S) (s := osh p l) (by omega) (by omega)
  rw [osh_cs, List.map_map] at e
  exact e
theorem lbest_sem : f__law_best [.d (osh p l).d] S = .ok (.d (pcD (best1 p l))) S := by
  refine run_ret0 (ws := [.d (osh p l).d]) (nn := 4) (ar := 1) ?_
  show b__law_best [some (.d (osh p l).d), none, none, none] S = _
  obtain ⟨u2, u3, e⟩ := lbest_run (S := S) o (w0 := some (.d (osh p l).d)) (pcs p l) (1, p) none none (by simp [pcs]) fun d hd => hd
  exact ev_seq (ev_set (ev_tup (ev_lc1 ev_c (ev_lc1 (ev_bin (ev_bin (ev_bin (ev_var rfl) ev_c rfl rfl rfl) ev_c rfl rfl rfl) ev_c rfl rfl rfl) ev_ln)) rfl (lo2 _ _))) (ev_seq (ev_for (ev_val (ev_call1 (ev_var rfl) (lch1 o)) rfl) e) (ev_ret (ev_var rfl)))
/-! ### tables -/
def tabD (pc : List Pc) (n : Nat) : List PyData := (List.range n).map fun i => .int (P1 pc i)
omit o in
theorem tab_succ (pc : List Pc) (n : Nat) : tabD pc (n + 1) = tabD pc n ++ [.int (P1 pc n)] := by
  unfold tabD
  rw [List.range_succ, List.map_append]
  rfl
omit o in
theorem tab_len (pc : List Pc) (n : Nat) : (tabD pc n).length = n := by simp [tabD]
omit o in
theorem tab_at {pc : List Pc} {n k : Nat} (h : k < n) : ixD (.list (tabD pc n)) (.int (k : Int)) = some (.int (P1 pc k)) := by
  show atI (tabD pc n) (k : Int) = _
  rw [atI_nat (by rw [tab_len]; exact h)]
  unfold tabD
  rw [List.getElem_map, List.getElem_range]
omit o in
theorem min_list {is : List Int} (h : is ≠ []) : minLG [.list (is.map PyData.int)] = some (.int (mn is)) := by
  cases is with
  | nil => exact absurd rfl h
  | cons i r =>
    show (match intsD ((i :: r).map PyData.int) with | some (i :: b) => some (PyData.int (lmin i b)) | _ => none) = _
    rw [intsD_map]
    rfl
omit o in
theorem leD_nat (a b : Nat) : leD (nI a) (nI b) = some (.bool (decide (a ≤ b))) := by
  simp only [nI, leD]
  congr 2
  rw [Bool.eq_iff_iff]
  simp
omit o in
theorem sub_nat {a b : Nat} (h : b ≤ a) : subD (nI a) (nI b) = some (nI (a - b)) := by
  show some (PyData.int _) = some (PyData.int _)
  congr 2
  omega
omit o in
theorem rng2_c {i j : Int} (h0 : 0 ≤ i) (h1 : i ≤ 100000) (h2 : 0 ≤ j) (h3 : j ≤ 200000) : (rngOk i && rngOk j && decide ((j - i).toNat ≤ sizeLine)) = true := by
  have z1 : rngOk i = true := decide_eq_true (by omega)
  have z2 : rngOk j = true := decide_eq_true (by omega)
  have z4 : (j - i).toNat ≤ 200000 := by omega
  have z3 : decide ((j - i).toNat ≤ sizeLine) = true := decide_eq_true (Nat.le_trans z4 (by decide))
  rw [z1, z2, z3]
  rfl
omit o in
theorem rng2_g {ρ : Rho} {S S1 : Sto} {f : LF} {i j : Int} (h : f ρ S = .ok [.d (.int i), .d (.int j)] S1) (hc : (rngOk i && rngOk j && decide ((j - i).toNat ≤ sizeLine)) = true) : iRange2 f ρ S = .ok (rangeD i (j - i).toNat) S1 := by
  unfold iRange2
  rw [h]
  simp only [Rs.bind]
  rw [if_pos hc]
omit o in
theorem rng2_l {i : Int} {n : Nat} (h : i = 1) {m : Nat} (hm : m = n) : rangeD i m = (List.range n).map fun k => nI (k + 1) := by
  subst h
  subst hm
  unfold rangeD
  refine List.map_congr_left fun k _ => ?_
  unfold nI
  have : (1 : Int) + (k : Int) = ((k + 1 : Nat) : Int) := by omega
  rw [this]
omit o in
theorem range2_ok {ρ : Rho} {S S1 : Sto} {f : LF} {n : Nat} (h : f ρ S = .ok [.d (.int 1), .d (.int ((n : Int) + 1))] S1) (hn : n ≤ 100000) : iRange2 f ρ S = .ok ((List.range n).map fun k => nI (k + 1)) S1 :=
  (rng2_g h (rng2_c (by decide) (by decide) (by omega) (by omega))).trans (congrArg (fun l => Rs.ok l S1) (rng2_l rfl (by omega)))
noncomputable def tbB : SF := (sExpr (eApp (eVar 2) (eFrz (eB minLG (lCons (eFz (mLc (iVal (eCall 1 f_plain_choices (lCons (eVar 0) lNil))) (gTp 2 (gsCons (gNm 4) (gsCons (gNm 5) gsNil))) (tCmpB leD (eVar 4) (eVar 3)) (eBin addD (eBin ixD (eVar 2) (eBin subD (eVar 3) (eVar 4))) (eVar 5)) [4, 5])) lNil)))))
theorem table_run {A : Sto} {w1 : Option Wv} : ∀ (m k : Nat) (w3 : Option Wv), k + m ≤ 100000 → ∃ u3 : Option Wv, forRun (gNm 3) tbB ((List.range m).map fun i => nI (k + i + 1)) [some (.d (osh p l).d), w1, some (.own A.length), w3, none, none] (A ++ [.lst (tabD (pcs p l) (k + 1))]) = .fl (.nx [some (.d (osh p l).d), w1, some (.own A.length), u3, none, none]) (A ++ [.lst (tabD (pcs p l) (k + m + 1))])
  | 0, k, w3, _ => ⟨w3, rfl⟩
  | m + 1, k, w3, hz => by
    obtain ⟨u3, ih⟩ := table_run (A := A) (w1 := w1) m (k + 1) (some (.d (nI (k + 1)))) (by omega)
    refine ⟨u3, ?_⟩
    have e1 : ((List.range (m + 1)).map fun i => nI (k + i + 1)) = nI (k + 1) :: (List.range m).map fun i => nI (k + 1 + i + 1) := by
      rw [List.range_succ_eq_map, List.map_cons, List.map_map]
      congr 1
      refine List.map_congr_left fun i _ => ?_
      show nI (k + (i + 1) + 1) = _
      congr 1
      omega
    have e2 : k + (m + 1) + 1 = k + 1 + m + 1 := by omega
    rw [e1, e2, ← ih]
    have hlast : (A ++ [MO.lst (tabD (pcs p l) (k + 1))])[A.length]? = some (.lst (tabD (pcs p l) (k + 1))) := last_get
    have hnt : noTab (A ++ [MO.lst (tabD (pcs p l) (k + 1))]) A.length = true := last_noTab
    have hset : ∀ m, (A ++ [MO.lst (tabD (pcs p l) (k + 1))]).set A.length m = A ++ [m] := fun m => last_set
    generalize A ++ [MO.lst (tabD (pcs p l) (k + 1))] = T at *
    have hlist : eFz (mLc (iVal (eCall 1 f_plain_choices (lCons (eVar 0) lNil))) (gTp 2 (gsCons (gNm 4) (gsCons (gNm 5) gsNil))) (tCmpB leD (eVar 4) (eVar 3)) (eBin addD (eBin ixD (eVar 2) (eBin subD (eVar 3) (eVar 4))) (eVar 5)) [4, 5]) [some (.d (osh p l).d), w1, some (.own A.length), some (.d (nI (k + 1))), none, none] T
        = .ok (.d (.list ((((pcs p l).filter fun c => decide (c.1 ≤ k + 1)).map fun c => P1 (pcs p l) (k + 1 - c.1) + c.2).map PyData.int))) T := by
      rw [List.map_map]
      refine ev_fz (ev_lc (ev_val (ev_call1 (ev_var rfl) (plain_sem o)) rfl) (lc_some _ _ fun c hc => ⟨_, rfl, ev_cmp (ev_var rfl) (ev_var rfl) rfl rfl (leD_nat _ _), fun hf => ?_⟩))
      have h1 := (o.good.le c hc).1
      have hf' := of_decide_eq_true hf
      exact ev_bin (ev_bin (ev_var rfl) (ev_bin (ev_var rfl) (ev_var rfl) rfl rfl (sub_nat hf')) (view_l hlast) rfl (tab_at (by omega))) (ev_var rfl) rfl rfl rfl
    have hmin := min_list (is := (((pcs p l).filter fun c => decide (c.1 ≤ k + 1)).map fun c => P1 (pcs p l) (k + 1 - c.1) + c.2)) (by simpa using p1_some o.good (by omega))
    rw [← p1_eq o.good] at hmin
    have hsz : (tabD (pcs p l) (k + 1)).length < sizeLine := by
      have : (1000000 : Nat) < sizeLine := by decide
      rw [tab_len]
      omega
    have key := ev_expr (ev_app (f := eVar 2) (k := A.length) (l := tabD (pcs p l) (k + 1)) (ρ := [some (.d (osh p l).d), w1, some (.own A.length), some (.d (nI (k + 1))), none, none]) (ev_var rfl) hnt (ev_frzd (ev_b1 hlist rfl hmin)) hlast hsz)
    rw [hset, ← tab_succ] at key
    exact for_step rfl key
theorem table_sem {n : Nat} (hn : n ≤ 100000) : f_table_of [.d (osh p l).d, .d (nI n)] S = .ok (.d (.list (tabD (pcs p l) (n + 1)))) S := by
  obtain ⟨u3, hr⟩ := table_run o (A := S) (w1 := some (.d (nI n))) n 0 none (by omega)
  have e0 : ((List.range n).map fun i => nI (0 + i + 1)) = (List.range n).map fun i => nI (i + 1) := List.map_congr_left fun i _ => by rw [Nat.zero_add]
  have e1 : tabD (pcs p l) (0 + 1) = [.int 0] := by
    rw [tab_succ, p1_zero o.good]
    rfl
  rw [e0, e1, Nat.zero_add] at hr
  have key : b_table_of [some (.d (osh p l).d), some (.d (nI n)), none, none, none, none] S = .fl (.rt (.d (.list (tabD (pcs p l) (n + 1))))) ((S ++ [MO.lst (tabD (pcs p l) (n + 1))]).set S.length (.frz (tabD (pcs p l) (n + 1)))) :=
    ev_seq (ev_set (ev_own (ev_lst (ev_lc1 ev_c ev_ln) rfl (lo1 _)))) (ev_seq (ev_for (range2_ok (n := n) (ev_lc1 ev_c (ev_lc1 (ev_bin (ev_var rfl) ev_c rfl rfl rfl) ev_ln)) hn) hr) (ev_ret (ev_frzo (ev_var rfl) last_get)))
  have := run_ret (nn := 6) (ar := 2) (ws := [.d (osh p l).d, .d (nI n)]) key
  rw [last_set, List.take_left] at this
  exact this
noncomputable def ltbB : SF := (sExpr (eApp (eVar 3) (eFrz (eB minLG (lCons (eFz (mLc (iVal (eVar 2)) (gTp 2 (gsCons (gNm 7) (gsCons (gNm 6) gsNil))) (tCmpB leD (eVar 7) (eVar 4)) (eBin addD (eBin ixD (eVar 3) (eBin subD (eVar 4) (eVar 7))) (eVar 6)) [7, 6])) lNil)))))
theorem ltable_run {A : Sto} {w0 w1 : Option Wv} : ∀ (m k : Nat) (w4 : Option Wv), k + m ≤ 100000 → ∃ u4 : Option Wv, forRun (gNm 4) ltbB ((List.range m).map fun i => nI (k + i + 1)) [w0, w1, some (.d (.list ((pcs p l).map pcD))), some (.own A.length), w4, none, none, none] (A ++ [.lst (tabD (pcs p l) (k + 1))]) = .fl (.nx [w0, w1, some (.d (.list ((pcs p l).map pcD))), some (.own A.length), u4, none, none, none]) (A ++ [.lst (tabD (pcs p l) (k + m + 1))])
  | 0, k, w4, _ => ⟨w4, rfl⟩
  | m + 1, k, w4, hz => by
    obtain ⟨u4, ih⟩ := ltable_run (A := A) (w0 := w0) (w1 := w1) m (k + 1) (some (.d (nI (k + 1)))) (by omega)
    refine ⟨u4, ?_⟩
    have e1 : ((List.range (m + 1)).map fun i => nI (k + i + 1)) = nI (k + 1) :: (List.range m).map fun i => nI (k + 1 + i + 1) := by
      rw [List.range_succ_eq_map, List.map_cons, List.map_map]
      congr 1
      refine List.map_congr_left fun i _ => ?_
      show nI (k + (i + 1) + 1) = _
      congr 1
      omega
    have e2 : k + (m + 1) + 1 = k + 1 + m + 1 := by omega
    rw [e1, e2, ← ih]
    have hlast : (A ++ [MO.lst (tabD (pcs p l) (k + 1))])[A.length]? = some (.lst (tabD (pcs p l) (k + 1))) := last_get
    have hnt : noTab (A ++ [MO.lst (tabD (pcs p l) (k + 1))]) A.length = true := last_noTab
    have hset : ∀ m, (A ++ [MO.lst (tabD (pcs p l) (k + 1))]).set A.length m = A ++ [m] := fun m => last_set
    generalize A ++ [MO.lst (tabD (pcs p l) (k + 1))] = T at *
    have hlist : eFz (mLc (iVal (eVar 2)) (gTp 2 (gsCons (gNm 7) (gsCons (gNm 6) gsNil))) (tCmpB leD (eVar 7) (eVar 4)) (eBin addD (eBin ixD (eVar 3) (eBin subD (eVar 4) (eVar 7))) (eVar 6)) [7, 6]) [w0, w1, some (.d (.list ((pcs p l).map pcD))), some (.own A.length), some (.d (nI (k + 1))), none, none, none] T
        = .ok (.d (.list ((((pcs p l).filter fun c => decide (c.1 ≤ k + 1)).map fun c => P1 (pcs p l) (k + 1 - c.1) + c.2).map PyData.int))) T := by
      rw [List.map_map]
      refine ev_fz (ev_lc (ev_val (ev_var rfl) rfl) (lc_some _ _ fun c hc => ⟨_, rfl, ev_cmp (ev_var rfl) (ev_var rfl) rfl rfl (leD_nat _ _), fun hf => ?_⟩))
      have h1 := (o.good.le c hc).1
      have hf' := of_decide_eq_true hf
      exact ev_bin (ev_bin (ev_var rfl) (ev_bin (ev_var rfl) (ev_var rfl) rfl rfl (sub_nat hf')) (view_l hlast) rfl (tab_at (by omega))) (ev_var rfl) rfl rfl rfl
    have hmin := min_list (is := (((pcs p l).filter fun c => decide (c.1 ≤ k + 1)).map fun c => P1 (pcs p l) (k + 1 - c.1) + c.2)) (by simpa using p1_some o.good (by omega))
    rw [← p1_eq o.good] at hmin
    have hsz : (tabD (pcs p l) (k + 1)).length < sizeLine := by
      have : (1000000 : Nat) < sizeLine := by decide
      rw [tab_len]
      omega
    have key := ev_expr (ev_app (f := eVar 3) (k := A.length) (l := tabD (pcs p l) (k + 1)) (ρ := [w0, w1, some (.d (.list ((pcs p l).map pcD))), some (.own A.length), some (.d (nI (k + 1))), none, none, none]) (ev_var rfl) hnt (ev_frzd (ev_b1 hlist rfl hmin)) hlast hsz)
    rw [hset, ← tab_succ] at key
    exact for_step rfl key
theorem ltable_sem {n : Nat} (hn : n ≤ 100000) : f__law_table [.d (osh p l).d, .d (nI n)] S = .ok (.d (.list (tabD (pcs p l) (n + 1)))) S := by
  obtain ⟨u4, hr⟩ := ltable_run o (A := S) (w0 := some (.d (osh p l).d)) (w1 := some (.d (nI n))) n 0 none (by omega)
  have e0 : ((List.range n).map fun i => nI (0 + i + 1)) = (List.range n).map fun i => nI (i + 1) := List.map_congr_left fun i _ => by rw [Nat.zero_add]
  have e1 : tabD (pcs p l) (0 + 1) = [.int 0] := by
    rw [tab_succ, p1_zero o.good]
    rfl
  rw [e0, e1, Nat.zero_add] at hr
  have hch : eFz (mLc (iVal (eCall 1 f__law_choices (lCons (eVar 0) lNil))) (gTp 2 (gsCons (gNm 5) (gsCons (gNm 6) gsNil))) bYes (eTup (lCons (eBin ixD (eVar 5) (eC (.int 0))) (lCons (eVar 6) lNil))) [5, 6]) [some (.d (osh p l).d), some (.d (nI n)), none, none, none, none, none, none] S = .ok (.d (.list ((pcs p l).map pcD))) S :=
    ev_fz (ev_lc (ev_val (ev_call1 (ev_var rfl) (lch1 o)) rfl) (lc_all (enc := chD ∘ up1) (g := pcD) (pcs p l) fun d _ => ⟨_, rfl, ev_tup (ev_lc1 (ev_bin (ev_var rfl) ev_c rfl rfl rfl) (ev_lc1 (ev_var rfl) ev_ln)) rfl (lo2 _ _)⟩))
  have key : b__law_table [some (.d (osh p l).d), some (.d (nI n)), none, none, none, none, none, none] S = .fl (.rt (.d (.list (tabD (pcs p l) (n + 1))))) ((S ++ [MO.lst (tabD (pcs p l) (n + 1))]).set S.length (.frz (tabD (pcs p l) (n + 1)))) :=
    ev_seq (ev_par hch (ev_own (ev_lst (ev_lc1 ev_c ev_ln) rfl (lo1 _)))) (ev_seq (ev_for (range2_ok (n := n) (ev_lc1 ev_c (ev_lc1 (ev_bin (ev_var rfl) ev_c rfl rfl rfl) ev_ln)) hn) hr) (ev_ret (ev_frzo (ev_var rfl) last_get)))
  have := run_ret (nn := 8) (ar := 2) (ws := [.d (osh p l).d, .d (nI n)]) key
  rw [last_set, List.take_left] at this
  exact this
end
end DL

set_option Elab.async false
set_option linter.all false
set_option maxRecDepth 100000
set_option maxHeartbeats 4000000
namespace DL
open PySem PySem.Spec PyProof.Rows L2
/-! ### however many pieces, plain -/
theorem turns_eq {pc : List Pc} (g : Good1 pc) {b : Pc} (hb : Best pc b) {n q : Nat} (hq : q * b.1 ≤ n) (h : q = 0 ∨ 12 * b.1 ≤ n - q * b.1 + b.1) : P1 pc (n - q * b.1) + (q : Int) * b.2 = P1 pc n := by
  rcases h with h | h
  · subst h
    simp
  · have := p1_turns g hb h q
    have e : n - q * b.1 + q * b.1 = n := by omega
    rw [e] at this
    rw [this]
def turnP (n m : Nat) : Nat := (n - 12 * m) / m
theorem turnP_ok {n m : Nat} (hm : 1 ≤ m) : turnP n m * m ≤ n ∧ (turnP n m = 0 ∨ 12 * m ≤ n - turnP n m * m + m) ∧ n - turnP n m * m < 13 * m := by
  unfold turnP
  have h1 := Nat.div_add_mod (n - 12 * m) m
  have h2 := Nat.mod_lt (n - 12 * m) (show 0 < m by omega)
  rw [Nat.mul_comm] at h1
  generalize (n - 12 * m) / m * m = t at *
  refine ⟨by omega, ?_, by omega⟩
  by_cases h : n < 12 * m
  · left
    have : n - 12 * m = 0 := by omega
    rw [this, Nat.zero_div]
  · right
    omega
theorem turnP_int {n m : Nat} (hm : 1 ≤ m) : max (0 : Int) (((n : Int) - 12 * (m : Int)).fdiv (m : Int)) = ((turnP n m : Nat) : Int) := by
  rw [Int.fdiv_eq_ediv_of_nonneg _ (by omega)]
  unfold turnP
  by_cases h : 12 * m ≤ n
  · have e : (n : Int) - 12 * (m : Int) = ((n - 12 * m : Nat) : Int) := by omega
    rw [e, ← Int.natCast_ediv]
    generalize (n - 12 * m) / m = t
    omega
  · have h1 : ((n : Int) - 12 * (m : Int)) / (m : Int) < 0 := Int.ediv_neg_of_neg_of_pos (by omega) (by omega)
    have h2 : n - 12 * m = 0 := by omega
    rw [h2, Nat.zero_div]
    omega
def turnL (n m : Nat) : Nat := if 300 < n then (n - 300) / m + 1 else 0
theorem turnL_ok {n m : Nat} (hm : 1 ≤ m) (h12 : m ≤ 12) : turnL n m * m ≤ n ∧ (turnL n m = 0 ∨ 12 * m ≤ n - turnL n m * m + m) ∧ n - turnL n m * m ≤ 300 := by
  unfold turnL
  split
  · have h1 := Nat.div_add_mod (n - 300) m
    have h2 := Nat.mod_lt (n - 300) (show 0 < m by omega)
    rw [Nat.mul_comm] at h1
    have h3 : ((n - 300) / m + 1) * m = (n - 300) / m * m + m := Nat.succ_mul _ _
    rw [h3]
    generalize (n - 300) / m * m = t at *
    exact ⟨by omega, .inr (by omega), by omega⟩
  · exact ⟨by omega, .inl rfl, by omega⟩
theorem turnL_int {n m : Nat} (h : 300 < n) : ((n : Int) - 300).fdiv (m : Int) + 1 = ((turnL n m : Nat) : Int) := by
  rw [Int.fdiv_eq_ediv_of_nonneg _ (by omega)]
  unfold turnL
  rw [if_pos h]
  have e : (n : Int) - 300 = ((n - 300 : Nat) : Int) := by omega
  rw [e, ← Int.natCast_ediv]
  generalize (n - 300) / m = t
  omega
theorem up_len (pc : List Pc) : ∀ c ∈ pc.map up1, c.1.length = 1 := fun c hc => by
  obtain ⟨d, _, rfl⟩ := List.mem_map.mp hc
  rfl
theorem zero_way (b : Pc) (q : Nat) : ∀ pc : List Pc, b ∉ pc → wayR 1 (pc.map up1) (pc.map fun d => if d = b then q else 0) = [0] ∧ waySum (pc.map up1) (pc.map fun d => if d = b then q else 0) = 0
  | [], _ => ⟨rfl, rfl⟩
  | d :: pc, h => by
    rw [List.mem_cons, not_or] at h
    obtain ⟨h1, h2⟩ := zero_way b q pc h.2
    have hd : ¬ d = b := fun e => h.1 e.symm
    simp only [List.map_cons, wayR, waySum, List.zip_cons_cons, List.sum_cons, hd, if_false] at h1 h2 ⊢
    rw [h1, h2]
    simp [mulL, addL, up1]
theorem one_way1 (b : Pc) (q : Nat) : ∀ pc : List Pc, (pc.map (·.1)).Nodup → b ∈ pc → wayR 1 (pc.map up1) (pc.map fun d => if d = b then q else 0) = [q * b.1] ∧ waySum (pc.map up1) (pc.map fun d => if d = b then q else 0) = (q : Int) * b.2
  | [], _, h => by cases h
  | d :: pc, hn, h => by
    rw [List.map_cons, List.nodup_cons] at hn
    by_cases hd : d = b
    · subst hd
      have hnot : d ∉ pc := fun z => hn.1 (List.mem_map.mpr ⟨d, z, rfl⟩)
      obtain ⟨h1, h2⟩ := zero_way d q pc hnot
      simp only [List.map_cons, wayR, waySum, List.zip_cons_cons, List.sum_cons, if_true] at h1 h2 ⊢
      rw [h1, h2]
      simp [mulL, addL, up1]
    · have hb : b ∈ pc := by
        rcases List.mem_cons.mp h with z | z
        · exact absurd z.symm hd
        · exact z
      obtain ⟨h1, h2⟩ := one_way1 b q pc hn.2 hb
      simp only [List.map_cons, wayR, waySum, List.zip_cons_cons, List.sum_cons, hd, if_false] at h1 h2 ⊢
      rw [h1, h2]
      simp [mulL, addL, up1]
theorem way_small : ∀ (pc : List Pc) (w : List Nat) (m : Nat), (∀ d ∈ pc, 1 ≤ d.1) → w.length = pc.length → wayR 1 (pc.map up1) w = [m] → ∀ k ∈ w, k ≤ m
  | [], w, m, _, hl, _ => by
    have : w = [] := List.length_eq_zero_iff.mp hl
    subst this
    intro k hk
    cases hk
  | d :: pc, [], m, _, hl, _ => by simp at hl
  | d :: pc, k :: w, m, h, hl, e => by
    have hlen := wayR_len (n := 1) (cs := pc.map up1) (w := w) (up_len pc)
    obtain ⟨r, hr⟩ : ∃ r, wayR 1 (pc.map up1) w = [r] := by
      match hx : wayR 1 (pc.map up1) w with
      | [r] => exact ⟨r, rfl⟩
      | [] => rw [hx] at hlen; simp at hlen
      | _ :: _ :: _ => rw [hx] at hlen; simp at hlen
    have ih := way_small pc w r (fun x hx => h x (by simp [hx])) (by simpa using hl) hr
    simp only [List.map_cons, wayR, hr, up1, mulL, addL, List.map_cons, List.map_nil, List.zip_cons_cons, List.zip_nil_left, List.cons.injEq, and_true] at e
    have h1 := h d (by simp)
    have hk : k ≤ k * d.1 := Nat.le_mul_of_pos_right _ (by omega)
    intro x hx
    rcases List.mem_cons.mp hx with z | z
    · omega
    · have := ih x z
      omega
theorem pcs_nodup {p : Int} {l : List Pc} (o : One1 p l) : ((pcs p l).map (·.1)).Nodup := by
  show (1 :: l.map (·.1)).Nodup
  rw [List.nodup_cons]
  refine ⟨fun h => ?_, o.nd⟩
  obtain ⟨d, hd, e⟩ := List.mem_map.mp h
  have := (o.le d hd).1
  omega
section
variable {S : Sto} {p : Int} {l : List Pc} (o : One1 p l)
include o
theorem p1_bd {n : Nat} : 0 ≤ P1 (pcs p l) n ∧ P1 (pcs p l) n ≤ 1000 * (n : Int) := by
  obtain ⟨w, h1, h2, h3⟩ := p1_way o.good n n (Nat.le_refl _)
  have hp := o.p0
  refine ⟨?_, ?_⟩
  · rw [← h3]
    clear h2 h3
    induction w with
    | nil => exact Int.le_refl _
    | cons c w ih =>
      have a1 := (o.good.le c (h1 c (by simp))).2.2
      have a2 := ih fun x hx => h1 x (by simp [hx])
      rw [ct_cons]
      omega
  · have hone : (1, p) ∈ pcs p l := by simp [pcs]
    have h4 := p1_seq o.good (l := List.replicate n (1, p)) fun c hc => by rw [List.eq_of_mem_replicate hc]; exact hone
    have e : ∀ n : Nat, sz (List.replicate n ((1, p) : Pc)) = n ∧ ct (List.replicate n ((1, p) : Pc)) = (n : Int) * p := fun n => by
      induction n with
      | zero => simp [sz, ct]
      | succ n ih =>
        rw [List.replicate_succ, sz_cons, ct_cons, ih.1, ih.2, Int.natCast_add, Int.add_mul]
        exact ⟨by show 1 + n = n + 1; omega, by simp; omega⟩
    rw [(e n).1, (e n).2] at h4
    have : (n : Int) * p ≤ (n : Int) * 1000 := Int.mul_le_mul_of_nonneg_left (by omega) (by omega)
    omega
omit o in
theorem maxi1 (i j : Int) : maxLG [.int i, .int j] = some (.int (max i j)) := by
  show some (PyData.int (if j > i then j else i)) = _
  congr 2
  omega
omit o in
theorem last_l (l : List PyData) (x : PyData) : ixD (.list (l ++ [x])) (.int (-1)) = some x := by
  show atI (l ++ [x]) (-1) = some x
  unfold atI ixN
  rw [if_neg (by decide), if_pos (by rw [List.length_append, List.length_singleton]; omega)]
  have h2 : ((-1 : Int) + ((l ++ [x]).length : Nat)).toNat = l.length := by rw [List.length_append, List.length_singleton]; omega
  rw [h2]
  simp
theorem calm_sem : f_calm_from [.d (osh p l).d] S = .ok (.d (.int (12 * ((best1 p l).1 : Int)))) S := by
  refine run_ret0 (ws := [.d (osh p l).d]) (nn := 1) (ar := 1) ?_
  show b_calm_from [some (.d (osh p l).d)] S = _
  have hb := o.bd o.best.mem
  exact ev_ret (ev_bin ev_c (ev_bin (ev_call1 (ev_var rfl) (best_sem o)) ev_c rfl rfl rfl) rfl rfl (mul_bd (a := 12) (by decide) (by omega)))
theorem mprice_sem {n : Nat} (hn : n ≤ 10 ^ 40) : f_many_price [.d (osh p l).d, .d (nI n)] S = .ok (.d (.int (P1 (pcs p l) n))) S := by
  refine run_ret0 (ws := [.d (osh p l).d, .d (nI n)]) (nn := 6) (ar := 2) ?_
  show b_many_price [some (.d (osh p l).d), some (.d (nI n)), none, none, none, none] S = _
  have hb := o.bd o.best.mem
  have hB := o.best
  generalize hbb : best1 p l = b at *
  obtain ⟨t1, t2, t3⟩ := turnP_ok (n := n) hb.2.1
  have ti := turnP_int (n := n) hb.2.1
  have heq := turns_eq o.good hB t1 t2
  have bs := best_sem (S := S) o
  have cm := calm_sem (S := S) o
  rw [hbb] at bs cm
  generalize turnP n b.1 = q at *
  have hqn : q ≤ n := Nat.le_trans (Nat.le_mul_of_pos_right _ (by omega)) t1
  have m1 : mulD (nI q) (nI b.1) = some (nI (q * b.1)) := by
    have := mul_bd (a := (q : Int)) (b := (b.1 : Int)) (by omega) (by omega)
    rw [← Int.natCast_mul] at this
    exact this
  have m2 : mulD (nI q) (.int b.2) = some (.int ((q : Int) * b.2)) := mul_bd (by omega) (by omega)
  have hl : n - q * b.1 ≤ 100000 := by omega
  have htab := tab_succ (pcs p l) (n - q * b.1)
  have hlast : ixD (.list (tabD (pcs p l) (n - q * b.1 + 1))) (.int (-1)) = some (.int (P1 (pcs p l) (n - q * b.1))) := by
    rw [htab]
    exact last_l _ _
  have hmx : maxLG [.int 0, .int (((n : Int) - 12 * (b.1 : Int)).fdiv (b.1 : Int))] = some (nI q) := by rw [maxi1, ti]; rfl
  have hadd : addD (.int (P1 (pcs p l) (n - q * b.1))) (.int ((q : Int) * b.2)) = some (.int (P1 (pcs p l) n)) := by
    show some (PyData.int _) = _
    rw [heq]
  exact ev_seq (ev_asg (ev_call1 (ev_var rfl) bs) rfl) (ev_seq (ev_set (ev_call1 (ev_var rfl) cm)) (ev_seq (ev_set (ev_b2 ev_c (ev_bin (ev_bin (ev_var rfl) (ev_var rfl) rfl rfl rfl) (ev_var rfl) rfl rfl (fdiv_ok (by omega) (by omega))) rfl rfl hmx)) (ev_ret (ev_bin (ev_bin (ev_call2 (ev_var rfl) (ev_bin (ev_var rfl) (ev_bin (ev_var rfl) (ev_var rfl) rfl rfl m1) rfl rfl (sub_nat t1)) (table_sem o hl)) (ev_b1 ev_c rfl rfl) rfl rfl hlast) (ev_bin (ev_var rfl) (ev_var rfl) rfl rfl m2) rfl rfl hadd))))
theorem excess_sem {n : Nat} (hn : n ≤ 10 ^ 40) : f_excess [.d (osh p l).d, .d (nI n)] S = .ok (.d (.int (P1 (pcs p l) n * ((best1 p l).1 : Int) - (best1 p l).2 * (n : Int)))) S := by
  refine run_ret0 (ws := [.d (osh p l).d, .d (nI n)]) (nn := 4) (ar := 2) ?_
  show b_excess [some (.d (osh p l).d), some (.d (nI n)), none, none] S = _
  have hb := o.bd o.best.mem
  have hP := p1_bd o (n := n)
  exact ev_seq (ev_asg (ev_call1 (ev_var rfl) (best_sem o)) rfl) (ev_ret (ev_bin (ev_bin (ev_call2 (ev_var rfl) (ev_var rfl) (mprice_sem o hn)) (ev_var rfl) rfl rfl (mul_bd (by omega) (by omega))) (ev_bin (ev_var rfl) (ev_var rfl) rfl rfl (mul_bd (by omega) (by omega))) rfl rfl rfl))
end
end DL

set_option Elab.async false
set_option linter.all false
set_option maxRecDepth 100000
set_option maxHeartbeats 4000000
namespace DL
open PySem PySem.Spec PyProof.Rows L2
theorem while_step {c : BF} {b : SF} {n : Nat} {ρ ρ1 : Rho} {S S1 : Sto} {R : RF} (h1 : c ρ S = .ok true S) (h2 : b ρ S = .fl (.nx ρ1) S1) (h3 : whileN c b n ρ1 S1 = R) : whileN c b (n + 1) ρ S = R := by
  unfold whileN
  rw [h1]
  simp only [bindS, if_true]
  rw [h2]
  exact h3
theorem while_end {c : BF} {b : SF} {ρ : Rho} {S : Sto} (h1 : c ρ S = .ok false S) : whileN c b 1 ρ S = .fl (.nx ρ) S := by
  unfold whileN
  rw [h1]
  simp only [bindS, Bool.false_eq_true, if_false]
theorem ev_aug {g : PyData → PyData → Option PyData} {i : Nat} {f : EF} {ρ : Rho} {S : Sto} {x y z : PyData} (h1 : ρ[i]? = some (some (.d x))) (h2 : f ρ S = .ok (.d y) S) (h3 : g x y = some z) : sAug i g f ρ S = .fl (.nx (ρ.set i (some (.d z)))) S := by
  unfold sAug
  rw [h1]
  dsimp only
  rw [h2]
  simp only [Rs.bind, op2, view, h3, bindS]
theorem eqD_pc (c d : Pc) : eqD (pcD c) (pcD d) = some (.bool (decide (c = d))) := by
  have h : ∀ d : Pc, Cm 1 (pcD d) := fun d => Cm.tup fun x hx => by
    simp only [List.mem_cons, List.not_mem_nil, or_false] at hx
    rcases hx with rfl | rfl
    · exact Cm.nI
    · exact Cm.int
  unfold eqD
  rw [(h c).ok (by decide), (h d).ok (by decide)]
  show some (PyData.bool (((c.1 : Int) == (d.1 : Int)) && ((c.2 == d.2) && true))) = _
  congr 2
  rw [Bool.eq_iff_iff]
  simp only [Bool.and_true, Bool.and_eq_true, beq_iff_eq, decide_eq_true_eq]
  constructor
  · rintro ⟨h1, h2⟩
    exact Prod.ext (by omega) h2
  · rintro rfl
    exact ⟨rfl, rfl⟩
section
variable {S : Sto} {p : Int} {l : List Pc} (o : One1 p l)
include o
end
end DL

set_option Elab.async false
set_option linter.all false
set_option maxRecDepth 100000
set_option maxHeartbeats 4000000
namespace DL
open PySem PySem.Spec PyProof.Rows L2
section
variable {pre rest S : Sto} {n : Nat}
noncomputable def olV : EF := (eB maxLG (lCons (eC (.int 0)) (lCons (eBin subD (eBin mulD (eVar 4) (eVar 1)) (eCall 2 f__law_some (lCons (eVar 0) (lCons (eFz (mLst (lCons (eC (.int 0)) (lCons (eC (.int 1)) (lCons (eC (.int 2)) (lCons (eVar 1) (lCons (eVar 4) (lCons (eBin mulD (eVar 4) (eVar 1)) (lCons (eB negG (lCons (eC (.int 1)) lNil)) (lCons (eBin mulD (eVar 1) (eC (.int 2))) lNil)))))))))) lNil)))) lNil)))
noncomputable def olM : EF := (eBin addD (eC (.int 2)) (eCall 2 f__law_take (lCons (eVar 0) (lCons (eCall 2 f__law_some (lCons (eVar 0) (lCons (eFz (mLst (lCons (eC (.int 4)) (lCons (eC (.int 11)) (lCons (eC (.int 11)) lNil))))) lNil))) lNil))))
noncomputable def olB : SF := (sSeq (sSet 4 olM) (sDput (eVar 2) (eTup (lCons (eVar 4) lNil)) olV))
theorem ol_step {k : Nat} {p : Int} {w3 w4 : Option Wv} {prs : List Ch} (hp : 1 ≤ p ∧ p ≤ 1000) (hgood : GoodP 1 12 prs) (hl : prs.length ≤ 1000) (hk : S.length = k) (hB : Bag pre (n + 3) rest S) :
    ∃ (w4' : Option Wv) (prs' : List Ch) (S' : Sto), olB [some (.own pre.length), some (.d (.int p)), some (.own k), w3, w4, none] (S ++ [.dct (prsD prs)]) = .fl (.nx [some (.own pre.length), some (.d (.int p)), some (.own k), w3, w4', none]) (S' ++ [.dct (prsD prs')]) ∧ S'.length = k ∧ GoodP 1 12 prs' ∧ prs'.length ≤ prs.length + 1 ∧ Bag pre n rest S' := by
  subst hk
  obtain ⟨x, S1, e1, hx, hB1⟩ := some_sem (n := n + 2) (things := [.int 4, .int 11, .int 11]) (hB.push [.dct (prsD prs)]) (by simp) (by simp)
  have hx' : ∃ m : Int, x = .int m ∧ 0 < m ∧ m ≤ 11 := by
    simp only [List.mem_cons, List.not_mem_nil, or_false] at hx
    rcases hx with h | h | h <;> exact ⟨_, h, by decide, by decide⟩
  obtain ⟨m, rfl, m0, m1⟩ := hx'
  obtain ⟨r, S2, e2, r0, r1, hB2⟩ := take_sem (n := n + 1) (many := m) hB1 m0 (small9000 (by omega))
  obtain ⟨a, ha, ha2, ha12⟩ : ∃ a : Nat, 2 + r = (a : Int) ∧ 2 ≤ a ∧ a ≤ 12 := ⟨(2 + r).toNat, by omega, by omega, by omega⟩
  have haI : PyData.int (2 + r) = nI a := by rw [ha]; rfl
  have hap : (a : Int) * p ≤ 12 * 1000 := by
    have h1 : (a : Int) * p ≤ (a : Int) * 1000 := Int.mul_le_mul_of_nonneg_left (by omega) (by omega)
    omega
  have hap0 : 0 ≤ (a : Int) * p := Int.mul_nonneg (by omega) (by omega)
  obtain ⟨y, S3, e3, hy, hB3⟩ := some_sem (n := n) (things := [.int 0, .int 1, .int 2, .int p, nI a, .int ((a : Int) * p), .int (-1), .int (p * 2)]) hB2 (by simp) (by simp)
  obtain ⟨S4, rfl, hB4⟩ := hB3.pop
  have hlen4 : S4.length = S.length := by rw [hB4.len, hB.len]
  have hy' : ∃ v : Int, y = .int v ∧ -1 ≤ v := by
    simp only [List.mem_cons, List.not_mem_nil, or_false] at hy
    rcases hy with h | h | h | h | h | h | h | h
    · exact ⟨_, h, by omega⟩
    · exact ⟨_, h, by omega⟩
    · exact ⟨_, h, by omega⟩
    · exact ⟨_, h, by omega⟩
    · exact ⟨(a : Int), h, by omega⟩
    · exact ⟨_, h, by omega⟩
    · exact ⟨_, h, by omega⟩
    · exact ⟨_, h, by omega⟩
  obtain ⟨v, rfl, hv⟩ := hy'
  have mm : mulD (nI a) (.int p) = some (.int ((a : Int) * p)) := mul_bd (by omega) (by omega)
  have m2 : mulD (.int p) (.int 2) = some (.int (p * 2)) := mul_bd (by omega) (by decide)
  have hM : olM [some (.own pre.length), some (.d (.int p)), some (.own S.length), w3, w4, none] (S ++ [.dct (prsD prs)]) = .ok (.d (nI a)) S2 := by
    have := ev_bin (op := addD) (ρ := [some (.own pre.length), some (.d (.int p)), some (.own S.length), w3, w4, none]) (S := S ++ [.dct (prsD prs)]) (S1 := S ++ [.dct (prsD prs)]) (S2 := S2) (f := eC (.int 2)) (w := .d (.int 2)) (x := .int 2) (y := .int r) (z := .int (2 + r)) ev_c (ev_call2 (f := eVar 0) (ev_var rfl) (ev_call2 (f := eVar 0) (ev_var rfl) (ev_fz (ev_lst (ev_lc1 ev_c (ev_lc1 ev_c (ev_lc1 ev_c ev_ln))) rfl (lo3 _ _ _))) e1) e2) rfl rfl rfl
    rw [haI] at this
    exact this
  have hV : olV [some (.own pre.length), some (.d (.int p)), some (.own S.length), w3, some (.d (nI a)), none] S2 = .ok (.d (.int (max 0 ((a : Int) * p - v)))) (S4 ++ [.dct (prsD prs)]) :=
    ev_b2 ev_c (ev_bin (ev_bin (ev_var rfl) (ev_var rfl) rfl rfl mm) (ev_call2 (ev_var rfl) (ev_fz (ev_lst (ev_lc1 ev_c (ev_lc1 ev_c (ev_lc1 ev_c (ev_lc1 (ev_var rfl) (ev_lc1 (ev_var rfl) (ev_lc1 (ev_bin (ev_var rfl) (ev_var rfl) rfl rfl mm) (ev_lc1 (ev_b1 ev_c rfl rfl) (ev_lc1 (ev_bin (ev_var rfl) ev_c rfl rfl m2) ev_ln)))))))) rfl rfl)) e3) rfl rfl rfl) rfl rfl (maxi1 _ _)
  have hput := ev_dput (f := eVar 2) (g := eTup (lCons (eVar 4) lNil)) (j := tb [a]) hV (ev_var rfl) (ev_tup (ev_lc1 (ev_var rfl) ev_ln) rfl (lo1 _)) (by rw [← hlen4]; exact last_get) (dput_prs (q := [a]) (prs := prs) (by omega))
  rw [put_prs] at hput
  have hset : (S4 ++ [MO.dct (prsD prs)]).set S.length (.dct (prsD (putP prs [a] (max 0 ((a : Int) * p - v))))) = S4 ++ [.dct (prsD (putP prs [a] (max 0 ((a : Int) * p - v))))] := by rw [← hlen4]; exact last_set
  rw [hset] at hput
  obtain ⟨g1, g2⟩ := hgood.put (q := [a]) (x := max 0 ((a : Int) * p - v)) ⟨rfl, by simp; omega, fun m hm => by have : m = a := by simpa using hm
                                                                                                                omega, by omega, by omega⟩
  exact ⟨some (.d (nI a)), putP prs [a] (max 0 ((a : Int) * p - v)), S4, ev_seq (ev_set hM) hput, hlen4, g1, g2, hB4⟩
theorem ol_run {k : Nat} {p : Int} (hp : 1 ≤ p ∧ p ≤ 1000) : ∀ (l : List PyData) (S : Sto) (n : Nat) (prs : List Ch) (w3 w4 : Option Wv), GoodP 1 12 prs → prs.length + l.length ≤ 1000 → S.length = k → Bag pre (n + 3 * l.length) rest S →
    ∃ (u3 u4 : Option Wv) (prs' : List Ch) (S' : Sto), forRun (gNm 3) olB l [some (.own pre.length), some (.d (.int p)), some (.own k), w3, w4, none] (S ++ [.dct (prsD prs)]) = .fl (.nx [some (.own pre.length), some (.d (.int p)), some (.own k), u3, u4, none]) (S' ++ [.dct (prsD prs')]) ∧ S'.length = k ∧ GoodP 1 12 prs' ∧ prs'.length ≤ prs.length + l.length ∧ Bag pre n rest S'
  | [], S, n, prs, w3, w4, hg, hz, hk, hB => ⟨w3, w4, prs, S, rfl, hk, hg, by simp, by simpa using hB⟩
  | d :: l, S, n, prs, w3, w4, hg, hz, hk, hB => by
    rw [List.length_cons] at hz
    have e : n + 3 * (d :: l).length = n + 3 * l.length + 3 := by rw [List.length_cons, Nat.mul_succ]; omega
    rw [e] at hB
    obtain ⟨w4', prs', S1, h1, h2, h3, h4, h5⟩ := ol_step (w3 := some (.d d)) (w4 := w4) hp hg (by omega) hk hB
    obtain ⟨u3, u4, prs2, S2, g1, g2, g3, g4, g5⟩ := ol_run hp l S1 n prs' (some (.d d)) w4' h3 (by omega) h2 h5
    refine ⟨u3, u4, prs2, S2, ?_, g2, g3, by rw [List.length_cons]; omega, g5⟩
    rw [← g1]
    exact for_step rfl h1
theorem len1 {b : List Nat} (h : b.length = 1) : b = [b.headD 0] := by
  match b, h with
  | [x], _ => rfl
theorem onelist_sem (hB : Bag pre (n + 20) rest S) : ∃ (p : Int) (l : List Pc) (S' : Sto), f__law_one_list [.own pre.length] S = .ok (.d (osh p l).d) S' ∧ One1 p l ∧ Bag pre n rest S' := by
  obtain ⟨x, S1, e1, hx, hB1⟩ := some_sem (n := n + 19) (things := [.int 10, .int 7, .int 100, .int 3]) hB (by simp) (by simp)
  have hx' : ∃ p : Int, x = .int p ∧ 1 ≤ p ∧ p ≤ 1000 := by
    simp only [List.mem_cons, List.not_mem_nil, or_false] at hx
    rcases hx with h | h | h | h <;> exact ⟨_, h, by decide, by decide⟩
  obtain ⟨p, rfl, hp⟩ := hx'
  have hk1 : S1.length = S.length := by rw [hB1.len, hB.len]
  obtain ⟨r, S2, e2, r0, r1, hB2⟩ := take_sem (n := n + 18) (many := 6) (hB1.push [.dct (prsD [])]) (by decide) (small9000 (by decide))
  obtain ⟨S3, rfl, hB3⟩ := hB2.pop
  have hk3 : S3.length = S.length := by rw [hB3.len, hB.len]
  obtain ⟨a, rfl, ha⟩ := num_lt6 r0 r1
  obtain ⟨u3, u4, prs, S4, e4, hk4, hgood, hpl, hB4⟩ := ol_run (k := S.length) hp ((List.range a).map fun i => PyData.int ((i : Nat) : Int)) S3 n [] none none ⟨List.nodup_nil, fun _ h => by cases h⟩ (by rw [List.length_map, List.length_range, List.length_nil]; omega) hk3 (hB3.mono (by rw [List.length_map, List.length_range]; omega))
  rw [List.length_map, List.length_range, List.length_nil, Nat.zero_add] at hpl
  obtain ⟨bs, hsrt, hperm⟩ := sort_prs (P := 1) (by decide) (fun d hd => (hgood.2 d hd).1) (by omega)
  have hbs : ∀ b ∈ bs, b ∈ prs.map (·.1) := fun b hb => hperm.mem_iff.mp hb
  have hin : ∀ b ∈ bs, (b, lookP prs b) ∈ prs := fun b hb => (find_prs (hbs b hb)).2
  have hb1 : ∀ b ∈ bs, b = [b.headD 0] := fun b hb => len1 (hgood.2 _ (hin b hb)).1
  have hup : (bs.map fun b => ((b.headD 0, lookP prs b) : Pc)).map up1 = bs.map fun b => (b, lookP prs b) := by
    rw [List.map_map]
    refine List.map_congr_left fun b hb => ?_
    show ([b.headD 0], lookP prs b) = _
    rw [← hb1 b hb]
  refine ⟨p, bs.map fun b => (b.headD 0, lookP prs b), S4, ?_, ⟨hp, ?_, fun d hd => ?_, ?_⟩, hB4⟩
  · have key : b__law_one_list [some (.own pre.length), none, none, none, none, none] S = .fl (.rt (.d (osh p (bs.map fun b => (b.headD 0, lookP prs b))).d)) (S4 ++ [.dct (prsD prs)]) := by
      refine ev_seq (ev_par (ev_call2 (ev_var rfl) (ev_fz (ev_lst rfl rfl rfl)) e1) rfl) ?_
      refine ev_seq (ev_for (ev_range (n := a) (ev_call2 (ev_var rfl) ev_c e2) rfl (by omega)) (by rw [hk1]; exact e4)) ?_
      refine ev_ret (ev_tup (ev_lc1 (ev_tup (ev_lc1 (ev_tup (ev_lc1 ev_c (ev_lc1 (ev_var rfl) ev_ln)) rfl (lo2 _ _)) ev_ln) rfl (lo1 _)) (ev_lc1 (ev_b1 (ev_fz (ev_lc (ev_val (ev_b1 (ev_var rfl) (view_dct (by rw [← hk4]; exact last_get)) hsrt) rfl) (m := bs.map fun b => chD (b, lookP prs b)) (S2 := S4 ++ [.dct (prsD prs)]) ?_)) rfl rfl) ev_ln)) (ds := [.tuple [gdD (PySem.Str.ofString "bun", p)], .tuple (((bs.map fun b => ((b.headD 0, lookP prs b) : Pc)).map up1).map chD)]) ?_ (lo2 _ _))
      · exact lc_all _ fun b hb => ⟨_, rfl, ev_tup (ev_lc1 (ev_var rfl) (ev_lc1 (ev_bin (ev_var rfl) (ev_var rfl) (view_dct (by rw [← hk4]; exact last_get)) rfl (ix_prs (hbs b hb))) ev_ln)) rfl (lo2 _ _)⟩
      · rw [hup, List.map_map]
        rfl
    have := run_ret (nn := 6) (ar := 1) (ws := [.own pre.length]) key
    rw [← hk4, List.take_left] at this
    exact this
  · rw [List.length_map]
    have := hperm.length_eq
    rw [List.length_map] at this
    omega
  · obtain ⟨b, hb, rfl⟩ := List.mem_map.mp hd
    have h := hgood.2 _ (hin b hb)
    have e := hb1 b hb
    have h2 := h.2.1
    have h3 := h.2.2.1 (b.headD 0) (by show b.headD 0 ∈ b; rw [e]; simp)
    have h4 := h.2.2.2
    dsimp only at h2 h4 ⊢
    have h5 : b.sum = b.headD 0 := by
      conv => lhs; rw [e]
      simp
    omega
  · have e : (bs.map fun b => ((b.headD 0, lookP prs b) : Pc)).map (·.1) = bs.map fun b => b.headD 0 := by rw [List.map_map]; rfl
    rw [e]
    have hnd : bs.Nodup := hperm.nodup_iff.mpr hgood.1
    unfold List.Nodup at hnd ⊢
    rw [List.pairwise_map]
    refine hnd.imp_of_mem fun {x y} hx hy h e => h ?_
    rw [hb1 x hx, hb1 y hy, e]
where
  num_lt6 {r : Int} (h0 : 0 ≤ r) (h1 : r < 6) : ∃ a : Nat, r = (a : Int) ∧ a < 6 := ⟨r.toNat, by omega, by omega⟩
end
end DL

set_option Elab.async false
set_option linter.all false
set_option maxRecDepth 100000
set_option maxHeartbeats 4000000
namespace DL
open PySem PySem.Spec PyProof.Rows L2
/-! ### numbers that come round: no program -/
theorem max_list {is : List Int} (h : is ≠ []) : ∃ M, maxLG [.list (is.map PyData.int)] = some (.int M) ∧ M ∈ is ∧ ∀ i ∈ is, i ≤ M := by
  cases is with
  | nil => exact absurd rfl h
  | cons i r =>
    refine ⟨lmax i r, ?_, lmax_mem r i⟩
    show (match intsD ((i :: r).map PyData.int) with | some (i :: b) => some (PyData.int (lmax i b)) | _ => none) = _
    rw [intsD_map]
theorem min_list2 {is : List Int} (h : is ≠ []) : ∃ M, minLG [.list (is.map PyData.int)] = some (.int M) ∧ M ∈ is ∧ ∀ i ∈ is, M ≤ i := by
  cases is with
  | nil => exact absurd rfl h
  | cons i r =>
    refine ⟨lmin i r, ?_, lmin_mem r i⟩
    show (match intsD ((i :: r).map PyData.int) with | some (i :: b) => some (PyData.int (lmin i b)) | _ => none) = _
    rw [intsD_map]
theorem eqv_ii (a b : Int) : PyData.eqv (.int a) (.int b) = decide (a = b) := by
  rw [Bool.eq_iff_iff]
  show (a == b) = true ↔ _
  simp
def eL (E : Nat → Int) (N : Nat) : List PyData := (List.range N).map fun n => .int (E n)
theorem eL_ints (E : Nat → Int) (N : Nat) : eL E N = ((List.range N).map E).map PyData.int := by unfold eL; rw [List.map_map]; rfl
theorem eL_len (E : Nat → Int) (N : Nat) : (eL E N).length = N := by simp [eL]
theorem idx_eL {E : Nat → Int} {N j : Nat} {M : Int} (hj : j < N) (h1 : E j = M) (h2 : ∀ i, i < j → E i ≠ M) : idxD (eL E N) (.int M) = some j := by
  unfold idxD
  rw [List.findIdx?_eq_some_iff_getElem]
  refine ⟨by rw [eL_len]; exact hj, ?_, fun i hi => ?_⟩
  · simp only [eL, List.getElem_map, List.getElem_range, eqv_ii, h1, decide_true]
  · simp only [eL, List.getElem_map, List.getElem_range, eqv_ii]
    have := h2 i hi
    simpa using this
theorem least_at {P : Nat → Prop} {n : Nat} (h : P n) : ∃ j, j ≤ n ∧ P j ∧ ∀ i, i < j → ¬ P i := by
  induction n using Nat.strongRecOn with
  | ind n ih =>
    by_cases hx : ∃ i, i < n ∧ P i
    · obtain ⟨i, hi, hp⟩ := hx
      obtain ⟨j, h1, h2, h3⟩ := ih i hi hp
      exact ⟨j, by omega, h2, h3⟩
    · exact ⟨n, Nat.le_refl _, h, fun i hi hp => hx ⟨i, hi, hp⟩⟩
theorem top_ok {E : Nat → Int} {m : Nat} (hm : 1 ≤ m) (hle : ∀ n, E (n + m) ≤ E n) : ∃ (M : Int) (j : Nat), ∀ N, m ≤ N → maxLG [.list (eL E N)] = some (.int M) ∧ idxD (eL E N) (.int M) = some j := by
  have hne : ∀ N, m ≤ N → (List.range N).map E ≠ [] := fun N hN h => by
    have := congrArg List.length h
    simp at this
    omega
  obtain ⟨M, h1, h2, h3⟩ := max_list (hne m (Nat.le_refl _))
  obtain ⟨n0, hn0, he⟩ := List.mem_map.mp h2
  obtain ⟨j, hj, hjE, hjl⟩ := least_at (P := fun n => E n = M) he
  have hjm : j < m := by have := List.mem_range.mp hn0; omega
  have hall : ∀ n, E n ≤ M := fun n => by
    induction n using Nat.strongRecOn with
    | ind n ih =>
      by_cases hn : n < m
      · exact h3 _ (List.mem_map_of_mem (List.mem_range.mpr hn))
      · have := hle (n - m)
        have e : n - m + m = n := by omega
        rw [e] at this
        exact Int.le_trans this (ih (n - m) (by omega))
  refine ⟨M, j, fun N hN => ?_⟩
  obtain ⟨M', k1, k2, k3⟩ := max_list (hne N hN)
  have hM : M' = M := by
    obtain ⟨n1, _, e1⟩ := List.mem_map.mp k2
    have a := k3 (E j) (List.mem_map_of_mem (List.mem_range.mpr (by omega)))
    have b := hall n1
    omega
  rw [hM] at k1
  exact ⟨by rw [eL_ints]; exact k1, idx_eL (by omega) hjE hjl⟩
/-! ### the same from a number on -/
/-- how far down it is the same -/
def dn (f : Nat → Bool) : Nat → Nat
  | 0 => 0
  | k + 1 => if f k = true then dn f k else k + 1
theorem dn_le (f : Nat → Bool) : ∀ k, dn f k ≤ k
  | 0 => Nat.le_refl _
  | k + 1 => by
    unfold dn
    split
    · have := dn_le f k; omega
    · exact Nat.le_refl _
theorem dn_all (f : Nat → Bool) : ∀ k i, dn f k ≤ i → i < k → f i = true
  | 0, i, _, h => by omega
  | k + 1, i, h1, h2 => by
    unfold dn at h1
    split at h1
    · rename_i hf
      by_cases e : i = k
      · rw [e]; exact hf
      · exact dn_all f k i h1 (by omega)
    · omega
theorem dn_up {f : Nat → Bool} {c : Nat} (h : ∀ i, c ≤ i → f i = true) : ∀ d, dn f (c + d) = dn f c
  | 0 => rfl
  | d + 1 => by
    have e : dn f (c + (d + 1)) = if f (c + d) = true then dn f (c + d) else c + d + 1 := rfl
    rw [e, if_pos (h _ (by omega))]
    exact dn_up h d
theorem flat_all {E : Nat → Int} {m c : Nat} (hm : 1 ≤ m) (hp : ∀ n, c ≤ n + m → E (n + m) = E n) {a : Nat} (ha : c ≤ a) {v : Int} (h : ∀ i, i < m → E (a + i) = v) : ∀ n, c ≤ n → E n = v := by
  have up : ∀ n, a ≤ n → E n = v := fun n => by
    induction n using Nat.strongRecOn with
    | ind n ih =>
      intro hn
      by_cases hx : n < a + m
      · have := h (n - a) (by omega)
        have e : a + (n - a) = n := by omega
        rwa [e] at this
      · have := hp (n - m) (by omega)
        have e : n - m + m = n := by omega
        rw [e] at this
        rw [this]
        exact ih (n - m) (by omega) (by omega)
  intro n hn
  have key : ∀ k n, c ≤ n → a ≤ n + k * m → E n = v := fun k => by
    induction k with
    | zero => intro n _ h2; exact up n (by omega)
    | succ k ih =>
      intro n h1 h2
      rw [← hp n (by omega)]
      refine ih (n + m) (by omega) ?_
      rw [Nat.succ_mul] at h2
      omega
  refine key a n hn ?_
  have : a * 1 ≤ a * m := Nat.mul_le_mul_left _ hm
  omega
/-! ### dedup and dicts of one key -/
theorem dedup_ge : ∀ (l acc : List Int), acc.length ≤ (l.foldl step_dedup acc).length
  | [], acc => Nat.le_refl _
  | x :: l, acc => by
    rw [List.foldl_cons]
    refine Nat.le_trans ?_ (dedup_ge l _)
    unfold step_dedup
    split
    · exact Nat.le_refl _
    · rw [List.length_append]; omega
theorem dedup_one : ∀ (l : List Int) (k : Int), ((l.foldl step_dedup [k]).length = 1 ↔ ∀ x ∈ l, x = k)
  | [], k => by simp
  | x :: l, k => by
    rw [List.foldl_cons]
    by_cases e : x = k
    · subst e
      have : step_dedup [x] x = [x] := by simp [step_dedup]
      rw [this, dedup_one l x]
      simp
    · have : step_dedup [k] x = [k, x] := by
        unfold step_dedup
        have : ([k].any (· == x)) = false := by simp; omega
        rw [this]
        rfl
      rw [this]
      have := dedup_ge l [k, x]
      simp only [List.length_cons, List.length_nil] at this
      constructor
      · intro h; omega
      · intro h; exact absurd (h x (by simp)) e
theorem lenset_one {is : List Int} {k : Int} (hl : (k :: is).length ≤ 4000) : ∃ n : Nat, lenSetG [.list ((k :: is).map PyData.int)] = some (.int (n : Nat)) ∧ (n = 1 ↔ ∀ x ∈ is, x = k) := by
  have hi : intsD ((k :: is).map PyData.int) = some (k :: is) := intsD_map _
  have hm : firstMet (fun i => (k :: is).getD i 0) (k :: is).length = is.foldl step_dedup [k] := by
    unfold firstMet
    have : (List.range (k :: is).length).map (fun i => (k :: is).getD i 0) = k :: is := by
      refine List.ext_getElem (by simp) fun i h1 h2 => ?_
      simp [List.getD_eq_getElem?_getD, List.getElem?_eq_getElem h2]
    rw [this]
    rfl
  refine ⟨(is.foldl step_dedup [k]).length, ?_, dedup_one is k⟩
  unfold lenSetG
  dsimp only
  rw [hi]
  dsimp only
  rw [if_pos hl, hm]
def keysD (acc : List (PyData × PyData)) (ks : List Int) : List (PyData × PyData) := ks.foldl (fun acc k => putD acc (.int k) (.bool true)) acc
theorem putD_ge (l : List (PyData × PyData)) (k v : PyData) : l.length ≤ (putD l k v).length := by
  unfold putD
  split
  · rw [List.length_map]; exact Nat.le_refl _
  · rw [List.length_append]; omega
theorem keysD_ge : ∀ (ks : List Int) (acc : List (PyData × PyData)), acc.length ≤ (keysD acc ks).length
  | [], acc => Nat.le_refl _
  | k :: ks, acc => Nat.le_trans (putD_ge acc _ _) (keysD_ge ks _)
theorem kEq_ii (a b : Int) : kEq (.int a) (.int b) = decide (a = b) := by
  unfold kEq keyD
  simp
theorem keysD_one : ∀ (ks : List Int) (k : Int), ((∀ x ∈ ks, x = k) → keysD [(.int k, .bool true)] ks = [(.int k, .bool true)]) ∧ ((∃ x ∈ ks, x ≠ k) → 2 ≤ (keysD [(.int k, .bool true)] ks).length)
  | [], k => ⟨fun _ => rfl, fun ⟨x, h, _⟩ => by cases h⟩
  | x :: ks, k => by
    have ih := keysD_one ks k
    by_cases e : x = k
    · subst e
      have hp : putD [(PyData.int x, PyData.bool true)] (.int x) (.bool true) = [(.int x, .bool true)] := by
        unfold putD
        simp [kEq_ii]
      have hs : keysD [(PyData.int x, PyData.bool true)] (x :: ks) = keysD [(.int x, .bool true)] ks := by
        show keysD (putD [(PyData.int x, PyData.bool true)] (.int x) (.bool true)) ks = _
        rw [hp]
      rw [hs]
      refine ⟨fun h => ih.1 fun y hy => h y (by simp [hy]), fun ⟨y, hy, hne⟩ => ih.2 ⟨y, ?_, hne⟩⟩
      rcases List.mem_cons.mp hy with z | z
      · exact absurd z hne
      · exact z
    · refine ⟨fun h => absurd (h x (by simp)) e, fun _ => ?_⟩
      have hp : putD [(PyData.int k, PyData.bool true)] (.int x) (.bool true) = [(.int k, .bool true), (.int x, .bool true)] := by
        unfold putD
        have : ¬ k = x := fun z => e z.symm
        simp [kEq_ii, this]
      have := keysD_ge ks [(PyData.int k, PyData.bool true), (PyData.int x, PyData.bool true)]
      show 2 ≤ (keysD (putD [(PyData.int k, PyData.bool true)] (.int x) (.bool true)) ks).length
      rw [hp]
      exact this
theorem keysI_keysD : ∀ (ks : List Int) (acc : List (PyData × PyData)), keysI acc = true → keysI (keysD acc ks) = true
  | [], acc, h => h
  | k :: ks, acc, h => by
    refine keysI_keysD ks _ ?_
    show keysI (putD acc (.int k) (.bool true)) = true
    unfold putD
    unfold keysI at h ⊢
    split
    · rw [List.all_map]
      rw [List.all_eq_true] at h ⊢
      intro p hp
      show ikey (if kEq p.1 (.int k) = true then (p.1, PyData.bool true) else p).1 = true
      have := h p hp
      split <;> exact this
    · rw [List.all_append, h]
      rfl
/-! ### rounds -/
section
variable {P : Nat → Int} {m c : Nat} {b2 : Int}
theorem diff_all (hm : 1 ≤ m) (hr : ∀ n, c ≤ n + m → P (n + m) = P n + b2) {q : Nat} {g : Int} (h : ∀ i, i < m → P (c + i + q) - P (c + i) = g) : ∀ n, c ≤ n → P (n + q) = P n + g := by
  have := flat_all (E := fun n => P (n + q) - P n) (m := m) (c := c) hm (fun n hn => by
    have h1 := hr n hn
    have h2 := hr (n + q) (by omega)
    have e : n + m + q = n + q + m := by omega
    show P (n + m + q) - P (n + m) = P (n + q) - P n
    rw [e, h2, h1]
    omega) (a := c) (Nat.le_refl _) (v := g) h
  intro n hn
  have := this n hn
  have this : P (n + q) - P n = g := this
  omega
end
end DL

set_option Elab.async false
set_option linter.all false
set_option maxRecDepth 100000
set_option maxHeartbeats 4000000
namespace DL
open PySem PySem.Spec PyProof.Rows L2
def ee (p : Int) (l : List Pc) (n : Nat) : Int := P1 (pcs p l) n * ((best1 p l).1 : Int) - (best1 p l).2 * (n : Int)
theorem dn_while {C : BF} {B : SF} {env : Nat → Rho} {f : Nat → Bool} {S : Sto} {K : Nat} (h0 : C (env 0) S = .ok false S) (hC : ∀ k, k + 1 ≤ K → C (env (k + 1)) S = .ok (f k) S) (hB : ∀ k, k + 1 ≤ K → B (env (k + 1)) S = .fl (.nx (env k)) S) : ∀ k, k ≤ K → ∃ N, whileN C B N (env k) S = .fl (.nx (env (dn f k))) S
  | 0, _ => ⟨1, while_end h0⟩
  | k + 1, hk => by
    have hc := hC k hk
    unfold dn
    cases hf : f k with
    | true =>
      rw [hf] at hc
      obtain ⟨N, e⟩ := dn_while h0 hC hB k (by omega)
      rw [if_pos rfl]
      exact ⟨N + 1, while_step hc (hB k hk) e⟩
    | false =>
      rw [hf] at hc
      rw [if_neg (by decide)]
      exact ⟨1, while_end hc⟩
theorem ev_while {C : BF} {B : SF} {n : Nat} {ρ ρ1 : Rho} {S S1 : Sto} (h : whileN C B n ρ S = .fl (.nx ρ1) S1) : sWhile C B ρ S = .fl (.nx ρ1) S1 := sWhile_eq h (by intro z; cases z)
theorem dcI_run {ρ : Rho} {t : GF} {fk fv : EF} {S : Sto} {D : Nat → Int} : ∀ (is : List Nat) (acc : List (PyData × PyData)), (∀ i ∈ is, ∃ ρ1, t (nI i) ρ = some ρ1 ∧ fk ρ1 S = .ok (.d (.int (D i))) S ∧ fv ρ1 S = .ok (.d (.bool true)) S) → dcRunI t bYes fk fv ρ (is.map nI) acc S = .ok (keysD acc (is.map D)) S
  | [], acc, _ => rfl
  | i :: is, acc, h => by
    obtain ⟨ρ1, h1, h2, h3⟩ := h i (by simp)
    rw [List.map_cons]
    unfold dcRunI
    rw [h1]
    dsimp only [bYes]
    rw [h2]
    dsimp only
    rw [h3]
    dsimp only
    rw [if_pos (by rfl), dcI_run is _ fun x hx => h x (by simp [hx])]
    rfl
theorem ev_pdcI {i : IF} {t : GF} {c : BF} {fk fv : EF} {vs : List Nat} {ρ : Rho} {S S1 : Sto} {l : List PyData} {R : Rs (List (PyData × PyData))} (h1 : i ρ S = .ok l S1) (h2 : dcRunI t c fk fv (wipeR ρ vs) l [] S1 = R) : pDcI i t c fk fv vs ρ S = R := by
  unfold pDcI; rw [h1]; exact h2
theorem ev_ownI {m : PF} {ρ : Rho} {S S1 : Sto} {l : List (PyData × PyData)} (h : m ρ S = .ok l S1) : eOwnI m ρ S = .ok (.own S1.length) (S1 ++ [.dct l]) := by
  unfold eOwnI; rw [h]; rfl
theorem ev_keys {f : LF} {ρ : Rho} {S S1 : Sto} {k : Nat} {l : List (PyData × PyData)} (h : f ρ S = .ok [.own k] S1) (hk : S1[k]? = some (.dct l)) (hi : keysI l = true) : mKeys f ρ S = .ok (l.map (·.1)) S1 := by
  unfold mKeys; rw [h]; simp only [Rs.bind, hk, hi, if_true]
theorem rng_nat (c m : Nat) : rangeD (c : Int) m = ((List.range m).map fun i => c + i).map nI := by
  unfold rangeD
  rw [List.map_map]
  refine List.map_congr_left fun i _ => ?_
  show PyData.int _ = PyData.int _
  congr 1
theorem ev_rng2 {ρ : Rho} {S S1 : Sto} {f : LF} {i j : Int} {c m : Nat} (h : f ρ S = .ok [.d (.int i), .d (.int j)] S1) (hi : i = (c : Int)) (hj : j = (c : Int) + (m : Int)) (hc : c ≤ 50000) (hm : m ≤ 50000) : iRange2 f ρ S = .ok (((List.range m).map fun i => c + i).map nI) S1 := by
  subst hi hj
  rw [rng2_g h (rng2_c (by omega) (by omega) (by omega) (by omega)), ← rng_nat]
  have : ((c : Int) + (m : Int) - (c : Int)).toNat = m := by omega
  rw [this]
theorem eqD_i (a b : Int) : eqD (.int a) (.int b) = some (.bool (decide (a = b))) := by
  unfold eqD
  rw [(Cm.int (i := a) (n := 0)).ok (by decide), (Cm.int (i := b) (n := 0)).ok (by decide), eqv_ii]
  rfl
theorem ev_idxv {fo fe : EF} {ρ : Rho} {S S1 S2 : Sto} {l : List PyData} {w : Wv} {d : PyData} {j : Nat} (h1 : fo ρ S = .ok (.d (.list l)) S1) (h2 : fe ρ S1 = .ok w S2) (h3 : view S2 w = some d) (h4 : (cmpOk (.list l) && cmpOk d) = true) (h5 : idxD l d = some j) : eIdx fo fe ρ S = .ok (.d (nI j)) S2 := by
  unfold eIdx
  rw [h1]; simp only [Rs.bind]; rw [h2]; simp only [h3, h4, if_true, h5]
  rfl
section
variable {S : Sto} {p : Int} {l : List Pc} (o : One1 p l)
include o
theorem mm_bd : 1 ≤ (best1 p l).1 ∧ (best1 p l).1 ≤ 12 := ⟨(o.bd o.best.mem).2.1, (o.bd o.best.mem).1⟩
theorem pr_eq {n : Nat} (h : 12 * (best1 p l).1 ≤ n + (best1 p l).1) : P1 (pcs p l) (n + (best1 p l).1) = P1 (pcs p l) n + (best1 p l).2 := by
  have := p1_round o.good o.best (n := n + (best1 p l).1) h
  have e : n + (best1 p l).1 - (best1 p l).1 = n := by omega
  rwa [e] at this
theorem ee_le (n : Nat) : ee p l (n + (best1 p l).1) ≤ ee p l n := by
  have h := best_step o.good o.best n
  have h2 := Int.mul_le_mul_of_nonneg_right h (show (0 : Int) ≤ ((best1 p l).1 : Int) by omega)
  unfold ee
  rw [Int.add_mul] at h2
  rw [Int.natCast_add, Int.mul_add]
  omega
theorem ee_eq {n : Nat} (h : 12 * (best1 p l).1 ≤ n + (best1 p l).1) : ee p l (n + (best1 p l).1) = ee p l n := by
  have h := pr_eq o h
  unfold ee
  rw [h, Int.add_mul, Int.natCast_add, Int.mul_add]
  omega
theorem ee_mul {n : Nat} (hn : n ≤ 1000) : mulD (.int (P1 (pcs p l) n)) (nI (best1 p l).1) = some (.int (P1 (pcs p l) n * ((best1 p l).1 : Int))) ∧ mulD (.int (best1 p l).2) (nI n) = some (.int ((best1 p l).2 * (n : Int))) := by
  have hb := o.bd o.best.mem
  have hP := p1_bd o (n := n)
  exact ⟨mul_bd (by omega) (by omega), mul_bd (by omega) (by omega)⟩
theorem worst_sem {M : Int} {j : Nat} (h1 : maxLG [.list (eL (ee p l) (best1 p l).1)] = some (.int M)) (h2 : idxD (eL (ee p l) (best1 p l).1) (.int M) = some j) : f_worst [.d (osh p l).d] S = .ok (.d (.tuple [nI j, .int M])) S := by
  have hm := mm_bd o
  refine run_ret0 (ws := [.d (osh p l).d]) (nn := 5) (ar := 1) ?_
  show b_worst [some (.d (osh p l).d), none, none, none, none] S = _
  have hc : cmpOk (.list (eL (ee p l) (best1 p l).1)) = true := (Cm.list (n := 0) fun x hx => by
    obtain ⟨i, _, rfl⟩ := List.mem_map.mp hx
    exact Cm.int).ok (by decide)
  have hlc : lcRun (gNm 4) bYes (eCall 2 f_excess (lCons (eVar 0) (lCons (eVar 4) lNil))) [some (.d (osh p l).d), some (.d (nI (best1 p l).1)), some (.d (.int (best1 p l).2)), none, none] ((List.range (best1 p l).1).map fun (i : Nat) => PyData.int ((i : Nat) : Int)) [] S = .ok (eL (ee p l) (best1 p l).1) S :=
    lc_all (enc := nI) _ fun n hn => ⟨_, rfl, ev_call2 (ev_var rfl) (ev_var rfl) (excess_sem o (by have := List.mem_range.mp hn; exact Nat.le_trans (show n ≤ 12 by omega) (by decide)))⟩
  generalize eL (ee p l) (best1 p l).1 = L at *
  refine ev_seq (ev_asg (ev_call1 (ev_var rfl) (best_sem o)) rfl) (ev_seq (ev_set (ev_fz (ev_lc (ev_range (n := (best1 p l).1) (ev_var rfl) rfl (by omega)) hlc))) (ev_ret (ev_tup (ev_lc1 (ev_idxv (ev_var rfl) (ev_b1 (ev_var rfl) rfl h1) rfl (by rw [hc]; rfl) h2) (ev_lc1 (ev_b1 (ev_var rfl) rfl h1) ev_ln)) rfl (lo2 _ _))))
end
end DL

set_option Elab.async false
set_option linter.all false
set_option maxRecDepth 100000
set_option maxHeartbeats 4000000
namespace DL
open PySem PySem.Spec PyProof.Rows L2
theorem tab_at2 {pc : List Pc} {n a b : Nat} (h : a + b < n) : ixD (.list (tabD pc n)) (.int ((a : Int) + (b : Int))) = some (.int (P1 pc (a + b))) := by
  have := tab_at (pc := pc) h
  rwa [Int.natCast_add] at this
def gainD (pc : List Pc) (c m q : Nat) : PyData := if ∀ i, i < m → P1 pc (c + i + q) - P1 pc (c + i) = P1 pc (c + q) - P1 pc c then .int (P1 pc (c + q) - P1 pc c) else .none
theorem gain_sem {S : Sto} {pc : List Pc} {N c m q : Nat} (hm : 1 ≤ m) (hm2 : m ≤ 5000) (hc : c ≤ 5000) (hN : c + m + q ≤ N) : f_gain_of [.d (.list (tabD pc N)), .d (nI c), .d (nI m), .d (nI q)] S = .ok (.d (gainD pc c m q)) S := by
  obtain ⟨k, rfl⟩ : ∃ k, m = k + 1 := ⟨m - 1, by omega⟩
  have hdc := dcI_run (S := S) (ρ := [some (.d (.list (tabD pc N))), some (.d (nI c)), some (.d (nI (k + 1))), some (.d (nI q)), none, none]) (t := gNm 5) (fk := eBin subD (eBin ixD (eVar 0) (eBin addD (eVar 5) (eVar 3))) (eBin ixD (eVar 0) (eVar 5))) (fv := eC (.bool true)) (D := fun x => P1 pc (x + q) - P1 pc x) ((List.range (k + 1)).map fun i => c + i) [] fun x hx => by
    obtain ⟨i, hi, rfl⟩ := List.mem_map.mp hx
    have hi := List.mem_range.mp hi
    exact ⟨_, rfl, ev_bin (ev_bin (ev_var rfl) (ev_bin (ev_var rfl) (ev_var rfl) rfl rfl rfl) rfl rfl (tab_at2 (by omega))) (ev_bin (ev_var rfl) (ev_var rfl) rfl rfl (tab_at (by omega))) rfl rfl rfl, ev_c⟩
  have hL : ((List.range (k + 1)).map fun i => c + i).map (fun x => P1 pc (x + q) - P1 pc x) = (P1 pc (c + q) - P1 pc c) :: (List.range k).map fun i => P1 pc (c + (i + 1) + q) - P1 pc (c + (i + 1)) := by
    rw [List.map_map, List.range_succ_eq_map, List.map_cons, List.map_map]
    rfl
  rw [hL] at hdc
  have hk0 : keysD [] ((P1 pc (c + q) - P1 pc c) :: (List.range k).map fun i => P1 pc (c + (i + 1) + q) - P1 pc (c + (i + 1))) = keysD [(.int (P1 pc (c + q) - P1 pc c), .bool true)] ((List.range k).map fun i => P1 pc (c + (i + 1) + q) - P1 pc (c + (i + 1))) := rfl
  rw [hk0] at hdc
  have hone := keysD_one ((List.range k).map fun i => P1 pc (c + (i + 1) + q) - P1 pc (c + (i + 1))) (P1 pc (c + q) - P1 pc c)
  have hki := keysI_keysD ((List.range k).map fun i => P1 pc (c + (i + 1) + q) - P1 pc (c + (i + 1))) [(.int (P1 pc (c + q) - P1 pc c), .bool true)] rfl
  generalize hLd : keysD [(PyData.int (P1 pc (c + q) - P1 pc c), PyData.bool true)] ((List.range k).map fun i => P1 pc (c + (i + 1) + q) - P1 pc (c + (i + 1))) = L at *
  have hset : sSet 4 (eOwnI (pDcI (iRange2 (lCons (eVar 1) (lCons (eBin addD (eVar 1) (eVar 2)) lNil))) (gNm 5) bYes (eBin subD (eBin ixD (eVar 0) (eBin addD (eVar 5) (eVar 3))) (eBin ixD (eVar 0) (eVar 5))) (eC (.bool true)) [5])) [some (.d (.list (tabD pc N))), some (.d (nI c)), some (.d (nI (k + 1))), some (.d (nI q)), none, none] S = .fl (.nx [some (.d (.list (tabD pc N))), some (.d (nI c)), some (.d (nI (k + 1))), some (.d (nI q)), some (.own S.length), none]) (S ++ [.dct L]) :=
    ev_set (ev_ownI (ev_pdcI (ev_rng2 (c := c) (m := k + 1) (ev_lc1 (ev_var rfl) (ev_lc1 (ev_bin (ev_var rfl) (ev_var rfl) rfl rfl rfl) ev_ln)) rfl rfl (by omega) (by omega)) hdc))
  have hlen : lenKG [.dict L] = some (.int (L.length : Nat)) := by
    unfold lenKG
    dsimp only
    rw [if_pos hki]
  have hcond : tCmpB eqD (eB lenKG (lCons (eVar 4) lNil)) (eC (.int 1)) [some (.d (.list (tabD pc N))), some (.d (nI c)), some (.d (nI (k + 1))), some (.d (nI q)), some (.own S.length), none] (S ++ [.dct L]) = .ok (decide ((L.length : Int) = 1)) (S ++ [.dct L]) :=
    ev_cmp (ev_b1 (ev_var rfl) (view_dct last_get) hlen) ev_c rfl rfl (eqD_i _ _)
  have key : b_gain_of [some (.d (.list (tabD pc N))), some (.d (nI c)), some (.d (nI (k + 1))), some (.d (nI q)), none, none] S = .fl (.rt (.d (gainD pc c (k + 1) q))) (S ++ [.dct L]) := by
    refine ev_seq hset (ev_ret ?_)
    unfold gainD
    by_cases hall : ∀ i, i < k + 1 → P1 pc (c + i + q) - P1 pc (c + i) = P1 pc (c + q) - P1 pc c
    · rw [if_pos hall]
      have hL1 := hone.1 fun x hx => by
        obtain ⟨i, hi, rfl⟩ := List.mem_map.mp hx
        exact hall (i + 1) (by have := List.mem_range.mp hi; omega)
      rw [hL1] at hcond
      rw [hL1, ev_eif1 hcond]
      exact ev_bin (ev_fz (ev_keys (ev_lc1 (ev_var rfl) ev_ln) last_get rfl)) ev_c rfl rfl (ix_first _ _)
    · rw [if_neg hall]
      have hex : ∃ x ∈ (List.range k).map (fun i => P1 pc (c + (i + 1) + q) - P1 pc (c + (i + 1))), x ≠ P1 pc (c + q) - P1 pc c := by
        refine Classical.byContradiction fun hno => hall fun i hi => ?_
        cases i with
        | zero => rfl
        | succ i =>
          refine Classical.byContradiction fun hne => hno ⟨_, List.mem_map_of_mem (List.mem_range.mpr (show i < k by omega)), hne⟩
      have hL2 := hone.2 hex
      rw [decide_eq_false (by omega)] at hcond
      rw [ev_eif2 hcond]
      exact ev_c
  have := run_ret (nn := 6) (ar := 4) (ws := [.d (.list (tabD pc N)), .d (nI c), .d (nI (k + 1)), .d (nI q)]) key
  rw [List.take_left] at this
  exact this
section
variable {p : Int} {l : List Pc} (o : One1 p l)
include o
theorem round_sem : ∃ (s q : Nat) (g : Int), (∀ S, f_round_of [.d (osh p l).d] S = .ok (.d (.tuple [nI s, nI q, .int g, .tuple (tabD (pcs p l) (s + q))])) S) ∧ s ≤ 144 ∧ 1 ≤ q ∧ q ≤ 12 ∧ ∀ n, s ≤ n → P1 (pcs p l) (n + q) = P1 (pcs p l) n + g := by
  have hm := mm_bd o
  have hpr := fun n => pr_eq o (n := n)
  generalize hmm : (best1 p l).1 = m at *
  have hgd : ∀ q, isNotNoneD (gainD (pcs p l) (12 * m) m q) .none = some (.bool (decide (∀ i, i < m → P1 (pcs p l) (12 * m + i + q) - P1 (pcs p l) (12 * m + i) = P1 (pcs p l) (12 * m + q) - P1 (pcs p l) (12 * m)))) := fun q => by
    unfold gainD
    split
    · rename_i h
      rw [decide_eq_true h]
      rfl
    · rename_i h
      rw [decide_eq_false h]
      rfl
  have hgood : ∀ i, i < m → P1 (pcs p l) (12 * m + i + m) - P1 (pcs p l) (12 * m + i) = P1 (pcs p l) (12 * m + m) - P1 (pcs p l) (12 * m) := fun i hi => by
    rw [hpr (12 * m + i) (by omega), hpr (12 * m) (by omega)]
    omega
  have hfil : m ∈ ((List.range m).map (· + 1)).filter fun q => decide (∀ i, i < m → P1 (pcs p l) (12 * m + i + q) - P1 (pcs p l) (12 * m + i) = P1 (pcs p l) (12 * m + q) - P1 (pcs p l) (12 * m)) := by
    rw [List.mem_filter]
    exact ⟨List.mem_map.mpr ⟨m - 1, List.mem_range.mpr (by omega), by omega⟩, decide_eq_true hgood⟩
  cases hfl : ((List.range m).map (· + 1)).filter fun q => decide (∀ i, i < m → P1 (pcs p l) (12 * m + i + q) - P1 (pcs p l) (12 * m + i) = P1 (pcs p l) (12 * m + q) - P1 (pcs p l) (12 * m)) with
  | nil => rw [hfl] at hfil; cases hfil
  | cons q qs =>
    have hq0 : q ∈ q :: qs := by simp
    rw [← hfl, List.mem_filter] at hq0
    obtain ⟨hq1, hq2⟩ := hq0
    have hq2 := of_decide_eq_true hq2
    obtain ⟨i0, hi0, hq⟩ := List.mem_map.mp hq1
    have hi0 := List.mem_range.mp hi0
    have hq : i0 + 1 = q := hq
    generalize hg : P1 (pcs p l) (12 * m + q) - P1 (pcs p l) (12 * m) = g at *
    have hcalm : ∀ n, 12 * m ≤ n → P1 (pcs p l) (n + q) = P1 (pcs p l) n + g := diff_all (P := P1 (pcs p l)) hm.1 (fun n hn => hpr n hn) hq2
    refine ⟨dn (fun i => decide (P1 (pcs p l) (i + q) = P1 (pcs p l) i + g)) (12 * m), q, g, fun S => ?_, ?_, by omega, by omega, fun n hn => ?_⟩
    · have hgq : gainD (pcs p l) (12 * m) m q = .int g := by
        unfold gainD
        rw [hg, if_pos hq2]
      have hgs : ∀ q, q ≤ 12 → f_gain_of [.d (.list (tabD (pcs p l) (12 * m + m + 12 + 1))), .d (nI (12 * m)), .d (nI m), .d (nI q)] S = .ok (.d (gainD (pcs p l) (12 * m) m q)) S := fun q hq => gain_sem (S := S) hm.1 (by omega) (by omega) (by omega)
      have hN : 12 * m + m + 12 + 1 ≤ 100000 := by omega
      have hbest := best_sem (S := S) o
      have hcs := calm_sem (S := S) o
      have hts := table_sem (S := S) (p := p) (l := l) o (n := 12 * m + m + 12) (by omega)
      have hpd : pcD (best1 p l) = .tuple [nI m, .int (best1 p l).2] := by unfold pcD; rw [hmm]
      rw [hpd] at hbest
      rw [hmm] at hcs
      generalize hT : tabD (pcs p l) (12 * m + m + 12 + 1) = T at *
      generalize (best1 p l).2 = b2 at *
      have e12 : PyData.int (12 * (m : Int)) = nI (12 * m) := by unfold nI; rw [Int.natCast_mul]; rfl
      rw [e12] at hcs
      have hlc : lcRun (gNm 8) (tCmpB isNotNoneD (eCall 4 f_gain_of (lCons (eVar 4) (lCons (eVar 3) (lCons (eVar 1) (lCons (eVar 8) lNil))))) (eC .none)) (eVar 8) [some (.d (osh p l).d), some (.d (nI m)), some (.d (.int b2)), some (.d (nI (12 * m))), some (.d (.list T)), none, none, none, none] ((List.range m).map fun k => nI (k + 1)) [] S = .ok ((q :: qs).map nI) S := by
        have h := lc_some (S := S) (enc := nI) (g := nI) (t := gNm 8) (c := tCmpB isNotNoneD (eCall 4 f_gain_of (lCons (eVar 4) (lCons (eVar 3) (lCons (eVar 1) (lCons (eVar 8) lNil))))) (eC .none)) (f := eVar 8) (ρ := [some (.d (osh p l).d), some (.d (nI m)), some (.d (.int b2)), some (.d (nI (12 * m))), some (.d (.list T)), none, none, none, none]) (fun q => decide (∀ i, i < m → P1 (pcs p l) (12 * m + i + q) - P1 (pcs p l) (12 * m + i) = P1 (pcs p l) (12 * m + q) - P1 (pcs p l) (12 * m))) ((List.range m).map (· + 1)) fun x hx => by
          obtain ⟨i, hi, rfl⟩ := List.mem_map.mp hx
          have hi := List.mem_range.mp hi
          exact ⟨_, rfl, ev_cmp (ev_call4 (ev_var rfl) (ev_var rfl) (ev_var rfl) (ev_var rfl) (hgs _ (by omega))) ev_c rfl rfl (hgd _), fun _ => ev_var rfl⟩
        rw [hfl, List.map_map] at h
        exact h
      have hix : ∀ a b, a + b < 12 * m + m + 12 + 1 → ixD (.list T) (.int ((a : Int) + (b : Int))) = some (.int (P1 (pcs p l) (a + b))) := fun a b h => by rw [← hT]; exact tab_at2 h
      have hix1 : ∀ a, a < 12 * m + m + 12 + 1 → ixD (.list T) (nI a) = some (.int (P1 (pcs p l) a)) := fun a h => by rw [← hT]; exact tab_at h
      obtain ⟨Nw, hw⟩ := dn_while (S := S) (C := tAndB (tCmpB gtD (eVar 6) (eC (.int 0))) (tCmpB eqD (eBin ixD (eVar 4) (eBin addD (eBin subD (eVar 6) (eC (.int 1))) (eVar 5))) (eBin addD (eBin ixD (eVar 4) (eBin subD (eVar 6) (eC (.int 1)))) (eVar 7)))) (B := sAug 6 subD (eC (.int 1))) (env := fun k => [some (.d (osh p l).d), some (.d (nI m)), some (.d (.int b2)), some (.d (nI (12 * m))), some (.d (.list T)), some (.d (nI q)), some (.d (nI k)), some (.d (.int g)), none]) (f := fun i => decide (P1 (pcs p l) (i + q) = P1 (pcs p l) i + g)) (K := 12 * m)
        (ev_and1 (ev_cmp (ev_var rfl) ev_c rfl rfl rfl)) (fun k hk => by
          have hs := sub_nat (a := k + 1) (b := 1) (by omega)
          have hs' : subD (nI (k + 1)) (.int 1) = some (nI k) := hs
          have hgt : gtD (nI (k + 1)) (.int 0) = some (.bool true) := by
            simp only [gtD, nI]
            rw [decide_eq_true (by omega)]
          refine Eq.trans (ev_and2 (S1 := S) (ev_cmp (ev_var rfl) ev_c rfl rfl hgt)) ?_
          exact ev_cmp (ev_bin (ev_var rfl) (ev_bin (ev_bin (ev_var rfl) ev_c rfl rfl hs') (ev_var rfl) rfl rfl rfl) rfl rfl (hix k q (by omega))) (ev_bin (ev_bin (ev_var rfl) (ev_bin (ev_var rfl) ev_c rfl rfl hs') rfl rfl (hix1 k (by omega))) (ev_var rfl) rfl rfl rfl) rfl rfl (eqD_i _ _)) (fun k hk => by
          have hs := sub_nat (a := k + 1) (b := 1) (by omega)
          have hs' : subD (nI (k + 1)) (.int 1) = some (nI k) := hs
          exact ev_aug rfl ev_c hs') (12 * m) (Nat.le_refl _)
      have hdl := dn_le (fun i => decide (P1 (pcs p l) (i + q) = P1 (pcs p l) i + g)) (12 * m)
      generalize dn (fun i => decide (P1 (pcs p l) (i + q) = P1 (pcs p l) i + g)) (12 * m) = st at *
      have hsl : slD (.list T) none (some ((st : Int) + (q : Int))) = some (.list (tabD (pcs p l) (st + q))) := by
        have hct : cutD T none (some (((st + q : Nat)) : Int)) = T.take (st + q) := cut_take _ _
        rw [Int.natCast_add] at hct
        show some (PyData.list (cutD T none (some ((st : Int) + (q : Int))))) = _
        rw [hct, ← hT]
        unfold tabD
        have hmin : min (st + q) (12 * m + m + 12 + 1) = st + q := by omega
        rw [← List.map_take, List.take_range, hmin]
      have hadd1 : addD (.int ((12 * m : Nat) : Int)) (.int (m : Int)) = some (nI (12 * m + m)) := by
        show some (PyData.int _) = some (PyData.int _)
        rw [Int.natCast_add]
      have hadd2 : addD (nI (12 * m + m)) k_MOST_OF_DEAL = some (nI (12 * m + m + 12)) := by
        show some (PyData.int _) = some (PyData.int _)
        rw [Int.natCast_add (12 * m + m) 12]
        rfl
      refine run_ret0 (ws := [.d (osh p l).d]) (nn := 9) (ar := 1) ?_
      show b_round_of [some (.d (osh p l).d), none, none, none, none, none, none, none, none] S = _
      refine ev_seq (ev_asg (ev_call1 (ev_var rfl) hbest) rfl) (ev_seq (ev_set (ev_call1 (ev_var rfl) hcs)) (ev_seq (ev_set (ev_call2 (ev_var rfl) (ev_bin (ev_bin (ev_var rfl) (ev_var rfl) rfl rfl hadd1) ev_c rfl rfl hadd2) hts)) (ev_seq (ev_set (ev_bin (ev_fz (ev_lc (range2_ok (n := m) (ev_lc1 ev_c (ev_lc1 (ev_bin (ev_var rfl) ev_c rfl rfl rfl) ev_ln)) (by omega)) hlc)) ev_c rfl rfl (ix_first _ _))) (ev_seq (ev_par (ev_var rfl) (ev_call4 (ev_var rfl) (ev_var rfl) (ev_var rfl) (ev_var rfl) (hgs q (by omega)))) ?_))))
      rw [hgq]
      exact ev_seq (ev_while hw) (ev_ret (ev_tup (ev_lc1 (ev_var rfl) (ev_lc1 (ev_var rfl) (ev_lc1 (ev_var rfl) (ev_lc1 (ev_b1 (ev_sl (ev_var rfl) rfl (ev_osom (ev_bin (ev_var rfl) (ev_var rfl) rfl rfl rfl)) rfl hsl) rfl rfl) ev_ln)))) rfl (by show litOk 4 = true; decide)))
    · have := dn_le (fun i => decide (P1 (pcs p l) (i + q) = P1 (pcs p l) i + g)) (12 * m)
      omega
    · by_cases hc : 12 * m ≤ n
      · exact hcalm n hc
      · exact of_decide_eq_true (dn_all (fun i => decide (P1 (pcs p l) (i + q) = P1 (pcs p l) i + g)) (12 * m) n hn (by omega))
end
end DL

set_option Elab.async false
set_option linter.all false
set_option maxRecDepth 100000
set_option maxHeartbeats 4000000
namespace DL
open PySem PySem.Spec PyProof.Rows L2
theorem eL_drop {E : Nat → Int} {N c : Nat} : (eL E N).drop c = ((List.range (N - c)).map fun i => E (c + i)).map PyData.int := by
  refine List.ext_getElem (by simp [eL]) fun i h1 h2 => ?_
  simp [eL]
theorem eL_slice {E : Nat → Int} {N c : Nat} : slD (.list (eL E N)) (some (c : Int)) none = some (.list (((List.range (N - c)).map fun i => E (c + i)).map PyData.int)) := by
  show some (PyData.list (cutD _ (some (c : Int)) none)) = _
  rw [cut_drop, eL_drop]
theorem eL_at {E : Nat → Int} {N k : Nat} (h : k < N) : ixD (.list (eL E N)) (nI k) = some (.int (E k)) := by
  show atI (eL E N) (k : Int) = _
  rw [atI_nat (by rw [eL_len]; exact h)]
  unfold eL
  rw [List.getElem_map, List.getElem_range]
section
variable {S : Sto} {p : Int} {l : List Pc} (o : One1 p l)
def Flat (p : Int) (l : List Pc) : Prop := ∀ n, 12 * (best1 p l).1 ≤ n → ee p l n = ee p l (12 * (best1 p l).1)
open Classical in
noncomputable def evenD (p : Int) (l : List Pc) : PyData := if Flat p l then nI (dn (fun i => decide (ee p l i = ee p l (12 * (best1 p l).1))) (12 * (best1 p l).1)) else .none
include o
theorem left_lc {N : Nat} (hN : N ≤ 1000) {ρ : Rho} {i j k x : Nat} (h : ∀ n, ∃ ρ1, gNm x (nI n) ρ = some ρ1 ∧ ρ1[i]? = some (some (.d (.list (tabD (pcs p l) N)))) ∧ ρ1[x]? = some (some (.d (nI n))) ∧ ρ1[j]? = some (some (.d (nI (best1 p l).1))) ∧ ρ1[k]? = some (some (.d (.int (best1 p l).2)))) : lcRun (gNm x) bYes (eBin subD (eBin mulD (eBin ixD (eVar i) (eVar x)) (eVar j)) (eBin mulD (eVar k) (eVar x))) ρ ((List.range N).map fun (i : Nat) => PyData.int ((i : Nat) : Int)) [] S = .ok (eL (ee p l) N) S :=
  lc_all (enc := nI) (g := fun n => .int (ee p l n)) _ fun n hn => by
    obtain ⟨ρ1, h1, h2, h3, h4, h5⟩ := h n
    have hn := List.mem_range.mp hn
    have hmul := ee_mul o (n := n) (by omega)
    exact ⟨ρ1, h1, ev_bin (ev_bin (ev_bin (ev_var h2) (ev_var h3) rfl rfl (tab_at hn)) (ev_var h4) rfl rfl hmul.1) (ev_bin (ev_var h5) (ev_var h3) rfl rfl hmul.2) rfl rfl rfl⟩
theorem flat_of {a : Nat} (ha : 12 * (best1 p l).1 ≤ a) {v : Int} (h : ∀ i, i < (best1 p l).1 → ee p l (a + i) = v) : Flat p l ∧ v = ee p l (12 * (best1 p l).1) := by
  have hm := mm_bd o
  have hall := flat_all (E := ee p l) (m := (best1 p l).1) (c := 12 * (best1 p l).1) hm.1 (fun n hn => ee_eq o hn) ha h
  exact ⟨fun n hn => by rw [hall n hn, hall _ (Nat.le_refl _)], (hall _ (Nat.le_refl _)).symm⟩
theorem even_sem : f_even_from [.d (osh p l).d] S = .ok (.d (evenD p l)) S := by
  have hm := mm_bd o
  have hflat := fun a ha v h => flat_of o (a := a) ha (v := v) h
  have hbest := best_sem (S := S) o
  have hcs := calm_sem (S := S) o
  have hts := table_sem (S := S) (p := p) (l := l) o (n := 12 * (best1 p l).1 + (best1 p l).1) (by omega)
  have e12 : PyData.int (12 * ((best1 p l).1 : Int)) = nI (12 * (best1 p l).1) := by unfold nI; rw [Int.natCast_mul]; rfl
  rw [e12] at hcs
  have hadd1 : addD (nI (12 * (best1 p l).1)) (nI (best1 p l).1) = some (nI (12 * (best1 p l).1 + (best1 p l).1)) := by
    show some (PyData.int _) = some (PyData.int _)
    rw [Int.natCast_add]
  have hlc := left_lc (S := S) o (N := 12 * (best1 p l).1 + (best1 p l).1 + 1) (by omega) (ρ := [some (.d (osh p l).d), some (.d (nI (best1 p l).1)), some (.d (.int (best1 p l).2)), some (.d (nI (12 * (best1 p l).1))), some (.d (.list (tabD (pcs p l) (12 * (best1 p l).1 + (best1 p l).1 + 1)))), none, none, none]) (i := 4) (j := 1) (k := 2) (x := 7) fun n => ⟨_, rfl, rfl, rfl, rfl, rfl⟩
  have hsl := eL_slice (E := ee p l) (N := 12 * (best1 p l).1 + (best1 p l).1 + 1) (c := 12 * (best1 p l).1)
  have e0 : 12 * (best1 p l).1 + (best1 p l).1 + 1 - 12 * (best1 p l).1 = (best1 p l).1 + 1 := by omega
  rw [e0] at hsl
  have hne : ((List.range ((best1 p l).1 + 1)).map fun i => ee p l (12 * (best1 p l).1 + i)) ≠ [] := fun h => by
    have := congrArg List.length h
    simp at this
  obtain ⟨M, m1, m2, m3⟩ := max_list hne
  obtain ⟨M2, n1, n2, n3⟩ := min_list2 hne
  have hlenG : lenG [.list (tabD (pcs p l) (12 * (best1 p l).1 + (best1 p l).1 + 1))] = some (.int ((12 * (best1 p l).1 + (best1 p l).1 + 1 : Nat) : Int)) := by
    show some (PyData.int _) = _
    rw [tab_len]
  refine run_ret0 (ws := [.d (osh p l).d]) (nn := 8) (ar := 1) ?_
  show b_even_from [some (.d (osh p l).d), none, none, none, none, none, none, none] S = _
  have hpd : pcD (best1 p l) = .tuple [nI (best1 p l).1, .int (best1 p l).2] := rfl
  rw [hpd] at hbest
  refine ev_seq (ev_asg (ev_call1 (ev_var rfl) hbest) rfl) (ev_seq (ev_set (ev_call1 (ev_var rfl) hcs)) (ev_seq (ev_set (ev_call2 (ev_var rfl) (ev_bin (ev_var rfl) (ev_var rfl) rfl rfl hadd1) hts)) (ev_seq (ev_set (ev_fz (ev_lc (ev_range (ev_b1 (ev_var rfl) rfl hlenG) rfl (by omega)) hlc))) ?_)))
  have hat := fun k h => eL_at (E := ee p l) (N := 12 * (best1 p l).1 + (best1 p l).1 + 1) (k := k) h
  generalize hL : eL (ee p l) (12 * (best1 p l).1 + (best1 p l).1 + 1) = L at *
  generalize hT : tabD (pcs p l) (12 * (best1 p l).1 + (best1 p l).1 + 1) = T at *
  have hcond : tCmpB neD (eB maxLG (lCons (eSl (eVar 5) (oSom (eVar 3)) oNon) lNil)) (eB minLG (lCons (eSl (eVar 5) (oSom (eVar 3)) oNon) lNil)) [some (.d (osh p l).d), some (.d (nI (best1 p l).1)), some (.d (.int (best1 p l).2)), some (.d (nI (12 * (best1 p l).1))), some (.d (.list T)), some (.d (.list L)), none, none] S = .ok (!(M == M2)) S :=
    ev_cmp (ev_b1 (ev_sl (ev_var rfl) (ev_osom (ev_var rfl)) rfl rfl hsl) rfl m1) (ev_b1 (ev_sl (ev_var rfl) (ev_osom (ev_var rfl)) rfl rfl hsl) rfl n1) rfl rfl (neD_int _ _)
  unfold evenD
  by_cases hF : Flat p l
  · rw [if_pos hF]
    have hMM : M = M2 := by
      obtain ⟨i, _, e1⟩ := List.mem_map.mp m2
      obtain ⟨j, _, e2⟩ := List.mem_map.mp n2
      have a := hF (12 * (best1 p l).1 + i) (by omega)
      have b := hF (12 * (best1 p l).1 + j) (by omega)
      have e1 : ee p l (12 * (best1 p l).1 + i) = M := e1
      have e2 : ee p l (12 * (best1 p l).1 + j) = M2 := e2
      omega
    have hb : (!(M == M2)) = false := by rw [hMM]; simp
    rw [hb] at hcond
    obtain ⟨Nw, hw⟩ := dn_while (S := S) (C := tAndB (tCmpB gtD (eVar 6) (eC (.int 0))) (tCmpB eqD (eBin ixD (eVar 5) (eBin subD (eVar 6) (eC (.int 1)))) (eBin ixD (eVar 5) (eVar 3)))) (B := sAug 6 subD (eC (.int 1))) (env := fun k => [some (.d (osh p l).d), some (.d (nI (best1 p l).1)), some (.d (.int (best1 p l).2)), some (.d (nI (12 * (best1 p l).1))), some (.d (.list T)), some (.d (.list L)), some (.d (nI k)), none]) (f := fun i => decide (ee p l i = ee p l (12 * (best1 p l).1))) (K := 12 * (best1 p l).1)
      (ev_and1 (ev_cmp (ev_var rfl) ev_c rfl rfl rfl)) (fun k hk => by
        have hs' : subD (nI (k + 1)) (.int 1) = some (nI k) := sub_nat (a := k + 1) (b := 1) (by omega)
        have hgt : gtD (nI (k + 1)) (.int 0) = some (.bool true) := by
          simp only [gtD, nI]
          rw [decide_eq_true (by omega)]
        refine Eq.trans (ev_and2 (S1 := S) (ev_cmp (ev_var rfl) ev_c rfl rfl hgt)) ?_
        exact ev_cmp (ev_bin (ev_var rfl) (ev_bin (ev_var rfl) ev_c rfl rfl hs') rfl rfl (hat k (by omega))) (ev_bin (ev_var rfl) (ev_var rfl) rfl rfl (hat _ (by omega))) rfl rfl (eqD_i _ _)) (fun k hk => by
        have hs' : subD (nI (k + 1)) (.int 1) = some (nI k) := sub_nat (a := k + 1) (b := 1) (by omega)
        exact ev_aug rfl ev_c hs') (12 * (best1 p l).1) (Nat.le_refl _)
    exact ev_seq (Eq.trans (ev_if2 (S1 := S) hcond) ev_nil) (ev_seq (ev_set (ev_var rfl)) (ev_seq (ev_while hw) (ev_ret (ev_var rfl))))
  · rw [if_neg hF]
    have hMM : M ≠ M2 := fun e => hF (hflat (12 * (best1 p l).1) (Nat.le_refl _) M fun i hi => by
      have a := m3 _ (List.mem_map_of_mem (List.mem_range.mpr (show i < (best1 p l).1 + 1 by omega)))
      have b := n3 _ (List.mem_map_of_mem (List.mem_range.mpr (show i < (best1 p l).1 + 1 by omega)))
      have a : ee p l (12 * (best1 p l).1 + i) ≤ M := a
      have b : M2 ≤ ee p l (12 * (best1 p l).1 + i) := b
      omega).1
    have hb : (!(M == M2)) = true := by simpa using hMM
    rw [hb] at hcond
    exact ev_seqr (Eq.trans (ev_if1 (S1 := S) hcond) (ev_ret ev_c))
theorem leven_sem : f__law_even [.d (.list (eL (ee p l) 421))] S = .ok (.d (evenD p l)) S := by
  have hm := mm_bd o
  have hflat := fun a ha v h => flat_of o (a := a) ha (v := v) h
  have hsl := eL_slice (E := ee p l) (N := 421) (c := 300)
  have hcons : ((List.range (421 - 300)).map fun i => ee p l (300 + i)) = ee p l 300 :: (List.range 120).map fun i => ee p l (300 + (i + 1)) := by
    show (List.range (120 + 1)).map _ = _
    rw [List.range_succ_eq_map, List.map_cons, List.map_map]
    rfl
  rw [hcons] at hsl
  obtain ⟨n, hn1, hn2⟩ := lenset_one (is := (List.range 120).map fun i => ee p l (300 + (i + 1))) (k := ee p l 300) (by simp)
  have hat := fun k h => eL_at (E := ee p l) (N := 421) (k := k) h
  refine run_ret0 (ws := [.d (.list (eL (ee p l) 421))]) (nn := 2) (ar := 1) ?_
  show b__law_even [some (.d (.list (eL (ee p l) 421))), none] S = _
  generalize eL (ee p l) 421 = L at *
  have hls : eLenSet (eSl (eVar 0) (oSom (eC (.int 300))) oNon) [some (.d (.list L)), none] S = .ok (.d (.int (n : Int))) S := by
    have hx : eSl (eVar 0) (oSom (eC (.int 300))) oNon [some (.d (.list L)), none] S = .ok (.d (.list ((ee p l 300 :: (List.range 120).map fun i => ee p l (300 + (i + 1))).map PyData.int))) S := ev_sl (ev_var rfl) (ev_osom ev_c) rfl rfl hsl
    unfold eLenSet
    rw [hx]
    simp only [Rs.bind, view, hn1]
  have hcond : tCmpB neD (eLenSet (eSl (eVar 0) (oSom (eC (.int 300))) oNon)) (eC (.int 1)) [some (.d (.list L)), none] S = .ok (!((n : Int) == 1)) S := ev_cmp hls ev_c rfl rfl (neD_int _ _)
  unfold evenD
  by_cases hF : Flat p l
  · rw [if_pos hF]
    have h400 : ee p l 400 = ee p l (12 * (best1 p l).1) := hF 400 (by omega)
    have hn : n = 1 := hn2.mpr fun x hx => by
      obtain ⟨i, hi, rfl⟩ := List.mem_map.mp hx
      rw [hF _ (by omega), hF 300 (by omega)]
    have hb : (!((n : Int) == 1)) = false := by rw [hn]; rfl
    rw [hb] at hcond
    obtain ⟨Nw, hw⟩ := dn_while (S := S) (C := tAndB (tCmpB gtD (eVar 1) (eC (.int 0))) (tCmpB eqD (eBin ixD (eVar 0) (eBin subD (eVar 1) (eC (.int 1)))) (eBin ixD (eVar 0) (eC (.int 400))))) (B := sAug 1 subD (eC (.int 1))) (env := fun k => [some (.d (.list L)), some (.d (nI k))]) (f := fun i => decide (ee p l i = ee p l (12 * (best1 p l).1))) (K := 400)
      (ev_and1 (ev_cmp (ev_var rfl) ev_c rfl rfl rfl)) (fun k hk => by
        have hs' : subD (nI (k + 1)) (.int 1) = some (nI k) := sub_nat (a := k + 1) (b := 1) (by omega)
        have hgt : gtD (nI (k + 1)) (.int 0) = some (.bool true) := by
          simp only [gtD, nI]
          rw [decide_eq_true (by omega)]
        refine Eq.trans (ev_and2 (S1 := S) (ev_cmp (ev_var rfl) ev_c rfl rfl hgt)) ?_
        have h4 := hat 400 (by omega)
        rw [h400] at h4
        exact ev_cmp (ev_bin (ev_var rfl) (ev_bin (ev_var rfl) ev_c rfl rfl hs') rfl rfl (hat k (by omega))) (ev_bin (ev_var rfl) ev_c rfl rfl h4) rfl rfl (eqD_i _ _)) (fun k hk => by
        have hs' : subD (nI (k + 1)) (.int 1) = some (nI k) := sub_nat (a := k + 1) (b := 1) (by omega)
        exact ev_aug rfl ev_c hs') 400 (Nat.le_refl _)
    have hdn : dn (fun i => decide (ee p l i = ee p l (12 * (best1 p l).1))) 400 = dn (fun i => decide (ee p l i = ee p l (12 * (best1 p l).1))) (12 * (best1 p l).1) := by
      have := dn_up (f := fun i => decide (ee p l i = ee p l (12 * (best1 p l).1))) (c := 12 * (best1 p l).1) (fun i hi => decide_eq_true (hF i hi)) (400 - 12 * (best1 p l).1)
      have e : 12 * (best1 p l).1 + (400 - 12 * (best1 p l).1) = 400 := by omega
      rwa [e] at this
    rw [hdn] at hw
    exact ev_seq (Eq.trans (ev_if2 (S1 := S) hcond) ev_nil) (ev_seq (ev_set ev_c) (ev_seq (ev_while hw) (ev_ret (ev_var rfl))))
  · rw [if_neg hF]
    have hn : n ≠ 1 := fun e => hF (hflat 300 (by omega) (ee p l 300) fun i hi => by
      have h := hn2.mp e
      cases i with
      | zero => rfl
      | succ i => exact h _ (List.mem_map_of_mem (List.mem_range.mpr (show i < 120 by omega)))).1
    have hb : (!((n : Int) == 1)) = true := by
      have : ¬ ((n : Int) = 1) := by omega
      simpa using this
    rw [hb] at hcond
    exact ev_seqr (Eq.trans (ev_if1 (S1 := S) hcond) (ev_ret ev_c))
theorem cheaper_sem {s q : Nat} {g : Int} (hr : ∀ S, f_round_of [.d (osh p l).d] S = .ok (.d (.tuple [nI s, nI q, .int g, .tuple (tabD (pcs p l) (s + q))])) S) (hs : s + q ≤ 400) : f_cheaper_more [.d (osh p l).d] S = .ok (.d (.tuple (((List.range (s + q)).filter fun n => decide (P1 (pcs p l) (n + 1) < P1 (pcs p l) n)).map nI))) S := by
  refine run_ret0 (ws := [.d (osh p l).d]) (nn := 6) (ar := 1) ?_
  show b_cheaper_more [some (.d (osh p l).d), none, none, none, none, none] S = _
  have hat : ∀ k, k < s + q → ixD (.tuple (tabD (pcs p l) (s + q))) (nI k) = some (.int (P1 (pcs p l) k)) := fun k h => tab_at h
  refine ev_seq (ev_asg (ev_call1 (ev_var rfl) (hr S)) rfl) (ev_ret (ev_b1 (ev_fz (ev_lc (ev_range (n := s + q) (ev_bin (ev_var rfl) (ev_var rfl) rfl rfl rfl) (by rw [Int.natCast_add]) (by omega)) (lc_some (enc := nI) (g := nI) _ _ fun n hn => ?_))) rfl rfl))
  have hn := List.mem_range.mp hn
  refine ⟨_, rfl, ev_cmp (ev_call2 (ev_var rfl) (ev_bin (ev_var rfl) ev_c rfl rfl rfl) (mprice_sem o (n := n + 1) (Nat.le_trans (show n + 1 ≤ 401 by omega) (by decide)))) (ev_bin (ev_var rfl) (ev_var rfl) rfl rfl (hat n hn)) rfl rfl (ltD_lt _ _), fun _ => ev_var rfl⟩
end
end DL

set_option Elab.async false
set_option linter.all false
set_option maxRecDepth 100000
set_option maxHeartbeats 4000000
namespace DL
open PySem PySem.Spec PyProof.Rows L2
noncomputable def q1 : SF := (sSet 1 (eCall 1 f__law_bag (lCons (eVar 0) lNil)))
noncomputable def q2_1 : SF := (sSet 3 (eIf (tCmpB gtD (eVar 2) (eC (.int 0))) (eCall 1 f__law_one_list (lCons (eVar 1) lNil)) (eTup (lCons (eTup (lCons (eTup (lCons (eC (.str (PySem.Str.ofString "bun"))) (lCons (eBin addD (eC (.int 1)) (eCall 2 f__law_take (lCons (eVar 1) (lCons (eC (.int 9)) lNil)))) lNil))) lNil)) (lCons (eTup lNil) lNil)))))
noncomputable def q2_2 : SF := (sAsg (eTup (lCons (eCall 2 f__law_table (lCons (eVar 3) (lCons (eC (.int 420)) lNil))) (lCons (eCall 1 f__law_best (lCons (eVar 3) lNil)) lNil))) (gTp 2 (gsCons (gNm 4) (gsCons (gTp 2 (gsCons (gNm 5) (gsCons (gNm 6) gsNil))) gsNil))))
noncomputable def q2_3 : SF := (sSet 7 (eFz (mLc (iRange1 (lCons (eC (.int 421)) lNil)) (gNm 14) bYes (eBin subD (eBin mulD (eBin ixD (eVar 4) (eVar 14)) (eVar 5)) (eBin mulD (eVar 6) (eVar 14))) [14])))
noncomputable def q2_4 : SF := (sAsg (eCall 1 f_round_of (lCons (eVar 3) lNil)) (gTp 4 (gsCons (gNm 8) (gsCons (gNm 9) (gsCons (gNm 10) (gsCons (gNm 11) gsNil))))))
noncomputable def q2_5 : SF := (sSet 12 (eFz (mLc (iRange1 (lCons (eC (.int 420)) lNil)) (gNm 14) (tCmpB ltD (eBin ixD (eVar 4) (eBin addD (eVar 14) (eC (.int 1)))) (eBin ixD (eVar 4) (eVar 14))) (eVar 14) [14])))
noncomputable def q2_6 : SF := (sSet 13 (eFz (mLst (lCons (eTup (lCons (eIdx (eVar 7) (eB maxLG (lCons (eVar 7) lNil))) (lCons (eB maxLG (lCons (eVar 7) lNil)) lNil))) (lCons (eCall 1 f__law_even (lCons (eVar 7) lNil)) (lCons (eB tupG (lCons (eFz (mLc (iVal (eVar 12)) (gNm 14) (tCmpB ltD (eVar 14) (eBin addD (eVar 8) (eVar 9))) (eVar 14) [14])) lNil)) lNil))))))
noncomputable def q2_7 : SF := (sIf (tNotB (tTru (eCall 2 f__law_alike (lCons (eFz (mLst (lCons (eCall 1 f_worst (lCons (eVar 3) lNil)) (lCons (eCall 1 f_even_from (lCons (eVar 3) lNil)) (lCons (eCall 1 f_cheaper_more (lCons (eVar 3) lNil)) lNil))))) (lCons (eVar 13) lNil))))) (sRet (eC (.bool false))) sNil)
noncomputable def q2_8 : SF := (sIf (tCmpB neD (eFz (mLc (iRange2 (lCons (eVar 8) (lCons (eC (.int 380)) lNil))) (gNm 14) (tCmpB neD (eBin inDD (eVar 14) (eVar 12)) (eBin inDD (eBin addD (eVar 14) (eVar 9)) (eVar 12))) (eVar 14) [14])) (eFz (mLst lNil))) (sRet (eC (.bool false))) sNil)
noncomputable def q2_T : SF := (sSeq q2_1 (sSeq q2_2 (sSeq q2_3 (sSeq q2_4 (sSeq q2_5 (sSeq q2_6 (sSeq q2_7 q2_8)))))))
noncomputable def q2 : SF := (sFor (iRange1 (lCons (eC (.int 6)) lNil)) (gNm 2) q2_T)
noncomputable def q3 : SF := (sRet (eC (.bool true)))
theorem q_eq : b_law = (sSeq q1 (sSeq q2 q3)) := rfl

theorem filt_cut {f : Nat → Bool} {k N : Nat} (h : k ≤ N) : ((List.range N).filter f).filter (fun n => decide (n < k)) = (List.range k).filter f := by
  obtain ⟨m, rfl⟩ : ∃ m, N = k + m := ⟨N - k, by omega⟩
  rw [List.range_add, List.filter_append, List.filter_append]
  have h1 : ((List.range k).filter f).filter (fun n => decide (n < k)) = (List.range k).filter f := List.filter_eq_self.mpr fun n hn => decide_eq_true (List.mem_range.mp (List.mem_filter.mp hn).1)
  have h2 : (((List.range m).map (k + ·)).filter f).filter (fun n => decide (n < k)) = [] := List.filter_eq_nil_iff.mpr fun n hn => by
    obtain ⟨i, _, rfl⟩ := List.mem_map.mp (List.mem_filter.mp hn).1
    simp
  rw [h1, h2, List.append_nil]
theorem refls_nI : ∀ l : List Nat, refls (l.map nI) = true
  | [] => rfl
  | x :: l => by rw [List.map_cons, refls, refls_nI l]; rfl
theorem wgts_nI : ∀ l : List Nat, wgts (l.map nI) = l.length
  | [] => rfl
  | x :: l => by
    rw [List.map_cons, wgts, wgts_nI l, List.length_cons]
    show 1 + l.length = _
    omega
theorem in_nI (n : Nat) (F : List Nat) : inDD (nI n) (.list (F.map nI)) = some (.bool (decide (n ∈ F))) := by
  have hc : cmpOk (.list (F.map nI)) = true := (Cm.list (n := 0) fun x hx => by
    obtain ⟨i, _, rfl⟩ := List.mem_map.mp hx
    exact Cm.int).ok (by decide)
  have hc1 : cmpOk (nI n) = true := (Cm.int (i := n) (n := 0)).ok (by decide)
  unfold inDD
  dsimp only
  rw [hc, hc1]
  have he : ((F.map nI).any fun z => PyData.eqv z (nI n)) = decide (n ∈ F) := by
    rw [Bool.eq_iff_iff, List.any_map, List.any_eq_true, decide_eq_true_iff]
    constructor
    · rintro ⟨x, hx, h⟩
      have h : PyData.eqv (.int (x : Int)) (.int (n : Int)) = true := h
      rw [eqv_ii] at h
      have := of_decide_eq_true h
      have : x = n := by omega
      rw [← this]; exact hx
    · intro h
      refine ⟨n, h, ?_⟩
      show PyData.eqv (.int (n : Int)) (.int (n : Int)) = true
      rw [eqv_ii]
      simp
  rw [he]
  rfl
section
variable {S pre rest : Sto} {n t : Nat} {w0 w1 w2 w3 w4 w5 w6 w7 w8 w9 w10 w11 w12 w13 w14 : Option Wv}
theorem shop1_sem (hB : Bag pre (n + 20) rest S) : ∃ (p : Int) (l : List Pc) (S' : Sto), q2_1 [w0, some (.own pre.length), some (.d (nI t)), w3, w4, w5, w6, w7, w8, w9, w10, w11, w12, w13, w14] S = .fl (.nx [w0, some (.own pre.length), some (.d (nI t)), some (.d (osh p l).d), w4, w5, w6, w7, w8, w9, w10, w11, w12, w13, w14]) S' ∧ One1 p l ∧ Bag pre n rest S' := by
  by_cases h : t = 0
  · subst h
    obtain ⟨r, S1, e, r0, r1, hB1⟩ := take_sem (n := n + 19) (many := 9) hB (by decide) (small9000 (by decide))
    refine ⟨1 + r, [], S1, ?_, ⟨by omega, by simp, by simp, by simp⟩, hB1.mono (by omega)⟩
    refine ev_set (Eq.trans (ev_eif2 (S1 := S) (ev_cmp (ev_var rfl) ev_c rfl rfl rfl)) ?_)
    exact ev_tup (ws := [.d (.tuple [.tuple [.str (PySem.Str.ofString "bun"), .int (1 + r)]]), .d (.tuple [])]) (ev_lc1 (ev_tup (ev_lc1 (ev_tup (ev_lc1 ev_c (ev_lc1 (ev_bin ev_c (ev_call2 (ev_var rfl) ev_c e) rfl rfl rfl) ev_ln)) rfl (lo2 _ _)) ev_ln) rfl (lo1 _)) (ev_lc1 (ev_tup ev_ln rfl lo0) ev_ln)) rfl (lo2 _ _)
  · obtain ⟨p, l, S1, e, o, hB1⟩ := onelist_sem hB
    refine ⟨p, l, S1, ?_, o, hB1⟩
    have hgt : gtD (nI t) (.int 0) = some (.bool true) := by
      simp only [gtD, nI]
      rw [decide_eq_true (by omega)]
    exact ev_set (Eq.trans (ev_eif1 (S1 := S) (ev_cmp (ev_var rfl) ev_c rfl rfl hgt)) (ev_call1 (ev_var rfl) e))
theorem turn_sem (hB : Bag pre (n + 20) rest S) : ∃ (u3 u4 u5 u6 u7 u8 u9 u10 u11 u12 u13 : Option Wv) (S' : Sto), q2_T [w0, some (.own pre.length), some (.d (nI t)), w3, w4, w5, w6, w7, w8, w9, w10, w11, w12, w13, none] S = .fl (.nx [w0, some (.own pre.length), some (.d (nI t)), u3, u4, u5, u6, u7, u8, u9, u10, u11, u12, u13, none]) S' ∧ Bag pre n rest S' := by
  obtain ⟨p, l, S1, s1, o, hB1⟩ := shop1_sem (w0 := w0) (w3 := w3) (w4 := w4) (w5 := w5) (w6 := w6) (w7 := w7) (w8 := w8) (w9 := w9) (w10 := w10) (w11 := w11) (w12 := w12) (w13 := w13) (w14 := none) hB
  have hm := mm_bd o
  obtain ⟨M, j, htop⟩ := top_ok (E := ee p l) (m := (best1 p l).1) hm.1 (ee_le o)
  obtain ⟨s, q, g, hr, hs, hq1, hq2, hround⟩ := round_sem o
  have ht1 := htop (best1 p l).1 (Nat.le_refl _)
  have ht2 := htop 421 (by omega)
  have hat : ∀ k, k < 421 → ixD (.list (tabD (pcs p l) 421)) (nI k) = some (.int (P1 (pcs p l) k)) := fun k h => tab_at h
  have s2 : q2_2 [w0, some (.own pre.length), some (.d (nI t)), some (.d (osh p l).d), w4, w5, w6, w7, w8, w9, w10, w11, w12, w13, none] S1 = .fl (.nx [w0, some (.own pre.length), some (.d (nI t)), some (.d (osh p l).d), some (.d (.list (tabD (pcs p l) 421))), some (.d (nI (best1 p l).1)), some (.d (.int (best1 p l).2)), w7, w8, w9, w10, w11, w12, w13, none]) S1 := ev_asg (ev_tup (ev_lc1 (ev_call2 (ev_var rfl) ev_c (ltable_sem o (n := 420) (by decide))) (ev_lc1 (ev_call1 (ev_var rfl) (lbest_sem o)) ev_ln)) rfl (lo2 _ _)) rfl
  have hlc := left_lc (S := S1) o (N := 421) (by decide) (ρ := [w0, some (.own pre.length), some (.d (nI t)), some (.d (osh p l).d), some (.d (.list (tabD (pcs p l) 421))), some (.d (nI (best1 p l).1)), some (.d (.int (best1 p l).2)), w7, w8, w9, w10, w11, w12, w13, none]) (i := 4) (j := 5) (k := 6) (x := 14) fun n => ⟨_, rfl, rfl, rfl, rfl, rfl⟩
  have s3 : q2_3 [w0, some (.own pre.length), some (.d (nI t)), some (.d (osh p l).d), some (.d (.list (tabD (pcs p l) 421))), some (.d (nI (best1 p l).1)), some (.d (.int (best1 p l).2)), w7, w8, w9, w10, w11, w12, w13, none] S1 = .fl (.nx [w0, some (.own pre.length), some (.d (nI t)), some (.d (osh p l).d), some (.d (.list (tabD (pcs p l) 421))), some (.d (nI (best1 p l).1)), some (.d (.int (best1 p l).2)), some (.d (.list (eL (ee p l) 421))), w8, w9, w10, w11, w12, w13, none]) S1 := ev_set (ev_fz (ev_lc (ev_range (n := 421) ev_c rfl (by decide)) hlc))
  have s4 : q2_4 [w0, some (.own pre.length), some (.d (nI t)), some (.d (osh p l).d), some (.d (.list (tabD (pcs p l) 421))), some (.d (nI (best1 p l).1)), some (.d (.int (best1 p l).2)), some (.d (.list (eL (ee p l) 421))), w8, w9, w10, w11, w12, w13, none] S1 = .fl (.nx [w0, some (.own pre.length), some (.d (nI t)), some (.d (osh p l).d), some (.d (.list (tabD (pcs p l) 421))), some (.d (nI (best1 p l).1)), some (.d (.int (best1 p l).2)), some (.d (.list (eL (ee p l) 421))), some (.d (nI s)), some (.d (nI q)), some (.d (.int g)), some (.d (.tuple (tabD (pcs p l) (s + q)))), w12, w13, none]) S1 := ev_asg (ev_call1 (ev_var rfl) (hr S1)) rfl
  have hw := worst_sem (S := S1) o ht1.1 ht1.2
  have hev := even_sem (S := S1) o
  have hlev := leven_sem (S := S1) o
  have hch := cheaper_sem (S := S1) o hr (by omega)
  have hcL : cmpOk (.list (eL (ee p l) 421)) = true := (Cm.list (n := 0) fun x hx => by
    obtain ⟨i, _, rfl⟩ := List.mem_map.mp hx
    exact Cm.int).ok (by decide)
  have hfl : lcRun (gNm 14) (tCmpB ltD (eBin ixD (eVar 4) (eBin addD (eVar 14) (eC (.int 1)))) (eBin ixD (eVar 4) (eVar 14))) (eVar 14) [w0, some (.own pre.length), some (.d (nI t)), some (.d (osh p l).d), some (.d (.list (tabD (pcs p l) 421))), some (.d (nI (best1 p l).1)), some (.d (.int (best1 p l).2)), some (.d (.list (eL (ee p l) 421))), some (.d (nI s)), some (.d (nI q)), some (.d (.int g)), some (.d (.tuple (tabD (pcs p l) (s + q)))), w12, w13, none] ((List.range 420).map fun (i : Nat) => PyData.int ((i : Nat) : Int)) [] S1 = .ok (((List.range 420).filter fun n => decide (P1 (pcs p l) (n + 1) < P1 (pcs p l) n)).map nI) S1 :=
    lc_some (enc := nI) (g := nI) _ _ fun n hn => by
      have hn := List.mem_range.mp hn
      exact ⟨_, rfl, ev_cmp (ev_bin (ev_var rfl) (ev_bin (ev_var rfl) ev_c rfl rfl rfl) rfl rfl (hat (n + 1) (by omega))) (ev_bin (ev_var rfl) (ev_var rfl) rfl rfl (hat n (by omega))) rfl rfl (ltD_lt _ _), fun _ => ev_var rfl⟩
  have hcut := filt_cut (f := fun n => decide (P1 (pcs p l) (n + 1) < P1 (pcs p l) n)) (k := s + q) (N := 420) (by omega)
  have hmem : ∀ k, k < 420 → decide (k ∈ ((List.range 420).filter fun n => decide (P1 (pcs p l) (n + 1) < P1 (pcs p l) n))) = decide (P1 (pcs p l) (k + 1) < P1 (pcs p l) k) := fun k hk => by
    rw [Bool.eq_iff_iff, decide_eq_true_iff, List.mem_filter, List.mem_range]
    simp [hk]
  have hper : ∀ k, s ≤ k → decide (P1 (pcs p l) (k + q + 1) < P1 (pcs p l) (k + q)) = decide (P1 (pcs p l) (k + 1) < P1 (pcs p l) k) := fun k hk => by
    have h1 := hround k hk
    have h2 := hround (k + 1) (by omega)
    have e : k + 1 + q = k + q + 1 := by omega
    rw [e] at h2
    rw [h1, h2, Bool.eq_iff_iff, decide_eq_true_iff, decide_eq_true_iff]
    omega
  have hlen : ((List.range (s + q)).filter fun n => decide (P1 (pcs p l) (n + 1) < P1 (pcs p l) n)).length ≤ 400 := by
    refine Nat.le_trans (List.length_filter_le _ _) ?_
    rw [List.length_range]
    omega
  generalize hFL : ((List.range 420).filter fun n => decide (P1 (pcs p l) (n + 1) < P1 (pcs p l) n)) = FL at *
  generalize hFS : ((List.range (s + q)).filter fun n => decide (P1 (pcs p l) (n + 1) < P1 (pcs p l) n)) = FS at *
  have s5 : q2_5 [w0, some (.own pre.length), some (.d (nI t)), some (.d (osh p l).d), some (.d (.list (tabD (pcs p l) 421))), some (.d (nI (best1 p l).1)), some (.d (.int (best1 p l).2)), some (.d (.list (eL (ee p l) 421))), some (.d (nI s)), some (.d (nI q)), some (.d (.int g)), some (.d (.tuple (tabD (pcs p l) (s + q)))), w12, w13, none] S1 = .fl (.nx [w0, some (.own pre.length), some (.d (nI t)), some (.d (osh p l).d), some (.d (.list (tabD (pcs p l) 421))), some (.d (nI (best1 p l).1)), some (.d (.int (best1 p l).2)), some (.d (.list (eL (ee p l) 421))), some (.d (nI s)), some (.d (nI q)), some (.d (.int g)), some (.d (.tuple (tabD (pcs p l) (s + q)))), some (.d (.list (FL.map nI))), w13, none]) S1 := ev_set (ev_fz (ev_lc (ev_range (n := 420) ev_c rfl (by decide)) hfl))
  have hl3 : lcRun (gNm 14) (tCmpB ltD (eVar 14) (eBin addD (eVar 8) (eVar 9))) (eVar 14) [w0, some (.own pre.length), some (.d (nI t)), some (.d (osh p l).d), some (.d (.list (tabD (pcs p l) 421))), some (.d (nI (best1 p l).1)), some (.d (.int (best1 p l).2)), some (.d (.list (eL (ee p l) 421))), some (.d (nI s)), some (.d (nI q)), some (.d (.int g)), some (.d (.tuple (tabD (pcs p l) (s + q)))), some (.d (.list (FL.map nI))), w13, none] (FL.map nI) [] S1 = .ok (FS.map nI) S1 := by
    have h := lc_some (S := S1) (enc := nI) (g := nI) (t := gNm 14) (c := tCmpB ltD (eVar 14) (eBin addD (eVar 8) (eVar 9))) (f := eVar 14) (ρ := [w0, some (.own pre.length), some (.d (nI t)), some (.d (osh p l).d), some (.d (.list (tabD (pcs p l) 421))), some (.d (nI (best1 p l).1)), some (.d (.int (best1 p l).2)), some (.d (.list (eL (ee p l) 421))), some (.d (nI s)), some (.d (nI q)), some (.d (.int g)), some (.d (.tuple (tabD (pcs p l) (s + q)))), some (.d (.list (FL.map nI))), w13, none]) (fun n => decide (n < s + q)) FL fun n hn => ⟨_, rfl, ev_cmp (ev_var rfl) (ev_bin (ev_var rfl) (ev_var rfl) rfl rfl rfl) rfl rfl (by
      show ltD (.int (n : Int)) (.int ((s : Int) + (q : Int))) = _
      rw [ltD_lt]
      have hb : decide ((n : Int) < (s : Int) + (q : Int)) = decide (n < s + q) := by
        rw [Bool.eq_iff_iff, decide_eq_true_iff, decide_eq_true_iff]
        omega
      rw [hb]), fun _ => ev_var rfl⟩
    rw [hcut] at h
    exact h
  have s6 : q2_6 [w0, some (.own pre.length), some (.d (nI t)), some (.d (osh p l).d), some (.d (.list (tabD (pcs p l) 421))), some (.d (nI (best1 p l).1)), some (.d (.int (best1 p l).2)), some (.d (.list (eL (ee p l) 421))), some (.d (nI s)), some (.d (nI q)), some (.d (.int g)), some (.d (.tuple (tabD (pcs p l) (s + q)))), some (.d (.list (FL.map nI))), w13, none] S1 = .fl (.nx [w0, some (.own pre.length), some (.d (nI t)), some (.d (osh p l).d), some (.d (.list (tabD (pcs p l) 421))), some (.d (nI (best1 p l).1)), some (.d (.int (best1 p l).2)), some (.d (.list (eL (ee p l) 421))), some (.d (nI s)), some (.d (nI q)), some (.d (.int g)), some (.d (.tuple (tabD (pcs p l) (s + q)))), some (.d (.list (FL.map nI))), some (.d (.list [.tuple [nI j, .int M], evenD p l, .tuple (FS.map nI)])), none]) S1 := by
    generalize eL (ee p l) 421 = L at *
    generalize evenD p l = ev at *
    refine ev_set (ev_fz (ev_lst (ws := [.d (.tuple [nI j, .int M]), .d ev, .d (.tuple (FS.map nI))]) ?_ rfl (lo3 _ _ _)))
    exact ev_lc1 (ev_tup (ev_lc1 (ev_idxv (ev_var rfl) (ev_b1 (ev_var rfl) rfl ht2.1) rfl (by rw [hcL]; rfl) ht2.2) (ev_lc1 (ev_b1 (ev_var rfl) rfl ht2.1) ev_ln)) rfl (lo2 _ _)) (ev_lc1 (ev_call1 (ev_var rfl) hlev) (ev_lc1 (ev_b1 (ev_fz (ev_lc (ev_val (ev_var rfl) rfl) hl3)) rfl rfl) ev_ln))
  have hal : f__law_alike [.d (.list [.tuple [nI j, .int M], evenD p l, .tuple (FS.map nI)]), .d (.list [.tuple [nI j, .int M], evenD p l, .tuple (FS.map nI)])] S1 = .ok (.d (.bool true)) S1 := by
    have he : refl? (evenD p l) = true ∧ wgt (evenD p l) = 1 := by
      unfold evenD
      split <;> exact ⟨rfl, rfl⟩
    refine alike_sem ?_ ?_
    · simp only [refl?, refls, refls_nI, he.1, nI, Bool.and_self]
    · simp only [wgt, wgts, wgts_nI, he.2, nI]
      omega
  have s7 : q2_7 [w0, some (.own pre.length), some (.d (nI t)), some (.d (osh p l).d), some (.d (.list (tabD (pcs p l) 421))), some (.d (nI (best1 p l).1)), some (.d (.int (best1 p l).2)), some (.d (.list (eL (ee p l) 421))), some (.d (nI s)), some (.d (nI q)), some (.d (.int g)), some (.d (.tuple (tabD (pcs p l) (s + q)))), some (.d (.list (FL.map nI))), some (.d (.list [.tuple [nI j, .int M], evenD p l, .tuple (FS.map nI)])), none] S1 = .fl (.nx [w0, some (.own pre.length), some (.d (nI t)), some (.d (osh p l).d), some (.d (.list (tabD (pcs p l) 421))), some (.d (nI (best1 p l).1)), some (.d (.int (best1 p l).2)), some (.d (.list (eL (ee p l) 421))), some (.d (nI s)), some (.d (nI q)), some (.d (.int g)), some (.d (.tuple (tabD (pcs p l) (s + q)))), some (.d (.list (FL.map nI))), some (.d (.list [.tuple [nI j, .int M], evenD p l, .tuple (FS.map nI)])), none]) S1 := by
    refine Eq.trans (ev_if2 (S1 := S1) ?_) ev_nil
    exact ev_not (p := true) (ev_tru (ev_call2 (ev_fz (ev_lst (ev_lc1 (ev_call1 (ev_var rfl) hw) (ev_lc1 (ev_call1 (ev_var rfl) hev) (ev_lc1 (ev_call1 (ev_var rfl) hch) ev_ln))) rfl (lo3 _ _ _))) (ev_var rfl) hal) rfl rfl)
  have s8 : q2_8 [w0, some (.own pre.length), some (.d (nI t)), some (.d (osh p l).d), some (.d (.list (tabD (pcs p l) 421))), some (.d (nI (best1 p l).1)), some (.d (.int (best1 p l).2)), some (.d (.list (eL (ee p l) 421))), some (.d (nI s)), some (.d (nI q)), some (.d (.int g)), some (.d (.tuple (tabD (pcs p l) (s + q)))), some (.d (.list (FL.map nI))), some (.d (.list [.tuple [nI j, .int M], evenD p l, .tuple (FS.map nI)])), none] S1 = .fl (.nx [w0, some (.own pre.length), some (.d (nI t)), some (.d (osh p l).d), some (.d (.list (tabD (pcs p l) 421))), some (.d (nI (best1 p l).1)), some (.d (.int (best1 p l).2)), some (.d (.list (eL (ee p l) 421))), some (.d (nI s)), some (.d (nI q)), some (.d (.int g)), some (.d (.tuple (tabD (pcs p l) (s + q)))), some (.d (.list (FL.map nI))), some (.d (.list [.tuple [nI j, .int M], evenD p l, .tuple (FS.map nI)])), none]) S1 := by
    refine Eq.trans (ev_if2 (S1 := S1) ?_) ev_nil
    have hz : lcRun (gNm 14) (tCmpB neD (eBin inDD (eVar 14) (eVar 12)) (eBin inDD (eBin addD (eVar 14) (eVar 9)) (eVar 12))) (eVar 14) [w0, some (.own pre.length), some (.d (nI t)), some (.d (osh p l).d), some (.d (.list (tabD (pcs p l) 421))), some (.d (nI (best1 p l).1)), some (.d (.int (best1 p l).2)), some (.d (.list (eL (ee p l) 421))), some (.d (nI s)), some (.d (nI q)), some (.d (.int g)), some (.d (.tuple (tabD (pcs p l) (s + q)))), some (.d (.list (FL.map nI))), some (.d (.list [.tuple [nI j, .int M], evenD p l, .tuple (FS.map nI)])), none] (((List.range (380 - s)).map fun i => s + i).map nI) [] S1 = .ok [] S1 := by
      have h := lc_some (S := S1) (enc := nI) (g := nI) (t := gNm 14) (c := tCmpB neD (eBin inDD (eVar 14) (eVar 12)) (eBin inDD (eBin addD (eVar 14) (eVar 9)) (eVar 12))) (f := eVar 14) (ρ := [w0, some (.own pre.length), some (.d (nI t)), some (.d (osh p l).d), some (.d (.list (tabD (pcs p l) 421))), some (.d (nI (best1 p l).1)), some (.d (.int (best1 p l).2)), some (.d (.list (eL (ee p l) 421))), some (.d (nI s)), some (.d (nI q)), some (.d (.int g)), some (.d (.tuple (tabD (pcs p l) (s + q)))), some (.d (.list (FL.map nI))), some (.d (.list [.tuple [nI j, .int M], evenD p l, .tuple (FS.map nI)])), none]) (fun _ => false) ((List.range (380 - s)).map fun i => s + i) fun k hk => by
        obtain ⟨i, hi, rfl⟩ := List.mem_map.mp hk
        have hi := List.mem_range.mp hi
        have a1 := in_nI (s + i) FL
        have a2 := in_nI (s + i + q) FL
        rw [hmem (s + i) (by omega)] at a1
        rw [hmem (s + i + q) (by omega), hper (s + i) (by omega)] at a2
        have hadd : addD (nI (s + i)) (nI q) = some (nI (s + i + q)) := by
          show some (PyData.int _) = some (PyData.int _)
          rw [Int.natCast_add (s + i) q]
        exact ⟨_, rfl, ev_cmp (ev_bin (ev_var rfl) (ev_var rfl) rfl rfl a1) (ev_bin (ev_bin (ev_var rfl) (ev_var rfl) rfl rfl hadd) (ev_var rfl) rfl rfl a2) rfl rfl (by rw [neD_bool]; simp), fun h => by cases h⟩
      rw [List.filter_eq_nil_iff.mpr (fun _ _ h => by cases h)] at h
      exact h
    exact ev_cmp (ev_fz (ev_lc (ev_rng2 (c := s) (m := 380 - s) (ev_lc1 (ev_var rfl) (ev_lc1 ev_c ev_ln)) rfl (by omega) (by omega) (by omega)) hz)) (ev_fz (ev_lst ev_ln rfl rfl)) rfl rfl rfl
  exact ⟨_, _, _, _, _, _, _, _, _, _, _, S1, ev_seq s1 (ev_seq s2 (ev_seq s3 (ev_seq s4 (ev_seq s5 (ev_seq s6 (ev_seq s7 s8)))))), hB1⟩
theorem turns_run : ∀ (ts : List Nat) (n : Nat) (S : Sto) (w2 w3 w4 w5 w6 w7 w8 w9 w10 w11 w12 w13 : Option Wv), Bag pre (n + 20 * ts.length) rest S → ∃ (u2 u3 u4 u5 u6 u7 u8 u9 u10 u11 u12 u13 : Option Wv) (S' : Sto), forRun (gNm 2) q2_T (ts.map nI) [w0, some (.own pre.length), w2, w3, w4, w5, w6, w7, w8, w9, w10, w11, w12, w13, none] S = .fl (.nx [w0, some (.own pre.length), u2, u3, u4, u5, u6, u7, u8, u9, u10, u11, u12, u13, none]) S' ∧ Bag pre n rest S'
  | [], n, S, w2, w3, w4, w5, w6, w7, w8, w9, w10, w11, w12, w13, hB => ⟨w2, w3, w4, w5, w6, w7, w8, w9, w10, w11, w12, w13, S, rfl, by simpa using hB⟩
  | x :: ts, n, S, w2, w3, w4, w5, w6, w7, w8, w9, w10, w11, w12, w13, hB => by
    have e : n + 20 * (x :: ts).length = n + 20 * ts.length + 20 := by rw [List.length_cons, Nat.mul_succ]; omega
    rw [e] at hB
    obtain ⟨u3, u4, u5, u6, u7, u8, u9, u10, u11, u12, u13, S1, h1, h2⟩ := turn_sem (t := x) (w0 := w0) (w3 := w3) (w4 := w4) (w5 := w5) (w6 := w6) (w7 := w7) (w8 := w8) (w9 := w9) (w10 := w10) (w11 := w11) (w12 := w12) (w13 := w13) hB
    obtain ⟨v2, v3, v4, v5, v6, v7, v8, v9, v10, v11, v12, v13, S2, h3, h4⟩ := turns_run ts n S1 (some (.d (nI x))) u3 u4 u5 u6 u7 u8 u9 u10 u11 u12 u13 h2
    exact ⟨v2, v3, v4, v5, v6, v7, v8, v9, v10, v11, v12, v13, S2, (for_step rfl h1).trans h3, h4⟩
end
theorem law_true : ∀ ns : List Int, ns.length ≤ 63 → (∀ z ∈ ns, Builtin.Int.intBits z ≤ 1048576) → ∃ S2, f_law [.d (.list (ns.map PyData.int))] [] = .ok (.d (.bool true)) S2 := fun ns _ _ => by
  obtain ⟨S1, e1, hB⟩ := bag_sem [] ns
  have hlen : (List.range 6).length = 6 := rfl
  obtain ⟨u2, u3, u4, u5, u6, u7, u8, u9, u10, u11, u12, u13, S2, hr, hB2⟩ := turns_run (pre := []) (w0 := some (.d (.list (ns.map PyData.int)))) (List.range 6) 0 S1 none none none none none none none none none none none none (hB.mono (by rw [hlen]; decide))
  have key : b_law ([some (.d (.list (ns.map PyData.int)))] ++ List.replicate 14 none) [] = .fl (.rt (.d (.bool true))) S2 := by
    rw [q_eq]
    exact ev_seq (ev_set (ev_call1 (ev_var rfl) e1)) (ev_seq (ev_for (ev_range (n := 6) ev_c rfl (by decide)) hr) (ev_ret ev_c))
  exact ⟨_, run_ret (nn := 15) (ar := 1) (ws := [.d (.list (ns.map PyData.int))]) key⟩
end DL

set_option Elab.async false
set_option linter.all false
set_option maxRecDepth 100000
set_option maxHeartbeats 4000000
open PySem PySem.W PyProof.Rows
set_option maxRecDepth 100000 in
set_option maxHeartbeats 0 in
theorem PySem.Challenge.cw_basketfair_k29_greatest_excess_and_cheap_holds : PySem.Challenge.rw_basketfair_k29_greatest_excess_and_cheap.Holds := by
  w_on; o_law; k_head; (case hw => w_witness2)
  k_fill
  refine DL.walkG0 (l := PySem.Challenge.rw_basketfair_k29_greatest_excess_and_cheap) rfl rfl (fun w h Y => PySem.W.kIn_of Y) ?F
  case F =>
    intro w mg fa h KX G hmg
    refine' DL.all_mk KX G hmg DL.law_true ?xa_Refused ?xb_Refused ?xc_Refused ?xd_Refused ?xe_Refused ?xf_Refused ?xg_Refused ?xh_Refused ?xi_Refused ?xj_Refused ?xk_Refused ?xl_Refused ?xm_Refused ?xn_Refused ?xo_Refused ?xp_Refused ?xq_Refused ?xr_Refused ?xs_Refused ?xtwhy_Refused ?z_abs ?z_bool ?z_enumerate ?z_int ?z_isinstance ?z_len ?z_list ?z_max ?z_min ?z_range ?z_set ?z_sorted ?z_str ?z_tuple ?z_zip ?v_MOST_OF_DEAL ?a_one_piece ?l_one_piece ?c_one_piece ?k_one_piece ?a_choices_of ?l_choices_of ?c_choices_of ?k_choices_of ?a_need_one ?l_need_one ?c_need_one ?k_need_one ?a_plain_choices ?l_plain_choices ?c_plain_choices ?k_plain_choices ?a_best_rate ?l_best_rate ?c_best_rate ?k_best_rate ?a_table_of ?l_table_of ?c_table_of ?k_table_of ?a_calm_from ?l_calm_from ?c_calm_from ?k_calm_from ?a_many_price ?l_many_price ?c_many_price ?k_many_price ?a_excess ?l_excess ?c_excess ?k_excess ?a_gain_of ?l_gain_of ?c_gain_of ?k_gain_of ?a_round_of ?l_round_of ?c_round_of ?k_round_of ?a_worst ?l_worst ?c_worst ?k_worst ?a_even_from ?l_even_from ?c_even_from ?k_even_from ?a_cheaper_more ?l_cheaper_more ?c_cheaper_more ?k_cheaper_more ?a__law_bag ?l__law_bag ?c__law_bag ?k__law_bag ?a__law_take ?l__law_take ?c__law_take ?k__law_take ?a__law_some ?l__law_some ?c__law_some ?k__law_some ?a__law_alike ?l__law_alike ?c__law_alike ?k__law_alike ?a__law_piece ?l__law_piece ?c__law_piece ?k__law_piece ?a__law_choices ?l__law_choices ?c__law_choices ?k__law_choices ?a__law_one_list ?l__law_one_list ?c__law_one_list ?k__law_one_list ?a__law_table ?l__law_table ?c__law_table ?k__law_table ?a__law_best ?l__law_best ?c__law_best ?k__law_best ?a__law_even ?l__law_even ?c__law_even ?k__law_even ?a_law ?l_law ?c_law ?k_law
    (case xa_Refused => k_is)
    (case xb_Refused => k_is)
    (case xc_Refused => first | k_is | kernel_rfl | rfl | decide +kernel)
    (case xd_Refused => k_is)
    (case xe_Refused => k_is)
    (case xf_Refused => k_is)
    (case xg_Refused => k_is)
    (case xh_Refused => k_is)
    (case xi_Refused => k_is)
    (case xj_Refused => k_is)
    (case xk_Refused => k_is)
    (case xl_Refused => first | k_is | kernel_rfl | rfl | decide +kernel)
    (case xm_Refused => k_is)
    (case xn_Refused => first | k_is | kernel_rfl | rfl | decide +kernel)
    (case xo_Refused => k_is)
    (case xp_Refused => k_is)
    (case xq_Refused => first | k_is | kernel_rfl | rfl | decide +kernel)
    (case xr_Refused => k_is)
    (case xs_Refused => k_is)
    (case xtwhy_Refused => k_is)
    (case z_abs => k_is)
    (case z_bool => k_is)
    (case z_enumerate => k_is)
    (case z_int => k_is)
    (case z_isinstance => k_is)
    (case z_len => k_is)
    (case z_list => k_is)
    (case z_max => k_is)
    (case z_min => k_is)
    (case z_range => k_is)
    (case z_set => k_is)
    (case z_sorted => k_is)
    (case z_str => k_is)
    (case z_tuple => k_is)
    (case z_zip => k_is)
    (case v_MOST_OF_DEAL => k_is)
    (case a_one_piece => k_is)
    (case l_one_piece => k_is)
    (case c_one_piece => k_is)
    (case k_one_piece => k_is)
    (case a_choices_of => k_is)
    (case l_choices_of => k_is)
    (case c_choices_of => k_is)
    (case k_choices_of => k_is)
    (case a_need_one => k_is)
    (case l_need_one => k_is)
    (case c_need_one => k_is)
    (case k_need_one => k_is)
    (case a_plain_choices => k_is)
    (case l_plain_choices => k_is)
    (case c_plain_choices => k_is)
    (case k_plain_choices => k_is)
    (case a_best_rate => k_is)
    (case l_best_rate => k_is)
    (case c_best_rate => k_is)
    (case k_best_rate => k_is)
    (case a_table_of => k_is)
    (case l_table_of => k_is)
    (case c_table_of => k_is)
    (case k_table_of => k_is)
    (case a_calm_from => k_is)
    (case l_calm_from => k_is)
    (case c_calm_from => k_is)
    (case k_calm_from => k_is)
    (case a_many_price => k_is)
    (case l_many_price => k_is)
    (case c_many_price => k_is)
    (case k_many_price => k_is)
    (case a_excess => k_is)
    (case l_excess => k_is)
    (case c_excess => k_is)
    (case k_excess => k_is)
    (case a_gain_of => k_is)
    (case l_gain_of => k_is)
    (case c_gain_of => k_is)
    (case k_gain_of => k_is)
    (case a_round_of => k_is)
    (case l_round_of => k_is)
    (case c_round_of => k_is)
    (case k_round_of => k_is)
    (case a_worst => k_is)
    (case l_worst => k_is)
    (case c_worst => k_is)
    (case k_worst => k_is)
    (case a_even_from => k_is)
    (case l_even_from => k_is)
    (case c_even_from => k_is)
    (case k_even_from => k_is)
    (case a_cheaper_more => k_is)
    (case l_cheaper_more => k_is)
    (case c_cheaper_more => k_is)
    (case k_cheaper_more => k_is)
    (case a__law_bag => k_is)
    (case l__law_bag => k_is)
    (case c__law_bag => k_is)
    (case k__law_bag => k_is)
    (case a__law_take => k_is)
    (case l__law_take => k_is)
    (case c__law_take => k_is)
    (case k__law_take => k_is)
    (case a__law_some => k_is)
    (case l__law_some => k_is)
    (case c__law_some => k_is)
    (case k__law_some => k_is)
    (case a__law_alike => k_is)
    (case l__law_alike => k_is)
    (case c__law_alike => k_is)
    (case k__law_alike => k_is)
    (case a__law_piece => k_is)
    (case l__law_piece => k_is)
    (case c__law_piece => k_is)
    (case k__law_piece => k_is)
    (case a__law_choices => k_is)
    (case l__law_choices => k_is)
    (case c__law_choices => k_is)
    (case k__law_choices => k_is)
    (case a__law_one_list => k_is)
    (case l__law_one_list => k_is)
    (case c__law_one_list => k_is)
    (case k__law_one_list => k_is)
    (case a__law_table => k_is)
    (case l__law_table => k_is)
    (case c__law_table => k_is)
    (case k__law_table => k_is)
    (case a__law_best => k_is)
    (case l__law_best => k_is)
    (case c__law_best => k_is)
    (case k__law_best => k_is)
    (case a__law_even => k_is)
    (case l__law_even => k_is)
    (case c__law_even => k_is)
    (case k__law_even => k_is)
    (case a_law => k_is)
    (case l_law => k_is)
    (case c_law => k_is)
    (case k_law => k_is)

