import PyProof.Rows.All
import Wide.All
import OpenK.AllK
import Wide.FinOn
import PyProof.EqAt
import PyProof.EqKinds
import PyProof.TupleCall
import HandS.ForMost
import HandS.ForExc
import HandS.Flow
import HandS.IsInst
import HandS.Wide
import HandS.Lambda
import HandS.TupAny
import HandS.Zip
import KE.GoesEnum
import KE.KDictZip
import PyProof.EnumMake
import PyProof.ListNew
import HandS.Text
import PyProof.CollectWalk
import PyProof.Rows.FactsT1
import HandS.Dict
import HandS.Star
import HandS.Replace
import PyProof.ListStr
import HandS.RaiseMore
import HandS.Ends
import HandS.EndBits
import HandS.ExcInit
import HandS.WordsExc
import KE.KExcSuper
import KE.KSuper
import HandS.ExcField
import HandS.EndTab
import HandS.Codes
import PySem.Challenge.RW_basketfair_k35_fractions
set_option Elab.async false
set_option linter.all false
set_option maxRecDepth 100000
set_option maxHeartbeats 4000000
/-! D1: data, stores, results; what represents what; frames of heaps. -/
namespace DL
open PySem PySem.Spec PyProof.Rows L2

/-- what stays as it is whatever is done: tuples, things that are locked -/
def Imm : HO → Prop
  | .tup _ => True
  | .frz _ _ => True
  | .ext _ => True
  | .xd _ => True
  | _ => False
def Stb (H H' : Hp) : Prop := ∀ a o, Imm o → H a = some o → H' a = some o
theorem Stb.refl (H : Hp) : Stb H H := fun _ _ _ h => h
theorem Stb.trans {H H1 H2 : Hp} (a : Stb H H1) (b : Stb H1 H2) : Stb H H2 := fun x o i h => b x o i (a x o i h)
def WrL (K : PySem.W.Frag) (a : Addr) (xs : List V) : Prop :=
  ∃ (o : Obj) (its : Array Value) (n : Nat), K.lookup a = some o ∧ o.cls = .type "list" ∧ o.dict = none ∧ o.data = .seq its n ∧ its.size ≤ sizeLine ∧ Vals xs its.toList
def FzL (K : PySem.W.Frag) (H : Hp) (a : Addr) (xs : List V) : Prop := (∃ o, H a = some (.frz o (.lst xs))) ∨ WrL K a xs
theorem FzL.sq {K : PySem.W.Frag} {H : Hp} {a : Addr} {xs : List V} (h : FzL K H a xs) : SqL K H a xs := by
  rcases h with ⟨o, h⟩ | h
  · exact .inl (.inr ⟨o, h⟩)
  · exact .inr h
theorem FzL.stb {K : PySem.W.Frag} {H H' : Hp} {a : Addr} {xs : List V} (s : Stb H H') (h : FzL K H a xs) : FzL K H' a xs := by
  rcases h with ⟨o, h⟩ | h
  · exact .inl ⟨o, s _ _ trivial h⟩
  · exact .inr h
theorem sqT_stb {K : PySem.W.Frag} {H H' : Hp} {a : Addr} {xs : List V} (s : Stb H H') (h : SqT K H a xs) : SqT K H' a xs := by
  rcases h with (h | ⟨o, h⟩) | h
  · exact .inl (.inl (s _ _ trivial h))
  · exact .inl (.inr ⟨o, s _ _ trivial h⟩)
  · exact .inr h

def kD : Key → PyData
  | .inl i => .int i
  | .inr x => .str x
/-- a text of the model: not too long, of signs that are -/
def strG (x : Str) : Bool := decide (x.length ≤ sizeLine) && PyData.strOk x
theorem strG_len {x : Str} (h : strG x = true) : x.length ≤ sizeLine := of_decide_eq_true (Bool.and_eq_true_iff.mp h).1
theorem strG_ok {x : Str} (h : strG x = true) : PyData.strOk x = true := (Bool.and_eq_true_iff.mp h).2
theorem strG_mk {x : Str} (h : x.length ≤ sizeLine) (h' : PyData.strOk x = true) : strG x = true := Bool.and_eq_true_iff.mpr ⟨decide_eq_true h, h'⟩
mutual
/-- a value stands for data that nobody changes -/
inductive Rep (K : PySem.W.Frag) (H : Hp) : V → PyData → Prop
  | non : Rep K H .non .none
  | bl (b : Bool) : Rep K H (.bl b) (.bool b)
  | int (i : Int) : Rep K H (.int i) (.int i)
  | str (x : Str) : strG x = true → Rep K H (.str x) (.str x)
  | lst {a : Addr} {xs : List V} {ds : List PyData} : FzL K H a xs → Reps K H xs ds → Rep K H (.ref a) (.list ds)
  | tup {a : Addr} {xs : List V} {ds : List PyData} : SqT K H a xs → Reps K H xs ds → Rep K H (.ref a) (.tuple ds)
  | dic {a : Addr} {o : Obj} {kvs : List (Key × V)} {ps : List (PyData × PyData)} : H a = some (.frz o (.dK kvs)) → RepKV K H kvs ps → Rep K H (.ref a) (.dict ps)
inductive Reps (K : PySem.W.Frag) (H : Hp) : List V → List PyData → Prop
  | nil : Reps K H [] []
  | cons {v : V} {vs : List V} {d : PyData} {ds : List PyData} : Rep K H v d → Reps K H vs ds → Reps K H (v :: vs) (d :: ds)
inductive RepKV (K : PySem.W.Frag) (H : Hp) : List (Key × V) → List (PyData × PyData) → Prop
  | nil : RepKV K H [] []
  | cons {k : Key} {v : V} {vs : List (Key × V)} {d : PyData} {ds : List (PyData × PyData)} : Rep K H v d → RepKV K H vs ds → RepKV K H ((k, v) :: vs) ((kD k, d) :: ds)
end
section
variable {K : PySem.W.Frag} {H H' : Hp}
mutual
theorem Rep.stb (s : Stb H H') : ∀ (d : PyData) {v : V}, Rep K H v d → Rep K H' v d
  | .none, _, h => by cases h; exact .non
  | .bool _, _, h => by cases h; exact .bl _
  | .int _, _, h => by cases h; exact .int _
  | .str _, _, h => by
    cases h with
    | str _ z => exact .str _ z
  | .list ds, _, h => by
    cases h with
    | lst h1 h2 => exact .lst (h1.stb s) (Reps.stb s ds h2)
  | .tuple ds, _, h => by
    cases h with
    | tup h1 h2 => exact .tup (sqT_stb s h1) (Reps.stb s ds h2)
  | .dict ds, _, h => by
    cases h with
    | dic h1 h2 => exact .dic (s _ _ trivial h1) (RepKV.stb s ds h2)
theorem Reps.stb (s : Stb H H') : ∀ (ds : List PyData) {vs : List V}, Reps K H vs ds → Reps K H' vs ds
  | [], _, h => by cases h; exact .nil
  | d :: ds, _, h => by
    cases h with
    | cons h1 h2 => exact .cons (Rep.stb s d h1) (Reps.stb s ds h2)
theorem RepKV.stb (s : Stb H H') : ∀ (ds : List (PyData × PyData)) {vs : List (Key × V)}, RepKV K H vs ds → RepKV K H' vs ds
  | [], _, h => by cases h; exact .nil
  | (_, d) :: ds, _, h => by
    cases h with
    | cons h1 h2 => exact .cons (Rep.stb s d h1) (RepKV.stb s ds h2)
end
theorem Reps.length : ∀ {vs : List V} {ds : List PyData}, Reps K H vs ds → vs.length = ds.length
  | [], _, h => by cases h; rfl
  | _ :: vs, _, h => by
    cases h with
    | cons h1 h2 => simp [Reps.length h2]
theorem Reps.get : ∀ {vs : List V} {ds : List PyData} {i : Nat} {d : PyData}, Reps K H vs ds → ds[i]? = some d → ∃ v, vs[i]? = some v ∧ Rep K H v d
  | [], _, i, d, h, e => by cases h; simp at e
  | _ :: vs, _, 0, d, h, e => by
    cases h with
    | cons h1 h2 =>
      simp at e
      subst e
      exact ⟨_, rfl, h1⟩
  | _ :: vs, _, i + 1, d, h, e => by
    cases h with
    | cons h1 h2 =>
      obtain ⟨v, e1, e2⟩ := Reps.get (i := i) (d := d) h2 (by simpa using e)
      exact ⟨v, by simpa using e1, e2⟩
theorem Reps.getV : ∀ {vs : List V} {ds : List PyData} {i : Nat} {v : V}, Reps K H vs ds → vs[i]? = some v → ∃ d, ds[i]? = some d ∧ Rep K H v d
  | [], _, i, d, h, e => by simp at e
  | _ :: vs, _, 0, d, h, e => by
    cases h with
    | cons h1 h2 =>
      simp at e
      subst e
      exact ⟨_, rfl, h1⟩
  | _ :: vs, _, i + 1, d, h, e => by
    cases h with
    | cons h1 h2 =>
      obtain ⟨v, e1, e2⟩ := Reps.getV (i := i) (v := d) h2 (by simpa using e)
      exact ⟨v, by simpa using e1, e2⟩
theorem Reps.append : ∀ {vs us : List V} {ds es : List PyData}, Reps K H vs ds → Reps K H us es → Reps K H (vs ++ us) (ds ++ es)
  | [], _, _, _, h, h' => by cases h; exact h'
  | _ :: vs, _, _, _, h, h' => by
    cases h with
    | cons h1 h2 => exact .cons h1 (Reps.append h2 h')
theorem Reps.take : ∀ {vs : List V} {ds : List PyData} (n : Nat), Reps K H vs ds → Reps K H (vs.take n) (ds.take n)
  | _, _, 0, _ => .nil
  | [], _, _ + 1, h => by cases h; exact .nil
  | _ :: vs, _, n + 1, h => by
    cases h with
    | cons h1 h2 => exact .cons h1 (Reps.take n h2)
theorem Reps.drop : ∀ {vs : List V} {ds : List PyData} (n : Nat), Reps K H vs ds → Reps K H (vs.drop n) (ds.drop n)
  | _, _, 0, h => h
  | [], _, _ + 1, h => by cases h; exact .nil
  | _ :: vs, _, n + 1, h => by
    cases h with
    | cons h1 h2 => exact Reps.drop n h2
theorem Reps.set : ∀ {vs : List V} {ds : List PyData} (n : Nat) {v : V} {d : PyData}, Reps K H vs ds → Rep K H v d → Reps K H (vs.set n v) (ds.set n d)
  | [], _, _, _, _, h, _ => by cases h; exact .nil
  | _ :: vs, _, 0, _, _, h, h' => by
    cases h with
    | cons h1 h2 => exact .cons h' h2
  | _ :: vs, _, n + 1, _, _, h, h' => by
    cases h with
    | cons h1 h2 => exact .cons h1 (Reps.set n h2 h')
theorem Reps.reverse : ∀ {vs : List V} {ds : List PyData}, Reps K H vs ds → Reps K H vs.reverse ds.reverse
  | [], _, h => by cases h; exact .nil
  | _ :: vs, _, h => by
    cases h with
    | cons h1 h2 =>
      rw [List.reverse_cons, List.reverse_cons]
      exact Reps.append (Reps.reverse h2) (.cons h1 .nil)
end

/-- a def's own changing things; a list that was locked -/
inductive MO where
  | lst (l : List PyData) | frz (l : List PyData) | tab (P : Addr) (q : Str)
abbrev Sto := List MO
/-- what a name may hold: data, or the k-th of the changing things -/
inductive Wv where
  | d (x : PyData) | own (k : Nat) | fn (f c : Addr) (q : Str)
abbrev Rho := List (Option Wv)
/-- an error: its class, its fields -/
structure Xc where
  c : Str
  fs : List (Str × PyData)
inductive Rs (α : Type) where
  | bad | ok (a : α) (S : Sto) | exc (x : Xc) (S : Sto)
@[simp] def Rs.bind {α β : Type} (r : Rs α) (k : α → Sto → Rs β) : Rs β := match r with
  | .bad => .bad
  | .ok a S => k a S
  | .exc x S => .exc x S
abbrev EF := Rho → Sto → Rs Wv

def ObR (K : PySem.W.Frag) (H : Hp) (a : Addr) : MO → Prop
  | .lst l => ∃ vs, H a = some (.lst vs) ∧ Reps K H vs l
  | .frz l => ∃ vs o, H a = some (.frz o (.lst vs)) ∧ Reps K H vs l
  | .tab P q => a = P ∧ LamX.TabS H P q
def RepW (K : PySem.W.Frag) (ad : List Addr) (H : Hp) (v : V) : Wv → Prop
  | .d x => Rep K H v x
  | .own k => ∃ a, ad[k]? = some a ∧ v = .ref a
  | .fn f c q => v = .ref f ∧ H c = some (LamX.CodeO c q)
abbrev RepWs (K : PySem.W.Frag) (ad : List Addr) (H : Hp) : List V → List Wv → Prop := Paired (RepW K ad H)
structure RS (K : PySem.W.Frag) (ad : List Addr) (H : Hp) (S : Sto) : Prop where
  len : ad.length = S.length
  nd : ad.Nodup
  ob : ∀ (k : Nat) (o : MO), S[k]? = some o → ∃ a, ad[k]? = some a ∧ ObR K H a o
structure Sig (K : PySem.W.Frag) (ad : List Addr) (H : Hp) (σ : L2.St) (ρ : Rho) : Prop where
  len : σ.length = ρ.length
  sl : ∀ (i : Nat) (w : Wv), ρ[i]? = some (some w) → ∃ v, σ[i]? = some (some v) ∧ RepW K ad H v w
/-- what stood there stands; a table of code objects may have grown -/
def Kept (o : HO) (r : Option HO) : Prop := match o with
  | .tbl _ => ∃ ps, r = some (.tbl ps)
  | o => r = some o
theorem Kept.of {o : HO} {r : Option HO} (h : r = some o) : Kept o r := by
  cases o <;> first | exact h | exact ⟨_, h⟩
theorem Kept.some {o : HO} {r : Option HO} (h : Kept o r) : ∃ u, r = some u := by
  cases o <;> first | exact ⟨_, h⟩ | exact h.elim fun ps z => ⟨_, z⟩
theorem Kept.no {o : HO} (h : Kept o none) : False := by
  obtain ⟨u, z⟩ := h.some
  cases z
theorem Kept.trans {o : HO} {r r' : Option HO} (h : Kept o r) (h' : ∀ u, r = Option.some u → Kept u r') : Kept o r' := by
  cases o with
  | tbl qs =>
    obtain ⟨ps, z⟩ := h
    have := h' (.tbl ps) z
    exact this
  | _ => exact h' _ h
structure Fr (ad : List Addr) (H : Hp) (ad' : List Addr) (H' : Hp) : Prop where
  ext : ∃ t, ad' = ad ++ t
  keep : ∀ a o, H a = some o → a ∉ ad → Kept o (H' a)
  new : ∀ a, a ∈ ad' → a ∉ ad → H a = none
  stb : Stb H H'
section
variable {K : PySem.W.Frag} {ad ad1 ad2 : List Addr} {H H1 H2 : Hp} {v : V} {w : Wv}
theorem Fr.refl (ad : List Addr) (H : Hp) : Fr ad H ad H := ⟨⟨[], by simp⟩, fun _ _ h _ => .of h, fun _ h h' => absurd h h', Stb.refl H⟩
theorem Fr.trans (a : Fr ad H ad1 H1) (b : Fr ad1 H1 ad2 H2) : Fr ad H ad2 H2 := by
  have notIn1 : ∀ x o, H x = some o → x ∉ ad → x ∉ ad1 := fun x o h hx hm => by
    have := a.new x hm hx
    rw [h] at this; cases this
  refine ⟨?_, fun x o h hx => (a.keep x o h hx).trans fun u hu => b.keep x u hu (notIn1 x o h hx), fun x hm hx => ?_, a.stb.trans b.stb⟩
  · obtain ⟨t, e⟩ := a.ext
    obtain ⟨u, e'⟩ := b.ext
    exact ⟨t ++ u, by rw [e', e, List.append_assoc]⟩
  · by_cases h1 : x ∈ ad1
    · exact a.new x h1 hx
    · have h2 := b.new x hm h1
      cases q : H x with
      | none => rfl
      | some o =>
        have := a.keep x o q hx
        rw [h2] at this; exact this.no.elim
theorem Fr.at (a : Fr ad H ad1 H1) {k : Nat} {x : Addr} (h : ad[k]? = some x) : ad1[k]? = some x := by
  obtain ⟨t, e⟩ := a.ext
  rw [e, List.getElem?_append_left (List.getElem?_eq_some_iff.mp h).1]
  exact h
theorem RepW.fr (a : Fr ad H ad1 H1) (h : RepW K ad H v w) : RepW K ad1 H1 v w := by
  cases w with
  | d x => exact Rep.stb a.stb x h
  | own k =>
    obtain ⟨x, e, e'⟩ := h
    exact ⟨x, a.at e, e'⟩
  | fn f c q => exact ⟨h.1, a.stb c _ trivial h.2⟩
theorem RepWs.fr (a : Fr ad H ad1 H1) : ∀ {vs : List V} {ws : List Wv}, RepWs K ad H vs ws → RepWs K ad1 H1 vs ws
  | _, _, .nil => .nil
  | _, _, .cons h t => .cons (RepW.fr a h) (RepWs.fr a t)
theorem Sig.fr {σ : L2.St} {ρ : Rho} (a : Fr ad H ad1 H1) (h : Sig K ad H σ ρ) : Sig K ad1 H1 σ ρ :=
  ⟨h.len, fun i w e => let ⟨v, e1, e2⟩ := h.sl i w e; ⟨v, e1, e2.fr a⟩⟩
/-- all that was tracked stands, new things may have come -/
def Ex (H H' : Hp) : Prop := ∀ a o, H a = some o → H' a = some o
theorem Ex.refl (H : Hp) : Ex H H := fun _ _ h => h
theorem Ex.trans {H H1 H2 : Hp} (a : Ex H H1) (b : Ex H1 H2) : Ex H H2 := fun x o h => b x o (a x o h)
theorem Ex.new {p : Addr} {o : HO} (h : H p = none) : Ex H (upd H p o) := fun a u e => by
  rw [upd_ne (ne_of_none e h)]; exact e
theorem tab_upd {P p : Addr} {q : Str} {vs : List V} {o : HO} (e : H p = some (.lst vs)) (h : LamX.TabS H P q) : LamX.TabS (upd H p o) P q := by
  have ne : ∀ b u, H b = some u → (∀ xs, u ≠ .lst xs) → b ≠ p := fun b u hb hn z => by
    rw [z, e] at hb
    exact hn vs (Option.some.inj hb).symm
  obtain ⟨ps, h1, h2, h3⟩ := h
  refine ⟨ps, by rw [upd_ne (ne _ _ h1 (fun xs z => by cases z))]; exact h1, h2, fun pos cv hc => ?_⟩
  obtain ⟨c, e1, e2⟩ := h3 pos cv hc
  exact ⟨c, e1, by rw [upd_ne (ne _ _ e2 (fun xs z => by unfold LamX.CodeO at z; cases z))]; exact e2⟩
theorem Ex.stb (a : Ex H H1) : Stb H H1 := fun x o _ h => a x o h
theorem Ex.fr (a : Ex H H1) : Fr ad H ad H1 := ⟨⟨[], by simp⟩, fun x o h _ => .of (a x o h), fun _ h h' => absurd h h', a.stb⟩
theorem ObR.ex {a : Addr} {o : MO} (e : Ex H H1) (h : ObR K H a o) : ObR K H1 a o := by
  cases o with
  | lst l =>
    obtain ⟨vs, h1, h2⟩ := h
    exact ⟨vs, e _ _ h1, Reps.stb e.stb l h2⟩
  | frz l =>
    obtain ⟨vs, q, h1, h2⟩ := h
    exact ⟨vs, q, e _ _ h1, Reps.stb e.stb l h2⟩
  | tab P q => exact ⟨h.1, h.2.ext e⟩
theorem ObR.here {a : Addr} {o : MO} (h : ObR K H a o) : ∃ u, H a = some u := by
  cases o with
  | lst l => exact ⟨_, h.choose_spec.1⟩
  | frz l => exact ⟨_, h.choose_spec.choose_spec.1⟩
  | tab P q => exact ⟨_, by rw [h.1]; exact h.2.choose_spec.1⟩
theorem RS.here {S : Sto} (h : RS K ad H S) {p : Addr} (hp : p ∈ ad) : ∃ u, H p = some u := by
  obtain ⟨k, hk, e⟩ := List.mem_iff_getElem.mp hp
  have hk' : k < S.length := by rw [← h.len]; exact hk
  obtain ⟨a, e1, e2⟩ := h.ob k S[k] (by simp [hk'])
  have : a = p := by
    rw [List.getElem?_eq_getElem hk] at e1
    rw [← Option.some.inj e1]; exact e
  subst this
  exact e2.here
theorem RS.ex {S : Sto} (e : Ex H H1) (h : RS K ad H S) : RS K ad H1 S := ⟨h.len, h.nd, fun k o q => let ⟨a, e1, e2⟩ := h.ob k o q; ⟨a, e1, e2.ex e⟩⟩
end

/-! ### the results' readings -/
def XRep (K : PySem.W.Frag) (mg : Str → Option Value) (H : Hp) (cls : Value) (d : Option Addr) (x : Xc) : Prop :=
  ∃ C, mg x.c = some (.ref C) ∧ cls = .ref C ∧ (x.fs = [] ∨ ∃ dd fs, d = some dd ∧ H dd = some (.xd fs) ∧ Paired (fun (p : Str × V) (q : Str × PyData) => p.1 = q.1 ∧ Rep K H p.2 q.2) fs x.fs)
def post {α β : Type} (K : PySem.W.Frag) (mg : Str → Option Value) (Wx : WX) (σ : L2.St) (ad : List Addr) (H : Hp) (Rel : List Addr → Hp → β → α → Prop) (r : Rs α) (Q : β → Hp → Prop) : Prop :=
  match r with
  | .bad => False
  | .ok w S' => ∀ v H' ad', Fr ad H ad' H' → Rel ad' H' v w → RS K ad' H' S' → Q v H'
  | .exc x S' => ∀ cls d H' ad', Fr ad H ad' H' → XRep K mg H' cls d x → RS K ad' H' S' → Wx cls d σ H'
section
variable {K : PySem.W.Frag} {mg : Str → Option Value} {Wx : WX} {σ : L2.St} {ad ad1 : List Addr} {H H1 : Hp}
theorem post_bind {α β γ δ : Type} {Rel1 : List Addr → Hp → β → α → Prop} {Rel2 : List Addr → Hp → δ → γ → Prop} {r : Rs α} {k : α → Sto → Rs γ} {Q : δ → Hp → Prop}
    (h : post K mg Wx σ ad H Rel2 (r.bind k) Q) : post K mg Wx σ ad H Rel1 r (fun v H1 => ∃ ad1 w S1, Fr ad H ad1 H1 ∧ Rel1 ad1 H1 v w ∧ RS K ad1 H1 S1 ∧ post K mg Wx σ ad1 H1 Rel2 (k w S1) Q) := by
  cases r with
  | bad => exact h
  | exc x S' => exact h
  | ok w S' =>
    intro v H1 ad1 fr rel rs
    refine ⟨ad1, w, S', fr, rel, rs, ?_⟩
    have h' : post K mg Wx σ ad H Rel2 (k w S') Q := h
    revert h'
    cases k w S' with
    | bad => exact fun z => z
    | ok w2 S2 => exact fun z v2 H2 ad2 fr2 rel2 rs2 => z v2 H2 ad2 (fr.trans fr2) rel2 rs2
    | exc x S2 => exact fun z cls d H2 ad2 fr2 xr rs2 => z cls d H2 ad2 (fr.trans fr2) xr rs2
theorem post_mono {α β : Type} {Rel : List Addr → Hp → β → α → Prop} {r : Rs α} {Q Q' : β → Hp → Prop} (h : post K mg Wx σ ad H Rel r Q) (hq : ∀ v H', Q v H' → Q' v H') : post K mg Wx σ ad H Rel r Q' := by
  cases r with
  | bad => exact h
  | exc x S' => exact h
  | ok w S' => exact fun v H' ad' a b c => hq _ _ (h v H' ad' a b c)
end
def tD (K : PySem.W.Frag) (mg : Str → Option Value) (Wx : WX) (f : EF) : TE := fun σ H Q => ∃ ad ρ S, Sig K ad H σ ρ ∧ RS K ad H S ∧ post K mg Wx σ ad H (RepW K) (f ρ S) Q
abbrev DE (X : Cx) (Wx : WX) (e : Expr) (f : EF) : Prop := PE X e (tD X.K X.mg Wx f)
theorem PE.conv {X : Cx} {e : Expr} {t t' : TE} (h : PE X e t) (c : ∀ σ H Q, t' σ H Q → t σ H Q) : PE X e t' := ⟨fun pins s σ H Q I q => h.run pins s σ H Q I (c _ _ _ q)⟩
theorem PT.conv {X : Cx} {e : Expr} {t t' : TT} (h : PT X e t) (c : ∀ σ H Q, t' σ H Q → t σ H Q) : PT X e t' := ⟨fun pins s σ H Q I q => h.run pins s σ H Q I (c _ _ _ q)⟩
theorem PW.conv {X : Cx} {e : Expr} {t t' : TT} (h : PW X e t) (c : ∀ σ H Q, t' σ H Q → t σ H Q) : PW X e t' := ⟨fun wh pins s σ H Q I q => h.run wh pins s σ H Q I (c _ _ _ q)⟩
theorem PA.conv {X : Cx} {e : List Expr} {t t' : TA} (h : PA X e t) (c : ∀ σ H Q, t' σ H Q → t σ H Q) : PA X e t' := ⟨fun pos pins s σ H Q I q => h.run pos pins s σ H Q I (c _ _ _ q)⟩
theorem PS.conv {X : Cx} {e : Stmt} {t t' : TS} (h : PS X e t) (c : ∀ D σ H, t' D σ H → t D σ H) : PS X e t' := ⟨fun pins s σ H D I q => h.run pins s σ H D I (c _ _ _ q)⟩
theorem PSs.conv {X : Cx} {e : List Stmt} {t t' : TS} (h : PSs X e t) (c : ∀ D σ H, t' D σ H → t D σ H) : PSs X e t' := ⟨fun pins s σ H D I q => h.run pins s σ H D I (c _ _ _ q)⟩

/-! ### a list is locked for good -/
theorem freeze {X : Cx} {pins : List (Addr × Obj)} {σ : L2.St} {H : Hp} {s : Shared} {a : Addr} {vs : List V} (I : Inv X pins σ H s) (h : H a = some (.lst vs)) :
    ∃ o, Inv X pins σ (upd H a (.frz o (.lst vs))) s := by
  have ok := I.hok a _ h
  obtain ⟨z, its, n, rv, e⟩ := id ok
  refine ⟨{ cls := .type "list", data := .seq its.toArray n }, ?_⟩
  have ne : ∀ {b : Addr} {o : HO}, H b = some o → (∀ xs, o ≠ .lst xs) → b ≠ a := fun {b o} hb hn z => by
    subst z
    rw [h] at hb
    cases hb
    exact hn _ rfl
  have un : Un X.fs [] H (upd H a (.frz { cls := .type "list", data := .seq its.toArray n } (.lst vs))) s.heap s.heap := by
    refine ⟨fun b o q _ _ _ => q, fun b o q _ _ _ => ⟨o.slots, q⟩, fun b o q hn _ => ?_, fun b o q _ => ⟨o, q⟩, fun b xs q => ?_, fun b o u q => ?_, fun b ps q => ⟨#[], ?_⟩⟩
    · have : b ≠ a := fun z => by subst z; rw [h] at hn; cases hn
      rw [upd_ne this]; exact hn
    · rw [upd_ne (ne q fun _ z => nomatch z)]; exact q
    · rw [upd_ne (ne q fun _ z => nomatch z)]; exact q
    · rw [upd_ne (ne q fun _ z => nomatch z), q]; simp
  have hok : HOk X.prog X.w (upd H a (.frz { cls := .type "list", data := .seq its.toArray n } (.lst vs))) s.heap := fun b u q => by
    by_cases hb : b = a
    · subst hb
      rw [upd_same] at q; cases q
      exact ⟨e, z, its, n, rv, e⟩
    · rw [upd_ne hb] at q
      refine (I.hok b u q).stay (fun c v _ r => r) (fun c r => ?_) fun c xs r => ?_
      · rw [upd_ne (ne r fun _ z => nomatch z)]; exact r
      · rw [upd_ne (ne r fun _ z => nomatch z)]; exact r
  have := I.un (h' := s.heap) (t' := s.toks) un hok
  exact this
theorem EP.freeze {X : Cx} {pins : List (Addr × Obj)} {σ : L2.St} {Q : VK} {u : Value} {s : Shared}
    (h : EP X pins σ (fun v H' => ∃ a vs, v = .ref a ∧ H' a = some (.lst vs) ∧ ∀ o, Q v (upd H' a (.frz o (.lst vs)))) u s) : EP X pins σ Q u s := by
  obtain ⟨v, H', I, r, a, vs, e, hl, q⟩ := h
  obtain ⟨o, I'⟩ := DL.freeze I hl
  exact ⟨v, _, I', r, q o⟩
def tFrz (te : TE) : TE := fun σ H Q => te σ H fun v H' => ∃ a vs, v = .ref a ∧ H' a = some (.lst vs) ∧ ∀ o, Q v (upd H' a (.frz o (.lst vs)))
theorem pe_freeze {X : Cx} {e : Expr} {te : TE} (h : PE X e te) : PE X e (tFrz te) := ⟨fun pins s σ H Q I q => thn (h.run pins s σ H _ I q) fun _ _ z => EP.freeze z⟩
theorem OpR.freeze {X : Cx} {f : Value → Value → Sem Value} {r : R2} (h : OpR X f r) : OpR X f (fun x y H Q => r x y H fun v H' => ∃ a vs, v = .ref a ∧ H' a = some (.lst vs) ∧ ∀ o, Q v (upd H' a (.frz o (.lst vs)))) :=
  fun pins s σ H x y v u Q I rx ry q => thn (h pins s σ H x y v u _ I rx ry q) fun _ _ z => EP.freeze z
theorem CallR.freeze {X : Cx} {f : Value} {r : List V → Hp → VK → Prop} (h : CallR X f r) : CallR X f (fun xs H Q => r xs H fun v H' => ∃ a vs, v = .ref a ∧ H' a = some (.lst vs) ∧ ∀ o, Q v (upd H' a (.frz o (.lst vs)))) :=
  fun pins s σ H xs us Q I r q => thn (h pins s σ H xs us _ I r q) fun _ _ z => EP.freeze z
/-- a new thing, then locked: all that was stands -/
theorem Ex.upd2 {H H' : Hp} {p : Addr} {o : HO} (e : Ex H H') (h : H p = none) : Ex H (upd H' p o) := fun a u q => by
  rw [upd_ne (ne_of_none q h)]; exact e a u q
end DL

set_option Elab.async false
set_option linter.all false
set_option maxRecDepth 100000
set_option maxHeartbeats 4000000
/-! D2: operations on data: what they give, and that the model does so. -/
namespace DL
open PySem PySem.Spec PyProof.Rows L2

/-- what a value shows when it is read -/
def RepV (K : PySem.W.Frag) (H : Hp) (v : V) (d : PyData) : Prop := Rep K H v d ∨ ∃ a vs l, v = .ref a ∧ d = .list l ∧ H a = some (.lst vs) ∧ Reps K H vs l
def view (S : Sto) : Wv → Option PyData
  | .d x => some x
  | .own k => match S[k]? with
    | some (.lst l) => some (.list l)
    | some (.frz l) => some (.list l)
    | _ => none
  | .fn _ _ _ => none
@[simp] theorem view_d (S : Sto) (x : PyData) : view S (.d x) = some x := rfl
section
variable {K : PySem.W.Frag} {ad : List Addr} {H H' : Hp} {v : V} {w : Wv} {S : Sto} {d : PyData}
theorem view_rep (r : RepW K ad H v w) (rs : RS K ad H S) (e : view S w = some d) : RepV K H v d := by
  cases w with
  | d x =>
    cases e
    exact .inl r
  | own k =>
    obtain ⟨a, ha, rfl⟩ := r
    dsimp only [view] at e
    cases hk : S[k]? with
    | none =>
      rw [hk] at e
      cases e
    | some o =>
      rw [hk] at e
      obtain ⟨a', ha', ob⟩ := rs.ob k o hk
      rw [ha] at ha'
      cases ha'
      cases o with
      | lst l =>
        cases e
        obtain ⟨vs, h1, h2⟩ := ob
        exact .inr ⟨a, vs, l, rfl, rfl, h1, h2⟩
      | frz l =>
        cases e
        obtain ⟨vs, o1, h1, h2⟩ := ob
        exact .inl (.lst (.inl ⟨o1, h1⟩) h2)
      | tab P q => cases e
  | fn f c q => cases e
theorem RepV.ex (e : Ex H H') (h : RepV K H v d) : RepV K H' v d := by
  rcases h with h | ⟨a, vs, l, e1, e2, e3, e4⟩
  · exact .inl (Rep.stb e.stb d h)
  · exact .inr ⟨a, vs, l, e1, e2, e _ _ e3, Reps.stb e.stb l e4⟩
theorem RepV.none (h : RepV K H v .none) : v = .non := by
  rcases h with h | ⟨_, _, _, _, z, _⟩
  · cases h; rfl
  · cases z
theorem RepV.bool {b : Bool} (h : RepV K H v (.bool b)) : v = .bl b := by
  rcases h with h | ⟨_, _, _, _, z, _⟩
  · cases h; rfl
  · cases z
theorem RepV.int {b : Int} (h : RepV K H v (.int b)) : v = .int b := by
  rcases h with h | ⟨_, _, _, _, z, _⟩
  · cases h; rfl
  · cases z
theorem RepV.str {b : Str} (h : RepV K H v (.str b)) : v = .str b ∧ strG b = true := by
  rcases h with h | ⟨_, _, _, _, z, _⟩
  · cases h with
    | str _ z => exact ⟨rfl, z⟩
  · cases z
theorem RepV.tup {l : List PyData} (h : RepV K H v (.tuple l)) : ∃ a vs, v = .ref a ∧ SqT K H a vs ∧ Reps K H vs l := by
  rcases h with h | ⟨_, _, _, _, z, _⟩
  · cases h with
    | tup h1 h2 => exact ⟨_, _, rfl, h1, h2⟩
  · cases z
theorem RepV.lst {l : List PyData} (h : RepV K H v (.list l)) : ∃ a vs, v = .ref a ∧ SqL K H a vs ∧ Reps K H vs l := by
  rcases h with h | ⟨a, vs, l', e, z, h1, h2⟩
  · cases h with
    | lst h1 h2 => exact ⟨_, _, rfl, h1.sq, h2⟩
  · cases z
    exact ⟨a, vs, e, SqL.of h1, h2⟩
end

def rP2 (K : PySem.W.Frag) (g : PyData → PyData → Option PyData) : R2 := fun x y H Q => ∃ dx dy d, RepV K H x dx ∧ RepV K H y dy ∧ g dx dy = some d ∧ ∀ v H', Ex H H' → Rep K H' v d → Q v H'
def OpP (X : Cx) (f : Value → Value → Sem Value) (g : PyData → PyData → Option PyData) : Prop := OpR X f (rP2 X.K g)
/-- the ways of a rule, by what the data are -/
theorem opP_of {X : Cx} {f : Value → Value → Sem Value} {g : PyData → PyData → Option PyData}
    (h : ∀ (dx dy d : PyData), g dx dy = some d → ∀ (pins : List (Addr × Obj)) (s : Shared) (σ : L2.St) (H : Hp) (x y : V) (v u : Value) (Q : VK), Inv X pins σ H s → RelV x v → RelV y u →
      RepV X.K H x dx → RepV X.K H y dy → (∀ v H', Ex H H' → Rep X.K H' v d → Q v H') → wpAny (model X.prog X.w) X.A (f v u) (EP X pins σ Q) X.xe s) : OpP X f g := by
  intro pins s σ H x y v u Q I rx ry ⟨dx, dy, d, h1, h2, e, q⟩
  exact h dx dy d e pins s σ H x y v u Q I rx ry h1 h2 q

theorem strOk_append {x y : Str} (h1 : PyData.strOk x = true) (h2 : PyData.strOk y = true) : PyData.strOk (x ++ y) = true := by
  unfold PyData.strOk at *
  rw [PySem.Str.cps_append, ← Array.all_toList] at *
  rw [Array.toList_append, List.all_append, Bool.and_eq_true]
  exact ⟨by simpa using h1, by simpa using h2⟩
theorem strG_append {x y : Str} (h1 : strG x = true) (h2 : strG y = true) (hz : x.length + y.length ≤ sizeLine) : strG (x ++ y) = true :=
  strG_mk (by rw [PySem.Str.length_append]; exact hz) (strOk_append (strG_ok h1) (strG_ok h2))
/-! ### arithmetic -/
def subD : PyData → PyData → Option PyData
  | .int i, .int j => some (.int (i - j))
  | _, _ => none
def mulOk (i j : Int) : Bool := decide (i.natAbs.log2 + j.natAbs.log2 < 1000000)
def mulD : PyData → PyData → Option PyData
  | .int i, .int j => if mulOk i j then some (.int (i * j)) else none
  | _, _ => none
def divOk (j : Int) : Bool := decide (j ≠ 0 ∧ j.natAbs.log2 < 9000)
def fdivD : PyData → PyData → Option PyData
  | .int i, .int j => if divOk j then some (.int (i.fdiv j)) else none
  | _, _ => none
def modD : PyData → PyData → Option PyData
  | .int i, .int j => if j = 0 then none else some (.int (i.fmod j))
  | _, _ => none
def powD : PyData → PyData → Option PyData
  | .int i, .int j => if 0 ≤ j ∧ j ≤ 1000000 ∧ i.natAbs < 2 ^ 64 then some (.int (i ^ j.toNat)) else none
  | _, _ => none
def addD : PyData → PyData → Option PyData
  | .int i, .int j => some (.int (i + j))
  | .str x, .str y => if x.length + y.length ≤ sizeLine then some (.str (x ++ y)) else none
  | .tuple l, .tuple m => if l.length + m.length ≤ sizeLine then some (.tuple (l ++ m)) else none
  | .list l, .list m => if l.length + m.length ≤ sizeLine then some (.list (l ++ m)) else none
  | _, _ => none
section
variable {X : Cx}
theorem rep_int {K : PySem.W.Frag} {H : Hp} {i : Int} : Rep K H (.int i) (.int i) := .int i
theorem op_subD : OpP X (binaryOp .Sub) subD := opP_of fun dx dy d e pins s σ H x y v u Q I rx ry h1 h2 q => by
  unfold subD at e
  split at e
  · cases e
    cases h1.int; cases h2.int
    exact op_sub pins s σ H _ _ v u Q I rx ry ⟨_, _, rfl, rfl, q _ H (Ex.refl H) (.int _)⟩
  · cases e
theorem op_mulD : OpP X (binaryOp .Mult) mulD := opP_of fun dx dy d e pins s σ H x y v u Q I rx ry h1 h2 q => by
  unfold mulD at e
  split at e
  · split at e
    · rename_i hm
      cases e
      cases h1.int; cases h2.int
      exact op_mulW pins s σ H _ _ v u Q I rx ry ⟨_, _, rfl, rfl, (show CMulW _ _ from of_decide_eq_true (p := _ < _) hm), q _ H (Ex.refl H) (.int _)⟩
    · cases e
  · cases e
theorem op_fdivG : OpR X (binaryOp .FloorDiv) (rI (fun _ j => j ≠ 0 ∧ j.natAbs.log2 < 9000) fun i j => .int (i.fdiv j)) := opI fun _ _ _ _ _ _ _ hc q => floordiv_int hc.1 q (.inl (PyProof.noPylong_of_log2 hc.2))
theorem op_fdivD : OpP X (binaryOp .FloorDiv) fdivD := opP_of fun dx dy d e pins s σ H x y v u Q I rx ry h1 h2 q => by
  unfold fdivD at e
  split at e
  · split at e
    · rename_i hm
      cases e
      cases h1.int; cases h2.int
      exact op_fdivG pins s σ H _ _ v u Q I rx ry ⟨_, _, rfl, rfl, of_decide_eq_true hm, q _ H (Ex.refl H) (.int _)⟩
    · cases e
  · cases e
theorem op_modD : OpP X (binaryOp .Mod) modD := opP_of fun dx dy d e pins s σ H x y v u Q I rx ry h1 h2 q => by
  unfold modD at e
  split at e
  · split at e
    · cases e
    · rename_i hm
      cases e
      cases h1.int; cases h2.int
      exact op_modN pins s σ H _ _ v u Q I rx ry ⟨_, _, rfl, rfl, hm, q _ H (Ex.refl H) (.int _)⟩
  · cases e
theorem op_powD : OpP X (binaryOp .Pow) powD := opP_of fun dx dy d e pins s σ H x y v u Q I rx ry h1 h2 q => by
  unfold powD at e
  split at e
  · split at e
    · rename_i hm
      cases e
      cases h1.int; cases h2.int
      exact op_pow pins s σ H _ _ v u Q I rx ry ⟨_, _, rfl, rfl, hm, q _ H (Ex.refl H) (.int _)⟩
    · cases e
  · cases e
/-- a list + a list, whatever they are -/
theorem cat_lists {A : Around} {E : Value → Shared → Prop} {s : Shared} {prog : Program} {w : World} {t b : Addr} {vs ws : List Value} {Q : Value → Shared → Prop} (ht : PlainL s.heap t vs.toArray) (hb : PlainL s.heap b ws.toArray)
    (hz : vs.length + ws.length ≤ sizeLine) (h : Q (.ref s.heap.objs.size) { s with heap := s.heap.push { cls := .type "list", data := .seq (vs ++ ws).toArray } }) : wpAny (model prog w) A (binaryOp .Add (.ref t) (.ref b)) Q E s := by
  obtain ⟨⟨cls, dd, data, sl⟩, n, ho, hc, hdd, hd⟩ := id ht
  obtain ⟨⟨cls2, dd2, data2, sl2⟩, n2, ho2, hc2, hdd2, hd2⟩ := id hb
  simp only at hc hd hc2 hd2 hdd hdd2
  subst hc hd hc2 hd2 hdd hdd2
  have e : vs.toArray ++ ws.toArray = (vs ++ ws).toArray := by simp
  exact concat_meets ⟨_, ho, rfl⟩ ⟨_, ho2, rfl⟩ noFill_list_add seq_list_add PySem.F.slot_list_add PySem.F.entry_list_add (PySem.F.args_list_add_2 _ _)
    (PyProof.Rows.list_addW t b vs.toArray ws.toArray n n2 Option.none Option.none sl sl2 (by rw [List.size_toArray, List.size_toArray]; exact hz)) ⟨ho, ho2, by rw [e]; exact h⟩
theorem op_addD : OpP X (binaryOp .Add) addD := opP_of fun dx dy d e pins s σ H x y v u Q I rx ry h1 h2 q => by
  unfold addD at e
  split at e
  · cases e
    cases h1.int; cases h2.int
    exact op_add pins s σ H _ _ v u Q I rx ry ⟨_, _, rfl, rfl, q _ H (Ex.refl H) (.int _)⟩
  · split at e
    · rename_i hz
      cases e
      obtain ⟨rfl, z1⟩ := h1.str
      obtain ⟨rfl, z2⟩ := h2.str
      exact op_add_str pins s σ H _ _ v u Q I rx ry ⟨_, _, rfl, rfl, hz, q _ H (Ex.refl H) (.str _ (strG_append z1 z2 hz))⟩
    · cases e
  · split at e
    · rename_i hz
      cases e
      obtain ⟨a, vs, rfl, t1, r1⟩ := h1.tup
      obtain ⟨b, us, rfl, t2, r2⟩ := h2.tup
      refine op_catA pins s σ H _ _ v u Q I rx ry ⟨a, b, vs, us, rfl, rfl, t1, t2, by rw [r1.length, r2.length]; exact hz, fun z => ?_, fun _ z => ?_, fun _ _ p hp => ?_⟩
      · subst z
        cases r1
        exact q _ H (Ex.refl H) (.tup t2 r2)
      · subst z
        cases r2
        rw [List.append_nil] at q
        exact q _ H (Ex.refl H) (.tup t1 r1)
      · have ex : Ex H (upd H p (.tup (vs ++ us))) := Ex.new hp
        exact q _ _ ex (.tup (SqT.of upd_same) (Reps.append (Reps.stb ex.stb _ r1) (Reps.stb ex.stb _ r2)))
    · cases e
  · split at e
    · rename_i hz
      cases e
      obtain ⟨a, vs, rfl, t1, r1⟩ := h1.lst
      obtain ⟨b, us, rfl, t2, r2⟩ := h2.lst
      cases rx
      cases ry
      obtain ⟨its, rv1, p1, z1⟩ := I.list t1
      obtain ⟨its2, rv2, p2, z2⟩ := I.list t2
      have hl : its.length + its2.length ≤ sizeLine := by rw [← rv1.length, ← rv2.length, r1.length, r2.length]; exact hz
      refine cat_lists p1 p2 hl (EP.freeze ?_)
      refine ⟨.ref _, _, I.lnew (t' := s.toks) (rv1.append rv2) (by rw [List.length_append, r1.length, r2.length]; exact hz), rfl, _, _, rfl, upd_same, fun o => ?_⟩
      have ex : Ex H (upd (upd H s.heap.objs.size (.lst (vs ++ us))) s.heap.objs.size (.frz o (.lst (vs ++ us)))) := (Ex.new I.fresh).upd2 I.fresh
      exact q _ _ ex (.lst (.inl ⟨o, upd_same⟩) (Reps.append (Reps.stb ex.stb _ r1) (Reps.stb ex.stb _ r2)))
    · cases e
  · cases e

/-! ### comparisons -/
def ltD : PyData → PyData → Option PyData
  | .int i, .int j => some (.bool (decide (i < j)))
  | _, _ => none
def leD : PyData → PyData → Option PyData
  | .int i, .int j => some (.bool (decide (i ≤ j)))
  | _, _ => none
def gtD : PyData → PyData → Option PyData
  | .int i, .int j => some (.bool (decide (j < i)))
  | _, _ => none
def geD : PyData → PyData → Option PyData
  | .int i, .int j => some (.bool (decide (j ≤ i)))
  | _, _ => none
theorem op_ltD : OpP X (compareOp .Lt) ltD := opP_of fun dx dy d e pins s σ H x y v u Q I rx ry h1 h2 q => by
  unfold ltD at e
  split at e
  · cases e
    cases h1.int; cases h2.int
    exact op_lt pins s σ H _ _ v u Q I rx ry ⟨_, _, rfl, rfl, q _ H (Ex.refl H) (.bl _)⟩
  · cases e
theorem op_leD : OpP X (compareOp .LtE) leD := opP_of fun dx dy d e pins s σ H x y v u Q I rx ry h1 h2 q => by
  unfold leD at e
  split at e
  · cases e
    cases h1.int; cases h2.int
    exact op_le pins s σ H _ _ v u Q I rx ry ⟨_, _, rfl, rfl, q _ H (Ex.refl H) (.bl _)⟩
  · cases e
theorem op_gtD : OpP X (compareOp .Gt) gtD := opP_of fun dx dy d e pins s σ H x y v u Q I rx ry h1 h2 q => by
  unfold gtD at e
  split at e
  · cases e
    cases h1.int; cases h2.int
    exact op_gt pins s σ H _ _ v u Q I rx ry ⟨_, _, rfl, rfl, q _ H (Ex.refl H) (.bl _)⟩
  · cases e
theorem op_geD : OpP X (compareOp .GtE) geD := opP_of fun dx dy d e pins s σ H x y v u Q I rx ry h1 h2 q => by
  unfold geD at e
  split at e
  · cases e
    cases h1.int; cases h2.int
    exact op_ge pins s σ H _ _ v u Q I rx ry ⟨_, _, rfl, rfl, q _ H (Ex.refl H) (.bl _)⟩
  · cases e
/-! data without dicts may be compared -/
mutual
def noDict : PyData → Bool
  | .none | .bool _ | .int _ | .str _ => true
  | .list xs | .tuple xs => noDicts xs
  | .dict _ => false
def noDicts : List PyData → Bool
  | [] => true
  | x :: xs => noDict x && noDicts xs
end
def cmpOk (d : PyData) : Bool := noDict d && decide (d.depth ≤ 64)
mutual
theorem Rep.dp {K : PySem.W.Frag} {H : Hp} : ∀ (d : PyData) {v : V}, Rep K H v d → noDict d = true → Dp K H v d ∧ d.canLay0 = true
  | .none, _, h, _ => by cases h; exact ⟨.non, by simp [PyData.canLay0]⟩
  | .bool _, _, h, _ => by cases h; exact ⟨.bl _, by simp [PyData.canLay0]⟩
  | .int _, _, h, _ => by cases h; exact ⟨.int _, by simp [PyData.canLay0]⟩
  | .str _, _, h, _ => by
    cases h with
    | str _ z => exact ⟨.str _, by simp [PyData.canLay0, strG_ok z]⟩
  | .list ds, _, h, c => by
    cases h with
    | lst h1 h2 =>
      obtain ⟨q1, q2⟩ := Reps.dp ds h2 (by simpa [noDict] using c)
      exact ⟨.lst h1.sq q1, by simpa [PyData.canLay0] using q2⟩
  | .tuple ds, _, h, c => by
    cases h with
    | tup h1 h2 =>
      obtain ⟨q1, q2⟩ := Reps.dp ds h2 (by simpa [noDict] using c)
      exact ⟨.tup h1 q1, by simpa [PyData.canLay0] using q2⟩
  | .dict ds, _, h, c => by simp [noDict] at c
theorem Reps.dp {K : PySem.W.Frag} {H : Hp} : ∀ (ds : List PyData) {vs : List V}, Reps K H vs ds → noDicts ds = true → DpAll K H vs ds ∧ PyData.canLayAll0 ds = true
  | [], _, h, _ => by cases h; exact ⟨.nil, by simp [PyData.canLayAll0]⟩
  | d :: ds, _, h, c => by
    cases h with
    | cons h1 h2 =>
      rw [noDicts, Bool.and_eq_true] at c
      obtain ⟨q1, q2⟩ := Rep.dp d h1 c.1
      obtain ⟨q3, q4⟩ := Reps.dp ds h2 c.2
      exact ⟨.cons q1 q3, by rw [PyData.canLayAll0, q2, q4]; rfl⟩
end
theorem RepV.dp {K : PySem.W.Frag} {H : Hp} {v : V} {d : PyData} (h : RepV K H v d) (c : cmpOk d = true) : Dp K H v d ∧ SeqAt.shaped d = true := by
  unfold cmpOk at c
  rw [Bool.and_eq_true] at c
  have sh : d.canLay0 = true → SeqAt.shaped d = true := fun q => by
    unfold SeqAt.shaped
    rw [q, Bool.true_and]
    exact c.2
  rcases h with h | ⟨a, vs, l, e1, e2, e3, e4⟩
  · obtain ⟨q1, q2⟩ := Rep.dp d h c.1
    exact ⟨q1, sh q2⟩
  · subst e1 e2
    obtain ⟨q1, q2⟩ := Reps.dp l e4 (by simpa [noDict] using c.1)
    exact ⟨.lst (SqL.of e3) q1, sh (by simpa [PyData.canLay0] using q2)⟩
def eqD (x y : PyData) : Option PyData := if cmpOk x && cmpOk y then some (.bool (PyData.eqv x y)) else none
def neD (x y : PyData) : Option PyData := if cmpOk x && cmpOk y then some (.bool (!PyData.eqv x y)) else none
theorem op_eqDD (hu : X.A.units + 64 < cLine) : OpP X (compareOp .Eq) eqD := opP_of fun dx dy d e pins s σ H x y v u Q I rx ry h1 h2 q => by
  unfold eqD at e
  split at e
  · rename_i hc
    cases e
    rw [Bool.and_eq_true] at hc
    obtain ⟨p1, s1⟩ := h1.dp hc.1
    obtain ⟨p2, s2⟩ := h2.dp hc.2
    exact op_eqD hu pins s σ H _ _ v u Q I rx ry ⟨dx, dy, p1, p2, s1, s2, q _ H (Ex.refl H) (.bl _)⟩
  · cases e
theorem op_neDD (hu : X.A.units + 64 < cLine) : OpP X (compareOp .NotEq) neD := opP_of fun dx dy d e pins s σ H x y v u Q I rx ry h1 h2 q => by
  unfold neD at e
  split at e
  · rename_i hc
    cases e
    rw [Bool.and_eq_true] at hc
    obtain ⟨p1, s1⟩ := h1.dp hc.1
    obtain ⟨p2, s2⟩ := h2.dp hc.2
    exact op_neD hu pins s σ H _ _ v u Q I rx ry ⟨dx, dy, p1, p2, s1, s2, q _ H (Ex.refl H) (.bl _)⟩
  · cases e
def flatD : PyData → Bool
  | .none | .bool _ | .int _ | .str _ => true
  | _ => false
theorem flat_rep {K : PySem.W.Frag} {H : Hp} {v : V} {d : PyData} (h : Rep K H v d) (c : flatD d = true) : flatV v = true := by
  cases h <;> first | rfl | (simp [flatD] at c)
theorem flat_repV {K : PySem.W.Frag} {H : Hp} {v : V} {d : PyData} (h : RepV K H v d) (c : flatD d = true) : Rep K H v d := by
  rcases h with h | ⟨a, vs, l, e1, e2, e3, e4⟩
  · exact h
  · subst e2
    simp [flatD] at c
theorem flat_eqV {K : PySem.W.Frag} {H : Hp} {v u : V} {d e : PyData} (h : Rep K H v d) (h' : Rep K H u e) (c : flatD d = true) (c' : flatD e = true) : eqV v u = PyData.eqv d e := by
  cases h <;> first
    | (simp [flatD] at c; done)
    | (cases h' <;> first | (simp [flatD] at c'; done) | (simp [eqV, PyData.eqv]))
theorem flats_rep {K : PySem.W.Frag} {H : Hp} {x : V} {dx : PyData} (hx : Rep K H x dx) (cx : flatD dx = true) : ∀ {vs : List V} {ds : List PyData}, Reps K H vs ds → ds.all flatD = true → vs.all flatV = true ∧ inV x vs = ds.any fun d => PyData.eqv d dx
  | [], _, h, _ => by cases h; exact ⟨rfl, rfl⟩
  | v :: vs, _, h, c => by
    cases h with
    | cons h1 h2 =>
      rw [List.all_cons, Bool.and_eq_true] at c
      obtain ⟨q1, q2⟩ := flats_rep hx cx h2 c.2
      refine ⟨by rw [List.all_cons, q1, flat_rep h1 c.1]; rfl, ?_⟩
      unfold inV at q2 ⊢
      rw [List.any_cons, List.any_cons, q2, flat_eqV h1 hx c.1 cx]
def inD : PyData → PyData → Option PyData
  | .str x, .str z => if x.cps.size = 1 then some (.bool (decide (x.cps.getD 0 0 ∈ z.cps.toList))) else none
  | x, .list l => if flatD x && l.all flatD then some (.bool (l.any fun d => PyData.eqv d x)) else none
  | x, .tuple l => if flatD x && l.all flatD then some (.bool (l.any fun d => PyData.eqv d x)) else none
  | _, _ => none
def notInD (x y : PyData) : Option PyData := match inD x y with
  | some (.bool b) => some (.bool (!b))
  | _ => none
theorem sign_of {x : Str} (h : x.cps.size = 1) : x = ⟨#[x.cps.getD 0 0]⟩ := by
  cases x with
  | mk c =>
    congr 1
    apply Array.ext
    · simpa using h
    · intro i h1 h2
      have : i = 0 := by simp at h2; omega
      subst this
      simp [Array.getD, h]
theorem op_inD : OpP X (compareOp .In) inD := opP_of fun dx dy d e pins s σ H x y v u Q I rx ry h1 h2 q => by
  unfold inD at e
  split at e
  · split at e
    · rename_i hs
      cases e
      obtain ⟨rfl, z1⟩ := h1.str
      obtain ⟨rfl, z2⟩ := h2.str
      exact op_in_sign pins s σ H _ _ v u Q I rx ry ⟨_, _, congrArg V.str (sign_of hs), rfl, q _ H (Ex.refl H) (.bl _)⟩
    · cases e
  · split at e
    · rename_i hc
      cases e
      rw [Bool.and_eq_true] at hc
      obtain ⟨a, vs, rfl, t, r⟩ := h2.lst
      obtain ⟨q1, q2⟩ := flats_rep (flat_repV h1 hc.1) hc.1 r hc.2
      refine op_in_seq pins s σ H _ _ v u Q I rx ry ⟨a, vs, rfl, .inl t, flat_rep (flat_repV h1 hc.1) hc.1, q1, ?_⟩
      rw [if_neg Bool.false_ne_true, q2]
      exact q _ H (Ex.refl H) (.bl _)
    · cases e
  · split at e
    · rename_i hc
      cases e
      rw [Bool.and_eq_true] at hc
      obtain ⟨a, vs, rfl, t, r⟩ := h2.tup
      obtain ⟨q1, q2⟩ := flats_rep (flat_repV h1 hc.1) hc.1 r hc.2
      refine op_in_seq pins s σ H _ _ v u Q I rx ry ⟨a, vs, rfl, .inr t, flat_rep (flat_repV h1 hc.1) hc.1, q1, ?_⟩
      rw [if_neg Bool.false_ne_true, q2]
      exact q _ H (Ex.refl H) (.bl _)
    · cases e
  · cases e
theorem op_notInD : OpP X (compareOp .NotIn) notInD := opP_of fun dx dy d e pins s σ H x y v u Q I rx ry h1 h2 q => by
  unfold notInD at e
  split at e
  · rename_i b0 e0
    cases e
    unfold inD at e0
    split at e0
    · split at e0
      · rename_i hs
        cases e0
        obtain ⟨rfl, z1⟩ := h1.str
        obtain ⟨rfl, z2⟩ := h2.str
        exact op_notIn_sign pins s σ H _ _ v u Q I rx ry ⟨_, _, congrArg V.str (sign_of hs), rfl, q _ H (Ex.refl H) (.bl _)⟩
      · cases e0
    · split at e0
      · rename_i hc
        cases e0
        rw [Bool.and_eq_true] at hc
        obtain ⟨a, vs, rfl, t, r⟩ := h2.lst
        obtain ⟨q1, q2⟩ := flats_rep (flat_repV h1 hc.1) hc.1 r hc.2
        refine op_notIn_seq pins s σ H _ _ v u Q I rx ry ⟨a, vs, rfl, .inl t, flat_rep (flat_repV h1 hc.1) hc.1, q1, ?_⟩
        rw [if_pos rfl, q2]
        exact q _ H (Ex.refl H) (.bl _)
      · cases e0
    · split at e0
      · rename_i hc
        cases e0
        rw [Bool.and_eq_true] at hc
        obtain ⟨a, vs, rfl, t, r⟩ := h2.tup
        obtain ⟨q1, q2⟩ := flats_rep (flat_repV h1 hc.1) hc.1 r hc.2
        refine op_notIn_seq pins s σ H _ _ v u Q I rx ry ⟨a, vs, rfl, .inr t, flat_rep (flat_repV h1 hc.1) hc.1, q1, ?_⟩
        rw [if_pos rfl, q2]
        exact q _ H (Ex.refl H) (.bl _)
      · cases e0
    · cases e0
  · cases e
def isNon : PyData → Bool
  | .none => true
  | _ => false
def isNoneD (x y : PyData) : Option PyData := match y with
  | .none => some (.bool (isNon x))
  | _ => none
def isNotNoneD (x y : PyData) : Option PyData := match y with
  | .none => some (.bool (!isNon x))
  | _ => none
theorem none_dec {K : PySem.W.Frag} {H : Hp} {v : V} {d : PyData} (h : RepV K H v d) : decide (v = V.non) = isNon d := by
  rcases h with h | ⟨a, vs, l, e1, e2, e3, e4⟩
  · cases h <;> simp [isNon]
  · subst e1 e2
    simp [isNon]
theorem op_isNoneD : OpP X (compareOp .Is) isNoneD := opP_of fun dx dy d e pins s σ H x y v u Q I rx ry h1 h2 q => by
  unfold isNoneD at e
  split at e
  · cases e
    refine op_isN pins s σ H _ _ v u Q I rx ry ⟨h2.none, ?_⟩
    rw [none_dec h1]
    exact q _ H (Ex.refl H) (.bl _)
  · cases e
theorem op_isNotNoneD : OpP X (compareOp .IsNot) isNotNoneD := opP_of fun dx dy d e pins s σ H x y v u Q I rx ry h1 h2 q => by
  unfold isNotNoneD at e
  split at e
  · cases e
    refine op_notN pins s σ H _ _ v u Q I rx ry ⟨h2.none, ?_⟩
    rw [none_dec h1]
    exact q _ H (Ex.refl H) (.bl _)
  · cases e
/-! ### truth -/
def truD : PyData → Option Bool
  | .none => some false
  | .bool b => some b
  | .int i => some (i != 0)
  | .str x => some ((x.length : Int) != 0)
  | .list l => some (!l.isEmpty)
  | .tuple l => some (!l.isEmpty)
  | .dict _ => none
theorem emp_rep {K : PySem.W.Frag} {H : Hp} {vs : List V} {ds : List PyData} (h : Reps K H vs ds) : vs.isEmpty = ds.isEmpty := by
  cases h <;> rfl
theorem truV_of {H : Hp} {v : V} {d : PyData} {b : Bool} (h : RepV X.K H v d) (e : truD d = some b) : TruV X.K v H b := by
  cases d with
  | none => cases h.none; cases e; rfl
  | bool x => cases h.bool; cases e; rfl
  | int i => cases h.int; cases e; rfl
  | str x =>
    obtain ⟨rfl, z⟩ := h.str
    cases e
    exact ⟨strG_len z, rfl⟩
  | list l =>
    obtain ⟨a, vs, rfl, t, r⟩ := h.lst
    cases e
    exact .inl ⟨vs, t, by rw [emp_rep r]⟩
  | tuple l =>
    obtain ⟨a, vs, rfl, t, r⟩ := h.tup
    cases e
    exact .inr (.inl ⟨vs, t, by rw [emp_rep r]⟩)
  | dict _ => cases e
/-! ### items -/
def ixD : PyData → PyData → Option PyData
  | .list l, .int i => atI l i
  | .tuple l, .int i => atI l i
  | .str z, .int i => (atI z.cps.toList i).map fun c => .str ⟨#[c]⟩
  | _, _ => none
theorem atI_rep {K : PySem.W.Frag} {H : Hp} {vs : List V} {ds : List PyData} {i : Int} {d : PyData} (r : Reps K H vs ds) (e : atI ds i = some d) : ∃ v, atI vs i = some v ∧ Rep K H v d := by
  unfold atI at *
  rw [r.length]
  cases q : ixN ds.length i with
  | none => rw [q] at e; cases e
  | some j =>
    rw [q] at e
    exact r.get e
theorem atI_mem {α : Type} {xs : List α} {i : Int} {x : α} (e : atI xs i = some x) : x ∈ xs := by
  unfold atI at e
  cases q : ixN xs.length i with
  | none => rw [q] at e; cases e
  | some j =>
    rw [q] at e
    exact List.mem_of_getElem? e
theorem sign_G {z : Str} {c : Nat} (h : strG z = true) (m : c ∈ z.cps.toList) : strG ⟨#[c]⟩ = true := by
  refine strG_mk (by show 1 ≤ sizeLine; decide) ?_
  have q := strG_ok h
  unfold PyData.strOk at q ⊢
  rw [← Array.all_toList, List.all_eq_true] at q
  have := q c m
  simpa using this
theorem ix_D : IxR X (rP2 X.K ixD) := by
  intro value slice pins s σ H x y v u Q I rx ry ⟨dx, dy, d, h1, h2, e, q⟩ hs
  unfold ixD at e
  split at e
  · obtain ⟨a, vs, rfl, t, r⟩ := h1.lst
    cases h2.int
    obtain ⟨w, e1, e2⟩ := atI_rep r e
    exact ix_list value slice pins s σ H _ _ v u Q I rx ry ⟨a, vs, _, w, rfl, rfl, t, e1, q _ H (Ex.refl H) e2⟩ hs
  · obtain ⟨a, vs, rfl, t, r⟩ := h1.tup
    cases h2.int
    obtain ⟨w, e1, e2⟩ := atI_rep r e
    exact ix_tup value slice pins s σ H _ _ v u Q I rx ry ⟨a, vs, _, w, rfl, rfl, t, e1, q _ H (Ex.refl H) e2⟩ hs
  · obtain ⟨rfl, z⟩ := h1.str
    cases h2.int
    rename_i z0 i0
    cases hc : atI z0.cps.toList i0 with
    | none => rw [hc] at e; cases e
    | some c =>
      rw [hc] at e
      cases e
      exact ix_str value slice pins s σ H _ _ v u Q I rx ry ⟨z0, i0, c, rfl, rfl, strG_len z, hc, q _ H (Ex.refl H) (.str _ (sign_G z (atI_mem hc)))⟩ hs
  · cases e
end
end DL

set_option Elab.async false
set_option linter.all false
set_option maxRecDepth 100000
set_option maxHeartbeats 4000000
/-! D3: expressions: what they give, as functions of the names' values and the store. -/
namespace DL
open PySem PySem.Spec PyProof.Rows L2

def eVar (i : Nat) : EF := fun ρ S => match ρ[i]? with
  | some (some w) => .ok w S
  | _ => .bad
def eC (d : PyData) : EF := fun _ S => .ok (.d d) S
def op2 (g : PyData → PyData → Option PyData) (x y : Wv) (S : Sto) : Rs Wv := match view S x with
  | some a => match view S y with
    | some b => match g a b with
      | some d => .ok (.d d) S
      | none => .bad
    | none => .bad
  | none => .bad
def eBin (g : PyData → PyData → Option PyData) (f1 f2 : EF) : EF := fun ρ S => (f1 ρ S).bind fun x S1 => (f2 ρ S1).bind fun y S2 => op2 g x y S2
def truW (x : Wv) (S : Sto) : Rs Bool := match view S x with
  | some a => match truD a with
    | some b => .ok b S
    | none => .bad
  | none => .bad
def eAnd (f g : EF) : EF := fun ρ S => (f ρ S).bind fun x S1 => (truW x S1).bind fun b S2 => if b = true then g ρ S2 else .ok x S2
def eOr (f g : EF) : EF := fun ρ S => (f ρ S).bind fun x S1 => (truW x S1).bind fun b S2 => if b = true then .ok x S2 else g ρ S2
def eNot (f : EF) : EF := fun ρ S => (f ρ S).bind fun x S1 => (truW x S1).bind fun b S2 => .ok (.d (.bool (!b))) S2
abbrev BF := Rho → Sto → Rs Bool
def tTru (f : EF) : BF := fun ρ S => (f ρ S).bind fun x S1 => truW x S1
def tAndB (f g : BF) : BF := fun ρ S => (f ρ S).bind fun b S1 => if b = true then g ρ S1 else .ok false S1
def tOrB (f g : BF) : BF := fun ρ S => (f ρ S).bind fun b S1 => if b = true then .ok true S1 else g ρ S1
def tNotB (f : BF) : BF := fun ρ S => (f ρ S).bind fun b S1 => .ok (!b) S1
def eIf (c : BF) (f g : EF) : EF := fun ρ S => (c ρ S).bind fun b S1 => if b = true then f ρ S1 else g ρ S1
def bool2 (g : PyData → PyData → Option PyData) (x y : Wv) (S : Sto) : Rs Bool := match view S x with
  | some a => match view S y with
    | some b => match g a b with
      | some (.bool k) => .ok k S
      | _ => .bad
    | none => .bad
  | none => .bad
def tCmpB (g : PyData → PyData → Option PyData) (f1 f2 : EF) : BF := fun ρ S => (f1 ρ S).bind fun x S1 => (f2 ρ S1).bind fun y S2 => bool2 g x y S2
def eCh (g g' : PyData → PyData → Option PyData) (f1 f2 f3 : EF) : EF := fun ρ S => (f1 ρ S).bind fun x S1 => (f2 ρ S1).bind fun y S2 => (bool2 g x y S2).bind fun b S3 =>
  if b = true then (f3 ρ S3).bind fun z S4 => op2 g' y z S4 else .ok (.d (.bool false)) S3
def tChB (g g' : PyData → PyData → Option PyData) (f1 f2 f3 : EF) : BF := fun ρ S => (f1 ρ S).bind fun x S1 => (f2 ρ S1).bind fun y S2 => (bool2 g x y S2).bind fun b S3 =>
  if b = true then (f3 ρ S3).bind fun z S4 => bool2 g' y z S4 else .ok false S3

def tDT (K : PySem.W.Frag) (mg : Str → Option Value) (Wx : WX) (f : BF) : TT := fun σ H Q => ∃ ad ρ S, Sig K ad H σ ρ ∧ RS K ad H S ∧ post K mg Wx σ ad H (fun _ _ v b => v = b) (f ρ S) Q
abbrev DT (X : Cx) (Wx : WX) (e : Expr) (f : BF) : Prop := PT X e (tDT X.K X.mg Wx f)
abbrev DW (X : Cx) (Wx : WX) (e : Expr) (f : BF) : Prop := PW X e (tDT X.K X.mg Wx f)

section
variable {K : PySem.W.Frag} {mg : Str → Option Value} {Wx : WX} {σ : L2.St} {ad : List Addr} {H : Hp} {S : Sto} {x y : V} {wx wy : Wv}
theorem op2_post {g : PyData → PyData → Option PyData} {Q : VK} (h : post K mg Wx σ ad H (RepW K) (op2 g wx wy S) Q) (r1 : RepW K ad H x wx) (r2 : RepW K ad H y wy) (rs : RS K ad H S) : rP2 K g x y H Q := by
  unfold op2 at h
  cases e1 : view S wx with
  | none => rw [e1] at h; exact h.elim
  | some a =>
    rw [e1] at h
    cases e2 : view S wy with
    | none => rw [e2] at h; exact h.elim
    | some b =>
      rw [e2] at h
      dsimp only at h
      cases e3 : g a b with
      | none => rw [e3] at h; exact h.elim
      | some d =>
        rw [e3] at h
        exact ⟨a, b, d, view_rep r1 rs e1, view_rep r2 rs e2, e3, fun v H' ex rv => h v H' ad ex.fr rv (rs.ex ex)⟩
theorem bool2_post {g : PyData → PyData → Option PyData} {Q : Bool → Hp → Prop} (h : post K mg Wx σ ad H (fun _ _ v b => v = b) (bool2 g wx wy S) Q) (r1 : RepW K ad H x wx) (r2 : RepW K ad H y wy) (rs : RS K ad H S) :
    rP2 K g x y H fun z H' => ∃ k, z = .bl k ∧ Q k H' := by
  unfold bool2 at h
  cases e1 : view S wx with
  | none => rw [e1] at h; exact h.elim
  | some a =>
    rw [e1] at h
    cases e2 : view S wy with
    | none => rw [e2] at h; exact h.elim
    | some b =>
      rw [e2] at h
      dsimp only at h
      cases e3 : g a b with
      | none => rw [e3] at h; exact h.elim
      | some d =>
        rw [e3] at h
        cases d with
        | bool k => exact ⟨a, b, .bool k, view_rep r1 rs e1, view_rep r2 rs e2, e3, fun v H' ex rv => by cases rv; exact ⟨k, rfl, h k H' ad ex.fr rfl (rs.ex ex)⟩⟩
        | _ => exact h.elim
theorem truW_post {Q : Bool → Hp → Prop} (h : post K mg Wx σ ad H (fun _ _ v b => v = b) (truW wx S) Q) (r1 : RepW K ad H x wx) (rs : RS K ad H S) : ∃ a b, RepV K H x a ∧ truD a = some b ∧ Q b H ∧ truW wx S = .ok b S := by
  unfold truW at h ⊢
  cases e1 : view S wx with
  | none => rw [e1] at h; exact h.elim
  | some a =>
    rw [e1] at h
    cases e2 : truD a with
    | none => dsimp only at h; rw [e2] at h; exact h.elim
    | some b =>
      dsimp only at h
      rw [e2] at h
      exact ⟨a, b, view_rep r1 rs e1, e2, h b H ad (Fr.refl ad H) rfl rs, by dsimp only; rw [e2]⟩
end
section
variable {X : Cx} {Wx : WX} {a b c : Expr} {rest : List Expr} {f g h : EF} {pos : Pos}
theorem de_var {i : Nat} {x : Str} (p : PE X (.Name x pos) (tVar i)) : DE X Wx (.Name x pos) (eVar i) := PE.conv p fun σ H Q ⟨ad, ρ, S, sg, rs, q⟩ => by
  unfold eVar at q
  cases e : ρ[i]? with
  | none => rw [e] at q; exact q.elim
  | some o =>
    rw [e] at q
    cases o with
    | none => exact q.elim
    | some w =>
      obtain ⟨v, e1, r⟩ := sg.sl i w e
      exact ⟨v, e1, q v H ad (Fr.refl ad H) r rs⟩
theorem de_c {e : Expr} {v : V} {d : PyData} (p : PE X e (tC v)) (r : ∀ H, Rep X.K H v d) : DE X Wx e (eC d) := PE.conv p fun σ H Q ⟨ad, ρ, S, sg, rs, q⟩ => q v H ad (Fr.refl ad H) (r H) rs
theorem de_int {i : Int} {j : Nat} : DE X Wx (.Constant (.int i) j pos) (eC (.int i)) := de_c pe_int fun _ => .int i
theorem de_bl {i : Bool} {j : Nat} : DE X Wx (.Constant (.bool i) j pos) (eC (.bool i)) := de_c pe_bl fun _ => .bl i
theorem de_non {j : Nat} : DE X Wx (.Constant .none j pos) (eC .none) := de_c pe_non fun _ => .non
theorem de_str {i : Str} {j : Nat} (h : strG i = true := by decide +kernel) : DE X Wx (.Constant (.str i) j pos) (eC (.str i)) := de_c pe_str fun _ => .str i h
theorem bin_conv {g0 : PyData → PyData → Option PyData} {σ : L2.St} {H : Hp} {Q : VK} (q : tD X.K X.mg Wx (eBin g0 f g) σ H Q) : tOp (rP2 X.K g0) (tD X.K X.mg Wx f) (tD X.K X.mg Wx g) σ H Q := by
  obtain ⟨ad, ρ, S, sg, rs, q⟩ := q
  refine ⟨ad, ρ, S, sg, rs, post_mono (post_bind q) ?_⟩
  rintro x H1 ⟨ad1, w1, S1, fr1, r1, rs1, q1⟩
  refine ⟨ad1, ρ, S1, sg.fr fr1, rs1, post_mono (post_bind q1) ?_⟩
  rintro y H2 ⟨ad2, w2, S2, fr2, r2, rs2, q2⟩
  exact op2_post q2 (r1.fr fr2) r2 rs2
theorem de_bin {op : Operator} {g0 : PyData → PyData → Option PyData} (ho : OpP X (binaryOp op) g0) (ha : DE X Wx a f) (hb : DE X Wx b g) : DE X Wx (.BinOp a op b pos) (eBin g0 f g) := PE.conv (pe_op ho ha hb) fun _ _ _ q => bin_conv q
theorem de_cmp {op : CmpOp} {g0 : PyData → PyData → Option PyData} (ho : OpP X (compareOp op) g0) (ha : DE X Wx a f) (hb : DE X Wx b g) (hm : behindInMarks op b = false := by with_unfolding_all rfl) : DE X Wx (.Compare a [op] [b] pos) (eBin g0 f g) :=
  PE.conv (pe_cmpR ho ha hb hm) fun _ _ _ q => bin_conv q
theorem dt_cmp {op : CmpOp} {g0 : PyData → PyData → Option PyData} (ho : OpP X (compareOp op) g0) (ha : DE X Wx a f) (hb : DE X Wx b g) (hm : behindInMarks op b = false := by with_unfolding_all rfl) : DT X Wx (.Compare a [op] [b] pos) (tCmpB g0 f g) :=
  PT.conv (pt_cmpR ho ha hb hm) fun σ H Q ⟨ad, ρ, S, sg, rs, q⟩ => by
    refine ⟨ad, ρ, S, sg, rs, post_mono (post_bind q) ?_⟩
    rintro x H1 ⟨ad1, w1, S1, fr1, r1, rs1, q1⟩
    refine ⟨ad1, ρ, S1, sg.fr fr1, rs1, post_mono (post_bind q1) ?_⟩
    rintro y H2 ⟨ad2, w2, S2, fr2, r2, rs2, q2⟩
    exact bool2_post q2 (r1.fr fr2) r2 rs2
theorem de_ix (ha : DE X Wx a f) (hb : DE X Wx b g) (hs : PlainIx b := by exact fun _ _ => rfl) : DE X Wx (.Subscript a b pos) (eBin ixD f g) := PE.conv (pe_ix ix_D ha hb hs) fun _ _ _ q => bin_conv q
theorem de_ch {op op' : CmpOp} {g0 g1 : PyData → PyData → Option PyData} (ho : OpP X (compareOp op) g0) (ho' : OpP X (compareOp op') g1) (ha : DE X Wx a f) (hb : DE X Wx b g) (hc : DE X Wx c h)
    (hm : lastMarks [op, op'] [b, c] = false := by with_unfolding_all rfl) : DE X Wx (.Compare a [op, op'] [b, c] pos) (eCh g0 g1 f g h) := PE.conv (pe_chain ho ho' ha hb hc hm) fun σ H Q ⟨ad, ρ, S, sg, rs, q⟩ => by
    refine ⟨ad, ρ, S, sg, rs, post_mono (post_bind q) ?_⟩
    rintro x H1 ⟨ad1, w1, S1, fr1, r1, rs1, q1⟩
    refine ⟨ad1, ρ, S1, sg.fr fr1, rs1, post_mono (post_bind q1) ?_⟩
    rintro y H2 ⟨ad2, w2, S2, fr2, r2, rs2, q2⟩
    have q3 := bool2_post (post_bind (Rel1 := fun _ _ v b => v = b) q2) (r1.fr fr2) r2 rs2
    obtain ⟨da, db, d, e1, e2, e3, q3⟩ := q3
    refine ⟨da, db, d, e1, e2, e3, fun v H' ex rv => ?_⟩
    obtain ⟨k, rfl, ad3, b3, S3, fr3, e4, rs3, q4⟩ := q3 v H' ex rv
    subst e4
    refine ⟨k, rfl, ?_⟩
    cases k with
    | true =>
      rw [if_pos rfl] at q4 ⊢
      refine ⟨ad3, ρ, S3, (sg.fr (fr1.trans fr2)).fr fr3, rs3, post_mono (post_bind q4) ?_⟩
      rintro z H4 ⟨ad4, w4, S4, fr4, r4, rs4, q5⟩
      exact op2_post q5 ((r2.fr fr3).fr fr4) r4 rs4
    | false =>
      rw [if_neg Bool.false_ne_true] at q4 ⊢
      exact q4 _ _ ad3 (Fr.refl _ _) (.bl false) rs3
theorem dt_ch {op op' : CmpOp} {g0 g1 : PyData → PyData → Option PyData} (ho : OpP X (compareOp op) g0) (ho' : OpP X (compareOp op') g1) (ha : DE X Wx a f) (hb : DE X Wx b g) (hc : DE X Wx c h)
    (hm : lastMarks [op, op'] [b, c] = false := by with_unfolding_all rfl) : DT X Wx (.Compare a [op, op'] [b, c] pos) (tChB g0 g1 f g h) := PT.conv (pt_chain ho ho' ha hb hc hm) fun σ H Q ⟨ad, ρ, S, sg, rs, q⟩ => by
    refine ⟨ad, ρ, S, sg, rs, post_mono (post_bind q) ?_⟩
    rintro x H1 ⟨ad1, w1, S1, fr1, r1, rs1, q1⟩
    refine ⟨ad1, ρ, S1, sg.fr fr1, rs1, post_mono (post_bind q1) ?_⟩
    rintro y H2 ⟨ad2, w2, S2, fr2, r2, rs2, q2⟩
    have q3 := bool2_post (post_bind (Rel1 := fun _ _ v b => v = b) q2) (r1.fr fr2) r2 rs2
    obtain ⟨da, db, d, e1, e2, e3, q3⟩ := q3
    refine ⟨da, db, d, e1, e2, e3, fun v H' ex rv => ?_⟩
    obtain ⟨k, rfl, ad3, b3, S3, fr3, e4, rs3, q4⟩ := q3 v H' ex rv
    subst e4
    refine ⟨k, rfl, ?_⟩
    cases k with
    | true =>
      rw [if_pos rfl] at q4 ⊢
      refine ⟨ad3, ρ, S3, (sg.fr (fr1.trans fr2)).fr fr3, rs3, post_mono (post_bind q4) ?_⟩
      rintro z H4 ⟨ad4, w4, S4, fr4, r4, rs4, q5⟩
      exact bool2_post q5 ((r2.fr fr3).fr fr4) r4 rs4
    | false =>
      rw [if_neg Bool.false_ne_true] at q4 ⊢
      exact ⟨false, rfl, q4 _ _ ad3 (Fr.refl _ _) rfl rs3⟩

/-! ### and, or, not -/
theorem de_one {op : BoolOp} (ha : DE X Wx a f) : DE X Wx (.BoolOp op [a] pos) f := pe_one ha
theorem de_and (ha : DE X Wx a f) (hb : DE X Wx (.BoolOp .And (b :: rest) pos) g) : DE X Wx (.BoolOp .And (a :: b :: rest) pos) (eAnd f g) := PE.conv (pe_andT ha hb) fun σ H Q ⟨ad, ρ, S, sg, rs, q⟩ => by
  refine ⟨ad, ρ, S, sg, rs, post_mono (post_bind q) ?_⟩
  rintro x H1 ⟨ad1, w1, S1, fr1, r1, rs1, q1⟩
  obtain ⟨da, k, rv, e, q2, e2⟩ := truW_post (post_bind (Rel1 := fun _ _ v b => v = b) q1) r1 rs1
  rw [e2] at q1
  have q1 : post X.K X.mg Wx σ ad1 H1 (RepW X.K) (if k = true then g ρ S1 else .ok w1 S1) Q := q1
  refine ⟨k, truV_of rv e, ?_⟩
  cases k with
  | true =>
    rw [if_pos rfl] at q1 ⊢
    exact ⟨ad1, ρ, S1, sg.fr fr1, rs1, q1⟩
  | false =>
    rw [if_neg Bool.false_ne_true] at q1 ⊢
    exact q1 _ _ ad1 (Fr.refl _ _) r1 rs1
theorem de_or (ha : DE X Wx a f) (hb : DE X Wx (.BoolOp .Or (b :: rest) pos) g) : DE X Wx (.BoolOp .Or (a :: b :: rest) pos) (eOr f g) := PE.conv (pe_orT ha hb) fun σ H Q ⟨ad, ρ, S, sg, rs, q⟩ => by
  refine ⟨ad, ρ, S, sg, rs, post_mono (post_bind q) ?_⟩
  rintro x H1 ⟨ad1, w1, S1, fr1, r1, rs1, q1⟩
  obtain ⟨da, k, rv, e, q2, e2⟩ := truW_post (post_bind (Rel1 := fun _ _ v b => v = b) q1) r1 rs1
  rw [e2] at q1
  have q1 : post X.K X.mg Wx σ ad1 H1 (RepW X.K) (if k = true then .ok w1 S1 else g ρ S1) Q := q1
  refine ⟨k, truV_of rv e, ?_⟩
  cases k with
  | true =>
    rw [if_pos rfl] at q1 ⊢
    exact q1 _ _ ad1 (Fr.refl _ _) r1 rs1
  | false =>
    rw [if_neg Bool.false_ne_true] at q1 ⊢
    exact ⟨ad1, ρ, S1, sg.fr fr1, rs1, q1⟩
theorem de_not (ha : DE X Wx a f) : DE X Wx (.UnaryOp .Not a pos) (eNot f) := PE.conv (pe_notT ha) fun σ H Q ⟨ad, ρ, S, sg, rs, q⟩ => by
  refine ⟨ad, ρ, S, sg, rs, post_mono (post_bind q) ?_⟩
  rintro x H1 ⟨ad1, w1, S1, fr1, r1, rs1, q1⟩
  obtain ⟨da, k, rv, e, q2, e2⟩ := truW_post (post_bind (Rel1 := fun _ _ v b => v = b) q1) r1 rs1
  rw [e2] at q1
  exact ⟨k, truV_of rv e, q1 _ _ ad1 (Fr.refl _ _) (.bl _) rs1⟩
theorem dt_tru (ha : DE X Wx a f) (he : ∀ whole, isTrue a X.env whole = (do let v ← whole; standAt a.pos; holding [v] (truthy v)) := by intro _; rfl) : DT X Wx a (tTru f) := PT.conv (pt_truth ha he) fun σ H Q ⟨ad, ρ, S, sg, rs, q⟩ => by
  refine ⟨ad, ρ, S, sg, rs, post_mono (post_bind q) ?_⟩
  rintro x H1 ⟨ad1, w1, S1, fr1, r1, rs1, q1⟩
  obtain ⟨da, k, rv, e, q2, e2⟩ := truW_post q1 r1 rs1
  exact ⟨k, truV_of rv e, q2⟩
variable {u v : BF}
theorem bool_conv {t : BF} {k : Bool → BF} {σ : L2.St} {H : Hp} {Q : Bool → Hp → Prop} (q : tDT X.K X.mg Wx (fun ρ S => (t ρ S).bind fun b S1 => k b ρ S1) σ H Q) : tDT X.K X.mg Wx t σ H fun b H1 => tDT X.K X.mg Wx (k b) σ H1 Q := by
  obtain ⟨ad, ρ, S, sg, rs, q⟩ := q
  refine ⟨ad, ρ, S, sg, rs, post_mono (post_bind q) ?_⟩
  rintro x H1 ⟨ad1, w1, S1, fr1, r1, rs1, q1⟩
  subst r1
  exact ⟨ad1, ρ, S1, sg.fr fr1, rs1, q1⟩
theorem dw_and1 (ha : DT X Wx a u) : DW X Wx (.BoolOp .And [a] pos) u := pw_and1 ha
theorem dw_or1 (ha : DT X Wx a u) : DW X Wx (.BoolOp .Or [a] pos) u := pw_or1 ha
theorem now_ok {σ : L2.St} {H : Hp} {b : Bool} {Q : Bool → Hp → Prop} (q : tDT X.K X.mg Wx (fun _ S => .ok b S) σ H Q) : Q b H := by
  obtain ⟨ad, ρ, S, sg, rs, q⟩ := q
  exact q b H ad (Fr.refl _ _) rfl rs
theorem dw_and (ha : DT X Wx a u) (hb : DW X Wx (.BoolOp .And (b :: rest) pos) v) : DW X Wx (.BoolOp .And (a :: b :: rest) pos) (tAndB u v) := PW.conv (pw_and ha hb) fun σ H Q q => by
  have q := bool_conv (t := u) (k := fun c ρ S => if c = true then v ρ S else .ok false S) q
  obtain ⟨ad, ρ, S, sg, rs, q⟩ := q
  refine ⟨ad, ρ, S, sg, rs, post_mono q fun c H1 q1 => ?_⟩
  cases c with
  | true => rw [if_pos rfl]; exact q1
  | false => rw [if_neg Bool.false_ne_true]; exact now_ok (X := X) (Wx := Wx) q1
theorem dw_or (ha : DT X Wx a u) (hb : DW X Wx (.BoolOp .Or (b :: rest) pos) v) : DW X Wx (.BoolOp .Or (a :: b :: rest) pos) (tOrB u v) := PW.conv (pw_or ha hb) fun σ H Q q => by
  have q := bool_conv (t := u) (k := fun c ρ S => if c = true then .ok true S else v ρ S) q
  obtain ⟨ad, ρ, S, sg, rs, q⟩ := q
  refine ⟨ad, ρ, S, sg, rs, post_mono q fun c H1 q1 => ?_⟩
  cases c with
  | true => rw [if_pos rfl]; exact now_ok (X := X) (Wx := Wx) q1
  | false => rw [if_neg Bool.false_ne_true]; exact q1
theorem dt_not (ha : DT X Wx a u) : DT X Wx (.UnaryOp .Not a pos) (tNotB u) := PT.conv (pt_not ha) fun σ H Q q => by
  have q := bool_conv (t := u) (k := fun c ρ S => .ok (!c) S) q
  obtain ⟨ad, ρ, S, sg, rs, q⟩ := q
  exact ⟨ad, ρ, S, sg, rs, post_mono q fun c H1 q1 => now_ok (X := X) (Wx := Wx) q1⟩
theorem de_if (hc : DT X Wx c u) (ha : DE X Wx a f) (hb : DE X Wx b g) : DE X Wx (.IfExp c a b pos) (eIf u f g) := PE.conv (pe_ifExp hc ha hb) fun σ H Q ⟨ad, ρ, S, sg, rs, q⟩ => by
  refine ⟨ad, ρ, S, sg, rs, post_mono (post_bind q) ?_⟩
  rintro x H1 ⟨ad1, w1, S1, fr1, r1, rs1, q1⟩
  subst r1
  cases x with
  | true =>
    rw [if_pos rfl] at q1 ⊢
    exact ⟨ad1, ρ, S1, sg.fr fr1, rs1, q1⟩
  | false =>
    rw [if_neg Bool.false_ne_true] at q1 ⊢
    exact ⟨ad1, ρ, S1, sg.fr fr1, rs1, q1⟩

/-! ### argument lists, tuples, lists -/
abbrev LF := Rho → Sto → Rs (List Wv)
def lNil : LF := fun _ S => .ok [] S
def lCons (f : EF) (g : LF) : LF := fun ρ S => (f ρ S).bind fun x S1 => (g ρ S1).bind fun xs S2 => .ok (x :: xs) S2
def tDA (K : PySem.W.Frag) (mg : Str → Option Value) (Wx : WX) (f : LF) : TA := fun σ H Q => ∃ ad ρ S, Sig K ad H σ ρ ∧ RS K ad H S ∧ post K mg Wx σ ad H (RepWs K) (f ρ S) Q
abbrev DA (X : Cx) (Wx : WX) (e : List Expr) (f : LF) : Prop := PA X e (tDA X.K X.mg Wx f)
theorem da_nil : DA X Wx [] lNil := PA.conv pa_nil fun σ H Q ⟨ad, ρ, S, sg, rs, q⟩ => q _ _ ad (Fr.refl _ _) .nil rs
theorem da_cons {l : LF} (ha : DE X Wx a f) (hb : DA X Wx rest l) (hs : starEach (a :: rest) X.env = (false, eval a X.env) :: starEach rest X.env := by rfl) : DA X Wx (a :: rest) (lCons f l) := PA.conv (pa_cons ha hb hs) fun σ H Q ⟨ad, ρ, S, sg, rs, q⟩ => by
  refine ⟨ad, ρ, S, sg, rs, post_mono (post_bind q) ?_⟩
  rintro x H1 ⟨ad1, w1, S1, fr1, r1, rs1, q1⟩
  refine ⟨ad1, ρ, S1, sg.fr fr1, rs1, post_mono (post_bind q1) ?_⟩
  rintro xs H2 ⟨ad2, w2, S2, fr2, r2, rs2, q2⟩
  exact q2 _ _ ad2 (Fr.refl _ _) (.cons (r1.fr fr2) r2) rs2
/-- all of them data -/
def dats : List Wv → Option (List PyData)
  | [] => some []
  | .d x :: r => (dats r).map (x :: ·)
  | .own _ :: _ => none
  | .fn _ _ _ :: _ => none
theorem dats_rep {K : PySem.W.Frag} {ad : List Addr} {H : Hp} : ∀ {vs : List V} {ws : List Wv} {ds : List PyData}, RepWs K ad H vs ws → dats ws = some ds → Reps K H vs ds
  | _, _, _, .nil, e => by cases e; exact .nil
  | _, _, ds, .cons (b := .d x) (l₂ := r) h t, e => by
    unfold dats at e
    cases q : dats r with
    | none => rw [q] at e; cases e
    | some l =>
      rw [q] at e
      cases e
      exact .cons h (dats_rep t q)
  | _, _, _, .cons (b := .own _) _ _, e => by cases e
  | _, _, _, .cons (b := .fn _ _ _) _ _, e => by cases e
def litOk (n : Nat) : Bool := decide (n ≤ 1000)
theorem lit_size {n : Nat} (h : litOk n = true) : n ≤ sizeLine := Nat.le_trans (of_decide_eq_true h) (by decide)
def eTup (l : LF) : EF := fun ρ S => (l ρ S).bind fun ws S1 => match dats ws with
  | some ds => if litOk ds.length then .ok (.d (.tuple ds)) S1 else .bad
  | none => .bad
theorem de_tup {l : LF} {x1} (h : DA X Wx rest l) : DE X Wx (.Tuple rest x1 pos) (eTup l) := PE.conv (pe_tup h) fun σ H Q ⟨ad, ρ, S, sg, rs, q⟩ => by
  refine ⟨ad, ρ, S, sg, rs, post_mono (post_bind q) ?_⟩
  rintro vs H1 ⟨ad1, ws, S1, fr1, r1, rs1, q1⟩
  cases e : dats ws with
  | none => rw [e] at q1; exact q1.elim
  | some ds =>
    rw [e] at q1
    dsimp only at q1
    split at q1
    · rename_i hl
      have rd := dats_rep r1 e
      refine ⟨by rw [rd.length]; exact lit_size hl, fun p hp => ?_⟩
      have ex : Ex H1 (upd H1 p (.tup vs)) := Ex.new hp
      exact q1 _ _ ad1 ex.fr (.tup (SqT.of upd_same) (Reps.stb ex.stb _ rd)) (rs1.ex ex)
    · exact q1.elim
/-- a list just made -/
abbrev MF := Rho → Sto → Rs (List PyData)
def Made (K : PySem.W.Frag) (H : Hp) (ad' : List Addr) (H' : Hp) (v : V) (l : List PyData) : Prop := ∃ p vs, v = .ref p ∧ H p = none ∧ p ∉ ad' ∧ H' p = some (.lst vs) ∧ Reps K H' vs l
def tDM (K : PySem.W.Frag) (mg : Str → Option Value) (Wx : WX) (f : MF) : TE := fun σ H Q => ∃ ad ρ S, Sig K ad H σ ρ ∧ RS K ad H S ∧ post K mg Wx σ ad H (Made K H) (f ρ S) Q
abbrev DM (X : Cx) (Wx : WX) (e : Expr) (f : MF) : Prop := PE X e (tDM X.K X.mg Wx f)
def eFz (f : MF) : EF := fun ρ S => (f ρ S).bind fun l S1 => .ok (.d (.list l)) S1
def eOwn (f : MF) : EF := fun ρ S => (f ρ S).bind fun l S1 => .ok (.own S1.length) (S1 ++ [.lst l])
theorem frz_ex {H H1 : Hp} {p : Addr} {o : HO} (h : H p = none) (e : ∀ a u, H a = some u → H1 a = some u) : Ex H (upd H1 p o) := fun a u q => by
  rw [upd_ne (ne_of_none q h)]; exact e a u q
theorem rs_upd {K : PySem.W.Frag} {ad : List Addr} {H1 : Hp} {S : Sto} {p : Addr} {vs : List V} {o : HO} (rs : RS K ad H1 S) (hp : p ∉ ad) (e : H1 p = some (.lst vs)) : RS K ad (upd H1 p o) S := by
  have st : Stb H1 (upd H1 p o) := fun a u hi q => by
    by_cases ha : a = p
    · subst ha
      rw [e] at q; cases q
      exact hi.elim
    · rw [upd_ne ha]; exact q
  refine ⟨rs.len, rs.nd, fun (k : Nat) (ob : MO) q => ?_⟩
  obtain ⟨a, e1, e2⟩ := rs.ob k ob q
  refine ⟨a, e1, ?_⟩
  have ha : a ≠ p := fun z => hp (z ▸ List.mem_of_getElem? e1)
  cases ob with
  | lst l =>
    obtain ⟨us, q1, q2⟩ := e2
    exact ⟨us, by rw [upd_ne ha]; exact q1, Reps.stb st _ q2⟩
  | frz l =>
    obtain ⟨us, o1, q1, q2⟩ := e2
    exact ⟨us, o1, by rw [upd_ne ha]; exact q1, Reps.stb st _ q2⟩
  | tab P q => exact ⟨e2.1, tab_upd e e2.2⟩
theorem fr_upd {ad ad' : List Addr} {H H1 : Hp} {p : Addr} {vs : List V} {o : HO} (fr : Fr ad H ad' H1) (h0 : H p = none) (hp : p ∉ ad') (e : H1 p = some (.lst vs)) : Fr ad H ad' (upd H1 p o) :=
  ⟨fr.ext, fun a u q hn => by
    rw [upd_ne (ne_of_none q h0)]; exact fr.keep a u q hn, fr.new, fun a u hi q => by
    rw [upd_ne (ne_of_none q h0)]; exact fr.stb a u hi q⟩
theorem de_fz {e : Expr} {m : MF} (h : DM X Wx e m) : DE X Wx e (eFz m) := PE.conv (pe_freeze h) fun σ H Q ⟨ad, ρ, S, sg, rs, q⟩ => by
  refine ⟨ad, ρ, S, sg, rs, ?_⟩
  unfold eFz at q
  revert q
  cases m ρ S with
  | bad => exact fun z => z
  | exc x S' => exact fun z => z
  | ok l S' =>
    intro q v H1 ad1 fr ⟨p, vs, e1, h0, hp, e2, r⟩ rs1
    refine ⟨p, vs, e1, e2, fun o => ?_⟩
    have st : Stb H1 (upd H1 p (.frz o (.lst vs))) := fun a u hi z => by
      by_cases ha : a = p
      · subst ha; rw [e2] at z; cases z; exact hi.elim
      · rw [upd_ne ha]; exact z
    subst e1
    exact q _ _ ad1 (fr_upd fr h0 hp e2) (.lst (.inl ⟨o, upd_same⟩) (Reps.stb st _ r)) (rs_upd rs1 hp e2)
theorem de_own {e : Expr} {m : MF} (h : DM X Wx e m) : DE X Wx e (eOwn m) := PE.conv h fun σ H Q ⟨ad, ρ, S, sg, rs, q⟩ => by
  refine ⟨ad, ρ, S, sg, rs, ?_⟩
  unfold eOwn at q
  revert q
  cases m ρ S with
  | bad => exact fun z => z
  | exc x S' => exact fun z => z
  | ok l S' =>
    intro q v H1 ad1 fr ⟨p, vs, e1, h0, hp, e2, r⟩ rs1
    subst e1
    have hl := rs1.len
    refine q _ _ (ad1 ++ [p]) ⟨?_, fr.keep, fun a ha hn => ?_, fr.stb⟩ ⟨p, ?_, rfl⟩ ⟨?_, ?_, fun (k : Nat) (ob : MO) z => ?_⟩
    · obtain ⟨t, e⟩ := fr.ext
      exact ⟨t ++ [p], by rw [e, List.append_assoc]⟩
    · rcases List.mem_append.mp ha with z | z
      · exact fr.new a z hn
      · have : a = p := by simpa using z
        rw [this]; exact h0
    · rw [← hl]; simp
    · simp [hl]
    · rw [List.nodup_append]
      exact ⟨rs1.nd, by simp, fun a ha b hb z => by
        have : b = p := by simpa using hb
        subst z this
        exact hp ha⟩
    · by_cases hk : k < S'.length
      · rw [List.getElem?_append_left hk] at z
        obtain ⟨a, z1, z2⟩ := rs1.ob k ob z
        exact ⟨a, by rw [List.getElem?_append_left (by rw [hl]; exact hk)]; exact z1, z2⟩
      · rw [List.getElem?_append_right (by omega)] at z
        have hk2 : k - S'.length = 0 := by
          by_cases hh : k - S'.length = 0
          · exact hh
          · rw [List.getElem?_eq_none (by simp; omega)] at z; cases z
        rw [hk2] at z
        simp at z
        subst z
        refine ⟨p, ?_, vs, e2, r⟩
        rw [List.getElem?_append_right (by omega), hl, hk2]; rfl
def mLst (l : LF) : MF := fun ρ S => (l ρ S).bind fun ws S1 => match dats ws with
  | some ds => if litOk ds.length then .ok ds S1 else .bad
  | none => .bad
theorem Fr.back {K : PySem.W.Frag} {ad ad' : List Addr} {H H1 : Hp} {p : Addr} {S : Sto} (fr : Fr ad H ad' H1) (rs : RS K ad' H1 S) (h : H1 p = none) : H p = none ∧ p ∉ ad' := by
  have h1 : p ∉ ad' := fun hp => by
    obtain ⟨u, e⟩ := rs.here hp
    rw [h] at e; cases e
  refine ⟨?_, h1⟩
  cases q : H p with
  | none => rfl
  | some o =>
    have hp : p ∉ ad := fun z => h1 (by
      obtain ⟨t, e⟩ := fr.ext
      rw [e]; exact List.mem_append_left _ z)
    obtain ⟨u, hu⟩ := (fr.keep p o q hp).some; rw [hu] at h; cases h
theorem dm_lst {l : LF} (h : DA X Wx rest l) : DM X Wx (.List rest pos) (mLst l) := PE.conv (pe_lst h) fun σ H Q ⟨ad, ρ, S, sg, rs, q⟩ => by
  refine ⟨ad, ρ, S, sg, rs, ?_⟩
  unfold mLst at q
  revert q
  cases l ρ S with
  | bad => exact fun z => z
  | exc x S' => exact fun z => z
  | ok ws S1 =>
    intro q vs H1 ad1 fr1 r1 rs1
    simp only [Rs.bind] at q
    cases e : dats ws with
    | none => rw [e] at q; exact q.elim
    | some ds =>
      rw [e] at q
      dsimp only at q
      split at q
      · rename_i hl
        have rd := dats_rep r1 e
        refine ⟨by rw [rd.length]; exact lit_size hl, fun p hp => ?_⟩
        obtain ⟨h0, hn⟩ := fr1.back rs1 hp
        have ex : Ex H1 (upd H1 p (.lst vs)) := Ex.new hp
        exact q _ _ ad1 (fr1.trans ex.fr) ⟨p, vs, rfl, h0, hn, upd_same, Reps.stb ex.stb _ rd⟩ (rs1.ex ex)
      · exact q.elim
/-! ### a changing list is locked where it goes into data -/
def frzW (w : Wv) (S : Sto) : Rs Wv := match w with
  | .d x => .ok (.d x) S
  | .own k => match S[k]? with
    | some (.lst l) => .ok (.d (.list l)) (S.set k (.frz l))
    | some (.frz l) => .ok (.d (.list l)) S
    | _ => .bad
  | .fn _ _ _ => .bad
def eFrz (f : EF) : EF := fun ρ S => (f ρ S).bind frzW
def tFrzIf (te : TE) : TE := fun σ H Q => te σ H fun v H' => Q v H' ∨ ∃ a vs, v = .ref a ∧ H' a = some (.lst vs) ∧ ∀ o, Q v (upd H' a (.frz o (.lst vs)))
theorem pe_frzIf {X : Cx} {e : Expr} {te : TE} (h : PE X e te) : PE X e (tFrzIf te) := ⟨fun pins s σ H Q I q => thn (h.run pins s σ H _ I q) fun _ _ ⟨v, H', I', r, z⟩ => by
  rcases z with z | z
  · exact ⟨v, H', I', r, z⟩
  · exact EP.freeze ⟨v, H', I', r, z⟩⟩
theorem frz_fr {K : PySem.W.Frag} {ad ad' : List Addr} {H H1 : Hp} {a : Addr} {vs : List V} {o : HO} (fr : Fr ad H ad' H1) (ha : a ∈ ad') (e : H1 a = some (.lst vs)) : Fr ad H ad' (upd H1 a o) := by
  refine ⟨fr.ext, fun b u q hn => ?_, fr.new, fun b u hi q => ?_⟩
  · have : b ≠ a := fun z => by
      subst z
      have := fr.new b ha hn
      rw [q] at this; cases this
    rw [upd_ne this]; exact fr.keep b u q hn
  · have : b ≠ a := fun z => by
      subst z
      have := fr.stb b u hi q
      rw [e] at this; cases this
      exact hi.elim
    rw [upd_ne this]; exact fr.stb b u hi q
theorem nodup_at {α : Type} : ∀ {l : List α}, l.Nodup → ∀ {i j : Nat} {x : α}, l[i]? = some x → l[j]? = some x → i = j
  | [], _, i, j, x, e, _ => by simp at e
  | a :: l, h, 0, 0, x, _, _ => rfl
  | a :: l, h, 0, j + 1, x, e, e' => by
    simp at e e'
    subst e
    exact absurd (List.mem_of_getElem? e') (List.nodup_cons.mp h).1
  | a :: l, h, i + 1, 0, x, e, e' => by
    simp at e e'
    subst e'
    exact absurd (List.mem_of_getElem? e) (List.nodup_cons.mp h).1
  | a :: l, h, i + 1, j + 1, x, e, e' => by
    rw [nodup_at (List.nodup_cons.mp h).2 (i := i) (j := j) (x := x) (by simpa using e) (by simpa using e')]
theorem stb_upd {H1 : Hp} {a : Addr} {vs : List V} {o : HO} (e : H1 a = some (.lst vs)) : Stb H1 (upd H1 a o) := fun b u hi z => by
  by_cases hb : b = a
  · subst hb; rw [e] at z; cases z; exact hi.elim
  · rw [upd_ne hb]; exact z
theorem rs_set {K : PySem.W.Frag} {ad : List Addr} {H1 : Hp} {S : Sto} {k : Nat} {a : Addr} {vs : List V} {o : HO} {m : MO} (rs : RS K ad H1 S) (ha : ad[k]? = some a) (e : H1 a = some (.lst vs)) (hm : ObR K (upd H1 a o) a m) : RS K ad (upd H1 a o) (S.set k m) := by
  refine ⟨by rw [List.length_set]; exact rs.len, rs.nd, fun (j : Nat) (ob : MO) q => ?_⟩
  by_cases hj : k = j
  · subst hj
    have hk : k < S.length := by rw [← rs.len]; exact (List.getElem?_eq_some_iff.mp ha).1
    rw [List.getElem?_set_self hk] at q
    cases q
    exact ⟨a, ha, hm⟩
  · rw [List.getElem?_set_ne hj] at q
    obtain ⟨b, e1, e2⟩ := rs.ob j ob q
    have hb : b ≠ a := fun z => hj (nodup_at rs.nd ha (z ▸ e1))
    refine ⟨b, e1, ?_⟩
    cases ob with
    | lst l =>
      obtain ⟨us, q1, q2⟩ := e2
      exact ⟨us, by rw [upd_ne hb]; exact q1, Reps.stb (stb_upd e) _ q2⟩
    | frz l =>
      obtain ⟨us, o1, q1, q2⟩ := e2
      exact ⟨us, o1, by rw [upd_ne hb]; exact q1, Reps.stb (stb_upd e) _ q2⟩
    | tab P q => exact ⟨e2.1, tab_upd e e2.2⟩
theorem de_frz {e : Expr} (h : DE X Wx e f) : DE X Wx e (eFrz f) := PE.conv (pe_frzIf h) fun σ H Q ⟨ad, ρ, S, sg, rs, q⟩ => by
  refine ⟨ad, ρ, S, sg, rs, post_mono (post_bind q) ?_⟩
  rintro v H1 ⟨ad1, w, S1, fr1, r1, rs1, q1⟩
  unfold frzW at q1
  cases w with
  | d x => exact .inl (q1 _ _ ad1 (Fr.refl _ _) r1 rs1)
  | own k =>
    obtain ⟨a, ha, rfl⟩ := r1
    dsimp only at q1
    cases hk : S1[k]? with
    | none => rw [hk] at q1; exact q1.elim
    | some ob =>
      rw [hk] at q1
      obtain ⟨a', ha', ob'⟩ := rs1.ob k ob hk
      rw [ha] at ha'; cases ha'
      cases ob with
      | lst l =>
        obtain ⟨vs, e1, e2⟩ := ob'
        refine .inr ⟨a, vs, rfl, e1, fun o => ?_⟩
        exact q1 _ _ ad1 (frz_fr (K := X.K) (Fr.refl _ _) (List.mem_of_getElem? ha) e1) (.lst (.inl ⟨o, upd_same⟩) (Reps.stb (stb_upd e1) _ e2))
          (rs_set rs1 ha e1 ⟨vs, o, upd_same, Reps.stb (stb_upd e1) _ e2⟩)
      | frz l =>
        obtain ⟨vs, o1, e1, e2⟩ := ob'
        exact .inl (q1 _ _ ad1 (Fr.refl _ _) (.lst (.inl ⟨o1, e1⟩) e2) rs1)
      | tab P q => exact q1.elim
  | fn f c q => exact q1.elim
end
end DL

set_option Elab.async false
set_option linter.all false
set_option maxRecDepth 100000
set_option maxHeartbeats 4000000
/-! D4: statements, targets, what is walked, loops, comprehensions. -/
namespace DL
open PySem PySem.Spec PyProof.Rows L2

inductive Fl where
  | nx (ρ : Rho) | rt (w : Wv) | bk (ρ : Rho) | ct (ρ : Rho)
inductive RF where
  | bad | fl (f : Fl) (S : Sto) | exc (x : Xc) (ρ : Rho) (S : Sto)
abbrev SF := Rho → Sto → RF
def postS (K : PySem.W.Frag) (mg : Str → Option Value) (Wx : WX) (ad : List Addr) (H : Hp) (r : RF) (D : Ends) : Prop :=
  match r with
  | .bad => False
  | .fl (.nx ρ) S' => ∀ σ' H' ad', Fr ad H ad' H' → Sig K ad' H' σ' ρ → RS K ad' H' S' → D.nx σ' H'
  | .fl (.bk ρ) S' => ∀ σ' H' ad', Fr ad H ad' H' → Sig K ad' H' σ' ρ → RS K ad' H' S' → D.bk σ' H'
  | .fl (.ct ρ) S' => ∀ σ' H' ad', Fr ad H ad' H' → Sig K ad' H' σ' ρ → RS K ad' H' S' → D.ct σ' H'
  | .fl (.rt w) S' => ∀ v H' ad', Fr ad H ad' H' → RepW K ad' H' v w → RS K ad' H' S' → D.rt v H'
  | .exc x ρ S' => ∀ cls d σ' H' ad', Fr ad H ad' H' → Sig K ad' H' σ' ρ → XRep K mg H' cls d x → RS K ad' H' S' → Wx cls d σ' H'
def seqR (r : RF) (k : SF) : RF := match r with
  | .fl (.nx ρ) S => k ρ S
  | r => r
def stepR (r : RF) (k : SF) : RF := match r with
  | .fl (.nx ρ) S => k ρ S
  | .fl (.ct ρ) S => k ρ S
  | .fl (.bk ρ) S => .fl (.nx ρ) S
  | r => r
section
variable {K : PySem.W.Frag} {mg : Str → Option Value} {Wx : WX} {ad ad1 : List Addr} {H H1 : Hp} {r : RF} {k : SF} {D : Ends}
theorem postS_fr (h : postS K mg Wx ad H r D) (f : Fr ad H ad1 H1) : postS K mg Wx ad1 H1 r D := by
  cases r with
  | bad => exact h
  | exc x ρ S => exact fun cls d σ' H' ad' fr => h cls d σ' H' ad' (f.trans fr)
  | fl g S =>
    cases g with
    | nx ρ => exact fun σ' H' ad' fr => h σ' H' ad' (f.trans fr)
    | bk ρ => exact fun σ' H' ad' fr => h σ' H' ad' (f.trans fr)
    | ct ρ => exact fun σ' H' ad' fr => h σ' H' ad' (f.trans fr)
    | rt w => exact fun v H' ad' fr => h v H' ad' (f.trans fr)
theorem postS_seq (h : postS K mg Wx ad H (seqR r k) D) : postS K mg Wx ad H r { D with nx := fun σ1 H1 => ∃ ad1 ρ1 S1, Sig K ad1 H1 σ1 ρ1 ∧ RS K ad1 H1 S1 ∧ postS K mg Wx ad1 H1 (k ρ1 S1) D } := by
  cases r with
  | bad => exact h
  | exc x ρ S => exact h
  | fl g S =>
    cases g with
    | nx ρ => exact fun σ' H' ad' fr sg rs => ⟨ad', ρ, S, sg, rs, postS_fr (r := k ρ S) h fr⟩
    | bk ρ => exact h
    | ct ρ => exact h
    | rt w => exact h
theorem postS_step {N : L2.St → Hp → Prop} (hN : ∀ σ1 H1 ad1 ρ1 S1, Fr ad H ad1 H1 → Sig K ad1 H1 σ1 ρ1 → RS K ad1 H1 S1 → postS K mg Wx ad1 H1 (k ρ1 S1) D → N σ1 H1) (h : postS K mg Wx ad H (stepR r k) D) :
    postS K mg Wx ad H r { D with nx := N, ct := N, bk := D.nx } := by
  cases r with
  | bad => exact h
  | exc x ρ S => exact h
  | fl g S =>
    cases g with
    | nx ρ => exact fun σ' H' ad' fr sg rs => hN σ' H' ad' ρ S fr sg rs (postS_fr (r := k ρ S) h fr)
    | bk ρ => exact h
    | ct ρ => exact fun σ' H' ad' fr sg rs => hN σ' H' ad' ρ S fr sg rs (postS_fr (r := k ρ S) h fr)
    | rt w => exact h
end
def tDS (K : PySem.W.Frag) (mg : Str → Option Value) (Wx : WX) (f : SF) : TS := fun D σ H => ∃ ad ρ S, Sig K ad H σ ρ ∧ RS K ad H S ∧ postS K mg Wx ad H (f ρ S) D
abbrev DS (X : Cx) (Wx : WX) (st : Stmt) (f : SF) : Prop := PS X st (tDS X.K X.mg Wx f)
abbrev DSs (X : Cx) (Wx : WX) (st : List Stmt) (f : SF) : Prop := PSs X st (tDS X.K X.mg Wx f)

/-! ### blocks, small statements -/
def sNil : SF := fun ρ S => .fl (.nx ρ) S
def sSeq (f g : SF) : SF := fun ρ S => seqR (f ρ S) g
/-- a result of an expression goes on -/
def bindS {α : Type} (r : Rs α) (ρ : Rho) (k : α → Sto → RF) : RF := match r with
  | .bad => .bad
  | .ok a S => k a S
  | .exc x S => .exc x ρ S
def sExpr (f : EF) : SF := fun ρ S => bindS (f ρ S) ρ fun _ S1 => .fl (.nx ρ) S1
def sRet (f : EF) : SF := fun ρ S => bindS (f ρ S) ρ fun w S1 => .fl (.rt w) S1
def sRetN : SF := fun ρ S => .fl (.rt (.d .none)) S
def sIf (c : BF) (f g : SF) : SF := fun ρ S => bindS (c ρ S) ρ fun b S1 => if b = true then f ρ S1 else g ρ S1
def sSet (i : Nat) (f : EF) : SF := fun ρ S => bindS (f ρ S) ρ fun w S1 => .fl (.nx (ρ.set i (some w))) S1
def sBreak : SF := fun ρ S => .fl (.bk ρ) S
def sCont : SF := fun ρ S => .fl (.ct ρ) S
section
variable {K : PySem.W.Frag} {mg : Str → Option Value} {Wx : WX} {ad : List Addr} {H : Hp} {D : Ends} {σ : L2.St} {ρ : Rho}
theorem bindS_post {α β : Type} {Rel : List Addr → Hp → β → α → Prop} {r : Rs α} {k : α → Sto → RF} (sg : Sig K ad H σ ρ) (h : postS K mg Wx ad H (bindS r ρ k) D) :
    post K mg Wx σ ad H Rel r (fun v H1 => ∃ ad1 w S1, Fr ad H ad1 H1 ∧ Rel ad1 H1 v w ∧ RS K ad1 H1 S1 ∧ postS K mg Wx ad1 H1 (k w S1) D) := by
  cases r with
  | bad => exact h
  | exc x S' => exact fun cls d H' ad' fr xr rs => h cls d σ H' ad' fr (sg.fr fr) xr rs
  | ok w S' => exact fun v H1 ad1 fr rel rs => ⟨ad1, w, S', fr, rel, rs, postS_fr (r := k w S') h fr⟩
theorem Sig.set {v : V} {w : Wv} (sg : Sig K ad H σ ρ) (i : Nat) (r : RepW K ad H v w) : Sig K ad H (σ.set i (some v)) (ρ.set i (some w)) := by
  refine ⟨by rw [List.length_set, List.length_set]; exact sg.len, fun j u e => ?_⟩
  by_cases hj : i = j
  · subst hj
    by_cases hi : i < ρ.length
    · rw [List.getElem?_set_self hi] at e
      cases e
      exact ⟨v, by rw [List.getElem?_set_self (by rw [sg.len]; exact hi)], r⟩
    · rw [List.getElem?_eq_none (by simpa using hi)] at e; cases e
  · rw [List.getElem?_set_ne hj] at e
    obtain ⟨v', e1, e2⟩ := sg.sl j u e
    exact ⟨v', by rw [List.getElem?_set_ne hj]; exact e1, e2⟩
end
section
variable {X : Cx} {Wx : WX} {e : Expr} {f : EF} {st : Stmt} {rest : List Stmt} {s1 s2 : SF} {pos : Pos}
theorem ds_nil : DSs X Wx [] sNil := PSs.conv pss_nil fun D σ H ⟨ad, ρ, S, sg, rs, q⟩ => q σ H ad (Fr.refl _ _) sg rs
theorem ds_cons (h1 : DS X Wx st s1) (h2 : DSs X Wx rest s2) : DSs X Wx (st :: rest) (sSeq s1 s2) := PSs.conv (pss_cons h1 h2) fun D σ H ⟨ad, ρ, S, sg, rs, q⟩ => ⟨ad, ρ, S, sg, rs, postS_seq q⟩
theorem ds_one (h1 : DS X Wx st s1) : DSs X Wx [st] s1 := pss_one h1
theorem ds_pass : DS X Wx (.Pass pos) sNil := PS.conv ps_pass fun D σ H ⟨ad, ρ, S, sg, rs, q⟩ => q σ H ad (Fr.refl _ _) sg rs
theorem ds_break : DS X Wx (.Break pos) sBreak := PS.conv ps_break fun D σ H ⟨ad, ρ, S, sg, rs, q⟩ => q σ H ad (Fr.refl _ _) sg rs
theorem ds_continue : DS X Wx (.Continue pos) sCont := PS.conv ps_continue fun D σ H ⟨ad, ρ, S, sg, rs, q⟩ => q σ H ad (Fr.refl _ _) sg rs
theorem ds_expr (h : DE X Wx e f) (hs : swapsWith e none pos.line X.env = pure false := by rfl) : DS X Wx (.Expr e pos) (sExpr f) := PS.conv (ps_expr h hs) fun D σ H ⟨ad, ρ, S, sg, rs, q⟩ =>
  ⟨ad, ρ, S, sg, rs, post_mono (bindS_post sg q) fun v H1 ⟨ad1, w, S1, fr, rel, rs1, q1⟩ => q1 σ H1 ad1 (Fr.refl _ _) (sg.fr fr) rs1⟩
theorem ds_ret (h : DE X Wx e f) : DS X Wx (.Return (some e) pos) (sRet f) := PS.conv (ps_ret h) fun D σ H ⟨ad, ρ, S, sg, rs, q⟩ =>
  ⟨ad, ρ, S, sg, rs, post_mono (bindS_post sg q) fun v H1 ⟨ad1, w, S1, fr, rel, rs1, q1⟩ => q1 v H1 ad1 (Fr.refl _ _) rel rs1⟩
theorem ds_retN : DS X Wx (.Return none pos) sRetN := PS.conv ps_retN fun D σ H ⟨ad, ρ, S, sg, rs, q⟩ => q _ H ad (Fr.refl _ _) .non rs
theorem ds_if {c : Expr} {a b : List Stmt} {u : BF} (hc : DT X Wx c u) (ha : DSs X Wx a s1) (hb : DSs X Wx b s2) : DS X Wx (.If c a b pos) (sIf u s1 s2) := PS.conv (ps_if hc ha hb) fun D σ H ⟨ad, ρ, S, sg, rs, q⟩ => by
  refine ⟨ad, ρ, S, sg, rs, post_mono (bindS_post sg q) ?_⟩
  rintro b H1 ⟨ad1, w, S1, fr, rel, rs1, q1⟩
  subst rel
  cases b with
  | true =>
    rw [if_pos rfl] at q1 ⊢
    exact ⟨ad1, ρ, S1, sg.fr fr, rs1, q1⟩
  | false =>
    rw [if_neg Bool.false_ne_true] at q1 ⊢
    exact ⟨ad1, ρ, S1, sg.fr fr, rs1, q1⟩
theorem ds_set {i : Nat} {x : Str} {pos' : Pos} (hN : X.N.Nodup) (hi : X.N[i]? = some x) (hx : Loc X.env.scope x) (he : DE X Wx e f) (hs : swapsWith e (some (.Name x pos')) pos.line X.env = pure false := by rfl) (hf : X.fn x = true ∨ X.env.scope.names.lookup x = some .local := by first | exact .inl rfl | exact .inr rfl | assumption) :
    DS X Wx (.Assign [.Name x pos'] e pos) (sSet i f) := PS.conv (ps_set hN hi hx he hs hf) fun D σ H ⟨ad, ρ, S, sg, rs, q⟩ =>
  ⟨ad, ρ, S, sg, rs, post_mono (bindS_post sg q) fun v H1 ⟨ad1, w, S1, fr, rel, rs1, q1⟩ => q1 _ H1 ad1 (Fr.refl _ _) ((sg.fr fr).set i rel) rs1⟩
end

/-! ### targets -/
def SameBut (ix : List Nat) (σ σ' : L2.St) : Prop := σ'.length = σ.length ∧ ∀ (j : Nat), j ∉ ix → σ'[j]? = σ[j]?
abbrev GF := PyData → Rho → Option Rho
abbrev GFs := List PyData → Rho → Option Rho
def tDG (K : PySem.W.Frag) (ix : List Nat) (t : GF) : TG := fun v σ H Q => ∃ ad ρ d ρ', Sig K ad H σ ρ ∧ Rep K H v d ∧ t d ρ = some ρ' ∧ ∀ σ', Sig K ad H σ' ρ' → SameBut ix σ σ' → Q σ' H
def tDGs (K : PySem.W.Frag) (ix : List Nat) (t : GFs) : TGs := fun vs σ H Q => ∃ ad ρ ds ρ', Sig K ad H σ ρ ∧ Reps K H vs ds ∧ t ds ρ = some ρ' ∧ ∀ σ', Sig K ad H σ' ρ' → SameBut ix σ σ' → Q σ' H
abbrev DG (X : Cx) (ix : List Nat) (tg : Expr) (t : GF) : Prop := PG X tg (tDG X.K ix t)
abbrev DGs (X : Cx) (ix : List Nat) (tg : List Expr) (t : GFs) : Prop := PGs X tg (tDGs X.K ix t)
theorem PG.conv {X : Cx} {e : Expr} {t t' : TG} (h : PG X e t) (c : ∀ v σ H Q, t' v σ H Q → t v σ H Q) : PG X e t' := ⟨fun pins s σ H v u Q I r q => h.run pins s σ H v u Q I r (c _ _ _ _ q)⟩
theorem PGs.conv {X : Cx} {e : List Expr} {t t' : TGs} (h : PGs X e t) (c : ∀ (v : List V) (σ : L2.St) (H : Hp) (Q : L2.St → Hp → Prop), t' v σ H Q → t v σ H Q) : PGs X e t' := ⟨fun pins s σ H v u Q I r q => h.run pins s σ H v u Q I r (c _ _ _ _ q)⟩
theorem pg_or {X : Cx} {e : Expr} {t t' : TG} (h : PG X e t) (h' : PG X e t') : PG X e (fun v σ H Q => t v σ H Q ∨ t' v σ H Q) := ⟨fun pins s σ H v u Q I r q => q.elim (h.run pins s σ H v u Q I r) (h'.run pins s σ H v u Q I r)⟩
def gNm (i : Nat) : GF := fun d ρ => some (ρ.set i (some (.d d)))
def gsNil : GFs := fun ds ρ => match ds with
  | [] => some ρ
  | _ => none
def gsCons (t : GF) (u : GFs) : GFs := fun ds ρ => match ds with
  | d :: r => match t d ρ with
    | some ρ1 => u r ρ1
    | none => none
  | [] => none
def gTp (n : Nat) (t : GFs) : GF := fun d ρ => match d with
  | .tuple l => if l.length = n then t l ρ else none
  | .list l => if l.length = n then t l ρ else none
  | _ => none
section
variable {X : Cx} {e : Expr} {es : List Expr} {ix ix' : List Nat} {t : GF} {u : GFs} {pos : Pos}
theorem dg_name {i : Nat} {x : Str} (p : PG X (.Name x pos) (gName i)) : DG X [i] (.Name x pos) (gNm i) := PG.conv p fun v σ H Q ⟨ad, ρ, d, ρ', sg, r, e, q⟩ => by
  cases e
  exact q _ (sg.set i (w := .d d) r) ⟨List.length_set, fun j hj => List.getElem?_set_ne (fun z => hj (by simp [z]))⟩
theorem dgs_nil : DGs X [] [] gsNil := PGs.conv pgs_nil fun vs σ H Q ⟨ad, ρ, ds, ρ', sg, r, e, q⟩ => by
  cases r with
  | nil =>
    cases e
    exact ⟨rfl, q σ sg ⟨rfl, fun _ _ => rfl⟩⟩
  | cons _ _ => cases e
theorem dgs_cons (h1 : DG X ix e t) (h2 : DGs X ix' es u) (hs : (assignEach (e :: es) X.env).map (·.2) = assign e X.env :: (assignEach es X.env).map (·.2) := by rfl) : DGs X (ix ++ ix') (e :: es) (gsCons t u) :=
  PGs.conv (pgs_cons h1 h2 hs) fun vs σ H Q ⟨ad, ρ, ds, ρ', sg, r, e, q⟩ => by
    cases r with
    | nil => cases e
    | @cons v vs d ds r1 r2 =>
      unfold gsCons at e
      dsimp only at e
      cases ht : t d ρ with
      | none => rw [ht] at e; cases e
      | some ρ1 =>
        rw [ht] at e
        refine ⟨v, vs, rfl, ad, ρ, d, ρ1, sg, r1, ht, fun σ1 sg1 sb1 => ⟨ad, ρ1, ds, ρ', sg1, r2, e, fun σ2 sg2 sb2 => q σ2 sg2 ⟨sb2.1.trans sb1.1, fun j hj => ?_⟩⟩⟩
        rw [List.mem_append, not_or] at hj
        exact (sb2.2 j hj.2).trans (sb1.2 j hj.1)
theorem dg_tup {k n : Nat} (hc : X.calm = true) (h : DGs X ix es u) (hn : (assignEach es X.env).length = n := by rfl) (hst : (assignEach es X.env).findIdx? (·.1) = none := by rfl) : DG X ix (.Tuple es k pos) (gTp n u) :=
  PG.conv (pg_or (pg_tup hc h hn hst) (pg_lst hc h hn hst)) fun v σ H Q ⟨ad, ρ, d, ρ', sg, r, e, q⟩ => by
    unfold gTp at e
    split at e
    · split at e
      · rename_i hl
        cases r with
        | tup t1 r1 => exact .inl ⟨_, _, rfl, t1, by rw [r1.length]; exact hl, ad, ρ, _, ρ', sg, r1, e, q⟩
      · cases e
    · split at e
      · rename_i hl
        cases r with
        | lst t1 r1 => exact .inr ⟨_, _, rfl, t1.sq, by rw [r1.length]; exact hl, ad, ρ, _, ρ', sg, r1, e, q⟩
      · cases e
    · cases e
end
/-- target = e -/
def sAsg (f : EF) (t : GF) : SF := fun ρ S => bindS ((f ρ S).bind frzW) ρ fun w S1 => match w with
  | .d x => match t x ρ with
    | some ρ1 => .fl (.nx ρ1) S1
    | none => .bad
  | _ => .bad
theorem ds_asg {X : Cx} {Wx : WX} {tg e : Expr} {f : EF} {ix : List Nat} {t : GF} {pos : Pos} (he : DE X Wx e f) (hg : DG X ix tg t) (hs : swapsWithSole [tg] e pos.line X.env = pure false := by rfl) (hw : swappedStores [tg] e X.env = pure none := by rfl)
    (h1 : (assignEach [tg] X.env).map (·.2) = [assign tg X.env] := by rfl) : DS X Wx (.Assign [tg] e pos) (sAsg f t) := PS.conv (ps_asg (de_frz he) hg hs hw h1) fun D σ H ⟨ad, ρ, S, sg, rs, q⟩ => by
  refine ⟨ad, ρ, S, sg, rs, post_mono (bindS_post (Rel := RepW X.K) sg q) ?_⟩
  rintro v H1 ⟨ad1, w, S1, fr, rel, rs1, q1⟩
  cases w with
  | fn _ _ _ => exact q1.elim
  | own k => exact q1.elim
  | d x =>
    dsimp only at q1
    cases ht : t x ρ with
    | none => rw [ht] at q1; exact q1.elim
    | some ρ1 =>
      rw [ht] at q1
      exact ⟨ad1, ρ, x, ρ1, sg.fr fr, rel, ht, fun σ' sg' _ => q1 σ' H1 ad1 (Fr.refl _ _) sg' rs1⟩
/-- a, b = e1, e2, names -/
def sPar (i j : Nat) (f g : EF) : SF := fun ρ S => bindS (f ρ S) ρ fun x S1 => bindS (g ρ S1) ρ fun y S2 => .fl (.nx ((ρ.set i (some x)).set j (some y))) S2
theorem ds_par {X : Cx} {Wx : WX} {i j : Nat} {x y : Str} {a b : Expr} {f g : EF} {px py pt pos : Pos} {kt k2 pt2} (hc : X.calm = true) (hN : X.N.Nodup) (hi : X.N[i]? = some x) (hj : X.N[j]? = some y) (hij : i ≠ j)
    (hx : X.env.scope.names.lookup x = some .local) (hy : X.env.scope.names.lookup y = some .local) (ha : DE X Wx a f) (hb : DE X Wx b g) (hs0 : starEach (a :: [b]) X.env = (false, eval a X.env) :: starEach [b] X.env := by rfl) (hs1 : starEach (b :: []) X.env = (false, eval b X.env) :: starEach [] X.env := by rfl)
    (hw : swappedStores [.Tuple [.Name x px, .Name y py] kt pt] (.Tuple [a, b] k2 pt2) X.env = pure (some [x, y]) := by rfl)
    (hs : swapsWithSole [.Tuple [.Name x px, .Name y py] kt pt] (.Tuple [a, b] k2 pt2) pos.line X.env = pure false := by rfl) : DS X Wx (.Assign [.Tuple [.Name x px, .Name y py] kt pt] (.Tuple [a, b] k2 pt2) pos) (sPar i j f g) :=
  PS.conv (ps_par hc hN hi hj hij hx hy (pa_cons ha (pa_cons hb pa_nil hs1) hs0) hw hs) fun D σ H ⟨ad, ρ, S, sg, rs, q⟩ => by
    refine ⟨ad, ρ, S, sg, rs, post_mono (bindS_post (Rel := RepW X.K) sg q) ?_⟩
    rintro v H1 ⟨ad1, w, S1, fr, rel, rs1, q1⟩
    refine ⟨ad1, ρ, S1, sg.fr fr, rs1, post_mono (bindS_post (Rel := RepW X.K) (sg.fr fr) q1) ?_⟩
    rintro v2 H2 ⟨ad2, w2, S2, fr2, rel2, rs2, q2⟩
    exact ⟨v, v2, rfl, q2 _ H2 ad2 (Fr.refl _ _) ((((sg.fr fr).fr fr2).set i (rel.fr fr2)).set j rel2) rs2⟩

/-! ### what is walked -/
def Walk (K : PySem.W.Frag) (J : It) (H : Hp) (l : List PyData) : Prop := l.length ≤ sizeLine ∧ ∀ H', Stb H H' → J.stop l.length H' ∧ ∀ (i : Nat) (d : PyData), l[i]? = some d → J.go i H' ∧ ∀ x H'', J.yld i H' x H'' → Ex H' H'' ∧ Rep K H'' x d
abbrev IF := Rho → Sto → Rs (List PyData)
def tDI (K : PySem.W.Frag) (mg : Str → Option Value) (Wx : WX) (f : IF) : TI := fun σ H R => ∃ ad ρ S, Sig K ad H σ ρ ∧ RS K ad H S ∧ post K mg Wx σ ad H (fun _ H' J l => Walk K J H' l) (f ρ S) R
abbrev DI (X : Cx) (Wx : WX) (tg iter : Expr) (f : IF) : Prop := PI X tg iter (tDI X.K X.mg Wx f)
theorem PI.conv {X : Cx} {tg e : Expr} {t t' : TI} (h : PI X tg e t) (c : ∀ σ H Q, t' σ H Q → t σ H Q) : PI X tg e t' := ⟨fun pins s σ H R I q => h.run pins s σ H R I (c _ _ _ q)⟩
theorem walk_list {K : PySem.W.Frag} {H : Hp} {a : Addr} {vs : List V} {l : List PyData} (h : FzL K H a vs) (r : Reps K H vs l) (hz : vs.length ≤ sizeLine) : Walk K (Itl K a) H l := by
  refine ⟨by rw [← r.length]; exact hz, fun H' st => ⟨⟨vs, (h.stb st).sq, by rw [r.length]; exact Nat.le_refl _⟩, fun i d e => ?_⟩⟩
  have r' := Reps.stb st l r
  obtain ⟨v, e1, e2⟩ := r'.get e
  refine ⟨⟨vs, v, (h.stb st).sq, e1⟩, ?_⟩
  rintro x H'' ⟨rfl, y⟩
  have := y vs (h.stb st).sq
  rw [e1] at this; cases this
  exact ⟨Ex.refl _, e2⟩
theorem walk_tup {K : PySem.W.Frag} {H : Hp} {a : Addr} {vs : List V} {l : List PyData} (h : SqT K H a vs) (r : Reps K H vs l) (hz : vs.length ≤ sizeLine) : Walk K (Itt K a) H l := by
  refine ⟨by rw [← r.length]; exact hz, fun H' st => ⟨⟨vs, sqT_stb st h, by rw [r.length]; exact Nat.le_refl _⟩, fun i d e => ?_⟩⟩
  have r' := Reps.stb st l r
  obtain ⟨v, e1, e2⟩ := r'.get e
  refine ⟨⟨vs, v, sqT_stb st h, e1⟩, ?_⟩
  rintro x H'' ⟨rfl, y⟩
  have := y vs (sqT_stb st h)
  rw [e1] at this; cases this
  exact ⟨Ex.refl _, e2⟩
def rangeD (lo : Int) (n : Nat) : List PyData := (List.range n).map fun i => .int (lo + (i : Nat))
theorem walk_range {K : PySem.W.Frag} {H : Hp} {lo : Int} {n : Nat} (hz : n ≤ sizeLine) : Walk K (Itr lo n) H (rangeD lo n) := by
  have hl : (rangeD lo n).length = n := by simp [rangeD]
  refine ⟨by rw [hl]; exact hz, fun H' st => ⟨by rw [hl]; exact Nat.le_refl n, fun i d e => ?_⟩⟩
  have hi : i < n := by rw [← hl]; exact (List.getElem?_eq_some_iff.mp e).1
  have : d = .int (lo + (i : Nat)) := by
    unfold rangeD at e
    rw [List.getElem?_map, List.getElem?_range hi] at e
    exact (Option.some.inj e).symm
  subst this
  refine ⟨hi, ?_⟩
  rintro x H'' ⟨rfl, rfl⟩
  exact ⟨Ex.refl _, .int _⟩
def signsD (z : Str) : List PyData := z.cps.toList.map fun c => .str ⟨#[c]⟩
theorem walk_str {K : PySem.W.Frag} {H : Hp} {z : Str} (hz : strG z = true) : Walk K (Its z) H (signsD z) := by
  have hl : (signsD z).length = z.cps.size := by simp [signsD]
  refine ⟨by rw [hl]; exact strG_len hz, fun H' st => ⟨by rw [hl]; exact Nat.le_refl _, fun i d e => ?_⟩⟩
  have hi : i < z.cps.size := by rw [← hl]; exact (List.getElem?_eq_some_iff.mp e).1
  refine ⟨hi, ?_⟩
  rintro x H'' ⟨rfl, c, hc, rfl⟩
  unfold signsD at e
  rw [List.getElem?_map, Array.getElem?_toList, hc] at e
  cases e
  exact ⟨Ex.refl _, .str _ (sign_G hz (by rw [Array.mem_toList_iff]; exact Array.mem_of_getElem? hc))⟩
def seqD : PyData → Option (List PyData)
  | .list l => some l
  | .tuple l => some l
  | .str z => some (signsD z)
  | _ => none
def iVal (f : EF) : IF := fun ρ S => ((f ρ S).bind frzW).bind fun w S1 => match w with
  | .d x => match seqD x with
    | some l => .ok l S1
    | none => .bad
  | _ => .bad
section
variable {X : Cx} {Wx : WX} {tg e : Expr} {f : EF}
theorem di_val (he : DE X Wx e f) : DI X Wx tg e (iVal f) := by
  refine ⟨fun pins s σ H R I ⟨ad, ρ, S, sg, rs, q⟩ => ?_⟩
  refine thn ((de_frz he).run pins s σ H (fun x H1 => ∃ d l, Rep X.K H1 x d ∧ seqD d = some l ∧ ∀ J, Walk X.K J H1 l → R J H1) I ⟨ad, ρ, S, sg, rs, post_mono (post_bind q) ?_⟩) fun v s1 ⟨x, H1, I1, r1, d, l, rd, el, q⟩ => ?_
  · rintro v H1 ⟨ad1, w, S1, fr1, r1, rs1, q1⟩
    cases w with
    | fn _ _ _ => exact q1.elim
    | own k => exact q1.elim
    | d x =>
      dsimp only at q1
      cases hx : seqD x with
      | none => rw [hx] at q1; exact q1.elim
      | some l =>
        rw [hx] at q1
        exact ⟨x, l, r1, hx, fun J w => q1 J H1 ad1 (Fr.refl _ _) w rs1⟩
  · cases rd with
    | lst t r =>
      cases el
      cases r1
      obtain ⟨its, rv, p, hz⟩ := I1.list t.sq
      refine wpAny_pyIter_list p.isList ?_
      refine ⟨s1.heap.objs.size, [s1.heap.objs.size], _, _, H1, rfl, I1.kept (t' := s1.toks) fun b o e => Heap.get?_push_of_some _ e, turn_list _ _, ⟨_, Heap.get?_push_size _ rfl, rfl, rfl⟩, fun b hb => ?_, q _ (walk_list t r hz)⟩
      have e : b = s1.heap.objs.size := by simpa using hb
      subst e
      exact I1.fpOk (Nat.le_refl _) (I1.hok.fresh (Nat.le_refl _))
    | tup t r =>
      cases el
      cases r1
      obtain ⟨its, rv, p, hz⟩ := I1.tuple t
      refine wpAny_pyIter_tuple (show s1.heap.IsTuple _ its.toArray from p) ?_
      refine ⟨s1.heap.objs.size, [s1.heap.objs.size], _, _, H1, rfl, I1.kept (t' := s1.toks) fun b o e => Heap.get?_push_of_some _ e, turn_tuple _ _, ⟨_, Heap.get?_push_size _ rfl, rfl, rfl⟩, fun b hb => ?_, q _ (walk_tup t r hz)⟩
      have e : b = s1.heap.objs.size := by simpa using hb
      subst e
      exact I1.fpOk (Nat.le_refl _) (I1.hok.fresh (Nat.le_refl _))
    | str z hz =>
      cases el
      obtain ⟨t, rfl⟩ := r1
      cases ha : z.cps.all (· < 128)
      · exact wpAny_pyIter_wide ha (pi_one (tk := s1.toks) I1 _ (turn_str _ z t "str_iterator" (.inr rfl)) ⟨_, Heap.get?_push_size _ rfl, rfl, rfl⟩ (q _ (walk_str hz)))
      · exact wpAny_pyIter_ascii ha (pi_one (tk := s1.toks) I1 _ (turn_str _ z t "str_ascii_iterator" (.inl rfl)) ⟨_, Heap.get?_push_size _ rfl, rfl, rfl⟩ (q _ (walk_str hz)))
    | _ => cases el
def rngOk (i : Int) : Bool := decide (-(2 ^ 62) ≤ i ∧ i < 2 ^ 62)
theorem rng_of {i : Int} (h : rngOk i = true) : -(2 ^ 62) ≤ i ∧ i < 2 ^ 62 := of_decide_eq_true h
def iRange1 (f : LF) : IF := fun ρ S => (f ρ S).bind fun ws S1 => match ws with
  | [.d (.int j)] => if rngOk j && decide (j.toNat ≤ sizeLine) then .ok (rangeD 0 j.toNat) S1 else .bad
  | _ => .bad
def iRange2 (f : LF) : IF := fun ρ S => (f ρ S).bind fun ws S1 => match ws with
  | [.d (.int i), .d (.int j)] => if rngOk i && rngOk j && decide ((j - i).toNat ≤ sizeLine) then .ok (rangeD i (j - i).toNat) S1 else .bad
  | _ => .bad
theorem di_range1 {a : Expr} {l : LF} {p pos : Pos} (hg : Gl X "range") (hm : X.mg "range" = none) (ha : DA X Wx [a] l) (hs : starEach [a] X.env = [(false, eval a X.env)] := by rfl) : DI X Wx tg (.Call (.Name "range" p) [a] [] pos) (iRange1 l) :=
  PI.conv (pi_range1 hg hm ha hs) fun σ H R ⟨ad, ρ, S, sg, rs, q⟩ => by
    refine ⟨ad, ρ, S, sg, rs, post_mono (post_bind q) ?_⟩
    rintro vs H1 ⟨ad1, ws, S1, fr1, r1, rs1, q1⟩
    split at q1
    · split at q1
      · rename_i hb
        rw [Bool.and_eq_true] at hb
        obtain ⟨h1, h2⟩ := hb
        cases r1 with
        | cons r rr =>
          cases rr
          cases r
          exact ⟨_, rfl, (rng_of h1).1, (rng_of h1).2, q1 _ H1 ad1 (Fr.refl _ _) (walk_range (of_decide_eq_true h2)) rs1⟩
      · exact q1.elim
    · exact q1.elim
theorem di_range2 {a b : Expr} {l : LF} {p pos : Pos} (hg : Gl X "range") (hm : X.mg "range" = none) (ha : DA X Wx [a, b] l) (hs : starEach [a, b] X.env = [(false, eval a X.env), (false, eval b X.env)] := by rfl) (hs2 : starEach [b] X.env = [(false, eval b X.env)] := by rfl) :
    DI X Wx tg (.Call (.Name "range" p) [a, b] [] pos) (iRange2 l) :=
  PI.conv (pi_range2 hg hm ha hs hs2) fun σ H R ⟨ad, ρ, S, sg, rs, q⟩ => by
    refine ⟨ad, ρ, S, sg, rs, post_mono (post_bind q) ?_⟩
    rintro vs H1 ⟨ad1, ws, S1, fr1, r1, rs1, q1⟩
    split at q1
    · split at q1
      · rename_i hb
        rw [Bool.and_eq_true, Bool.and_eq_true] at hb
        obtain ⟨⟨h1, h3⟩, h2⟩ := hb
        cases r1 with
        | cons r rr =>
          cases rr with
          | cons r' rr =>
            cases rr
            cases r
            cases r'
            exact ⟨_, _, rfl, ⟨(rng_of h1).1, (rng_of h1).2, (rng_of h3).1, (rng_of h3).2⟩, q1 _ H1 ad1 (Fr.refl _ _) (walk_range (of_decide_eq_true h2)) rs1⟩
      · exact q1.elim
    · exact q1.elim
end

/-! ### for, while -/
def forRun (t : GF) (b : SF) : List PyData → SF
  | [], ρ, S => .fl (.nx ρ) S
  | d :: l, ρ, S => match t d ρ with
    | some ρ1 => stepR (b ρ1 S) (forRun t b l)
    | none => .bad
def sFor (i : IF) (t : GF) (b : SF) : SF := fun ρ S => bindS (i ρ S) ρ fun l S1 => forRun t b l ρ S1
theorem ds_for {X : Cx} {Wx : WX} {tg iter : Expr} {body : List Stmt} {i : IF} {ix : List Nat} {t : GF} {b : SF} {pos : Pos} (hp : PassesOwn (model X.prog X.w) X.A X.env X.xe) (hc : X.calm = true) (hi : DI X Wx tg iter i) (hg : DG X ix tg t) (hb : DSs X Wx body b)
    (hs : ∀ x, foldedSetIterable iter X.env x = pure x := by intro _; rfl) : DS X Wx (.For tg iter body [] pos) (sFor i t b) := PS.conv (ps_for hp hc hi hg hb hs) fun D σ H ⟨ad, ρ, S, sg, rs, q⟩ => by
  refine ⟨ad, ρ, S, sg, rs, post_mono (bindS_post sg q) ?_⟩
  rintro J H1 ⟨ad1, l, S1, fr1, ⟨hz, wk⟩, rs1, q1⟩
  refine ⟨fun n m σ' H' => m = l.length - n ∧ n ≤ l.length ∧ Stb H1 H' ∧ ∃ ad' ρ' S', Sig X.K ad' H' σ' ρ' ∧ RS X.K ad' H' S' ∧ postS X.K X.mg Wx ad' H' (forRun t b (l.drop n) ρ' S') D,
    ⟨l.length, by simp, Nat.zero_le _, Stb.refl _, ad1, ρ, S1, sg.fr fr1, rs1, by simpa using q1⟩, ?_⟩
  rintro n m σ' H' ⟨rfl, hn, st, ad', ρ', S', sg', rs', q'⟩
  obtain ⟨stop, go⟩ := wk H' st
  by_cases hlt : n < l.length
  · refine .inr ?_
    obtain ⟨hgo, yl⟩ := go n l[n] (by simp [hlt])
    refine ⟨hgo, fun σ2 H2 => Stb H1 H2 ∧ ∃ ad' ρ' S', Sig X.K ad' H2 σ2 ρ' ∧ RS X.K ad' H2 S' ∧ postS X.K X.mg Wx ad' H2 (forRun t b (l.drop (n + 1)) ρ' S') D, fun σ2 H2 ⟨st2, z⟩ => ⟨l.length - (n + 1), by omega, rfl, hlt, st2, z⟩, fun x H2 y => ?_⟩
    obtain ⟨ex, rx⟩ := yl x H2 y
    rw [List.drop_eq_getElem_cons hlt] at q'
    unfold forRun at q'
    cases ht : t l[n] ρ' with
    | none => rw [ht] at q'; exact q'.elim
    | some ρ1 =>
      rw [ht] at q'
      refine ⟨ad', ρ', l[n], ρ1, sg'.fr ex.fr, rx, ht, fun σ3 sg3 _ => ⟨ad', ρ1, S', sg3, rs'.ex ex, ?_⟩⟩
      exact postS_step (fun σ4 H4 ad4 ρ4 S4 fr4 sg4 rs4 z => ⟨(st.trans ex.stb).trans fr4.stb, ad4, ρ4, S4, sg4, rs4, z⟩) (postS_fr q' ex.fr)
  · have e : n = l.length := by omega
    subst e
    rw [List.drop_length] at q'
    exact .inl ⟨stop, q' σ' H' ad' (Fr.refl _ _) sg' rs'⟩
def whileN (c : BF) (b : SF) : Nat → SF
  | 0, _, _ => .bad
  | n + 1, ρ, S => bindS (c ρ S) ρ fun k S1 => if k = true then stepR (b ρ S1) (whileN c b n) else .fl (.nx ρ) S1
theorem stepR_mono {r : RF} {k k' : SF} (h : ∀ ρ S, k ρ S ≠ .bad → k' ρ S = k ρ S) (hb : stepR r k ≠ .bad) : stepR r k' = stepR r k := by
  cases r with
  | bad => rfl
  | exc x ρ S => rfl
  | fl g S =>
    cases g with
    | nx ρ => exact h ρ S hb
    | ct ρ => exact h ρ S hb
    | bk ρ => rfl
    | rt w => rfl
theorem whileN_succ {c : BF} {b : SF} : ∀ (n : Nat) (ρ : Rho) (S : Sto), whileN c b n ρ S ≠ .bad → whileN c b (n + 1) ρ S = whileN c b n ρ S
  | 0, _, _, h => absurd rfl h
  | n + 1, ρ, S, h => by
    have h' : bindS (c ρ S) ρ (fun k S1 => if k = true then stepR (b ρ S1) (whileN c b n) else .fl (.nx ρ) S1) ≠ .bad := h
    show bindS (c ρ S) ρ (fun k S1 => if k = true then stepR (b ρ S1) (whileN c b (n + 1)) else .fl (.nx ρ) S1) = bindS (c ρ S) ρ (fun k S1 => if k = true then stepR (b ρ S1) (whileN c b n) else .fl (.nx ρ) S1)
    revert h'
    cases c ρ S with
    | bad => exact fun h' => absurd rfl h'
    | exc x S1 => exact fun _ => rfl
    | ok k S1 =>
      intro h'
      cases k with
      | true => exact stepR_mono (whileN_succ n) h'
      | false => rfl
theorem whileN_add {c : BF} {b : SF} {n : Nat} {ρ : Rho} {S : Sto} (h : whileN c b n ρ S ≠ .bad) : ∀ m, whileN c b (n + m) ρ S = whileN c b n ρ S
  | 0 => rfl
  | m + 1 => by
    have ih := whileN_add h m
    rw [← Nat.add_assoc, whileN_succ _ _ _ (by rw [ih]; exact h), ih]
open Classical in
noncomputable def sWhile (c : BF) (b : SF) : SF := fun ρ S => if h : ∃ n, whileN c b n ρ S ≠ .bad then whileN c b h.choose ρ S else .bad
theorem sWhile_eq {c : BF} {b : SF} {n : Nat} {ρ : Rho} {S : Sto} {r : RF} (e : whileN c b n ρ S = r) (h : r ≠ .bad) : sWhile c b ρ S = r := by
  have hx : ∃ n, whileN c b n ρ S ≠ .bad := ⟨n, by rw [e]; exact h⟩
  unfold sWhile
  rw [dif_pos hx]
  have h1 := whileN_add hx.choose_spec n
  have h2 := whileN_add (n := n) (by rw [e]; exact h) hx.choose
  rw [← h1, Nat.add_comm, h2, e]
theorem ds_while {X : Cx} {Wx : WX} {c : Expr} {body : List Stmt} {u : BF} {b : SF} {pos : Pos} (hp : PassesOwn (model X.prog X.w) X.A X.env X.xe) (hc : DT X Wx c u) (hb : DSs X Wx body b) : DS X Wx (.While c body [] pos) (sWhile u b) := PS.conv (ps_while hp hc hb) fun D σ H ⟨ad, ρ, S, sg, rs, q⟩ => by
  have hx : ∃ n, postS X.K X.mg Wx ad H (whileN u b n ρ S) D := by
    unfold sWhile at q
    split at q
    · exact ⟨_, q⟩
    · exact q.elim
  obtain ⟨n0, q0⟩ := hx
  refine ⟨fun m σ' H' => ∃ ad' ρ' S', Sig X.K ad' H' σ' ρ' ∧ RS X.K ad' H' S' ∧ postS X.K X.mg Wx ad' H' (whileN u b m ρ' S') D, ⟨n0, ad, ρ, S, sg, rs, q0⟩, ?_⟩
  rintro m σ' H' ⟨ad', ρ', S', sg', rs', q'⟩
  cases m with
  | zero => exact q'.elim
  | succ m =>
    refine ⟨ad', ρ', S', sg', rs', post_mono (bindS_post (Rel := fun _ _ v b => v = b) sg' q') ?_⟩
    rintro k H1 ⟨ad1, w, S1, fr1, rel, rs1, q1⟩
    subst rel
    cases k with
    | true =>
      rw [if_pos rfl] at q1 ⊢
      refine ⟨fun σ2 H2 => ∃ ad' ρ' S', Sig X.K ad' H2 σ2 ρ' ∧ RS X.K ad' H2 S' ∧ postS X.K X.mg Wx ad' H2 (whileN u b m ρ' S') D, fun σ2 H2 z => ⟨m, Nat.lt_succ_self m, z⟩, ad1, ρ', S1, sg'.fr fr1, rs1, ?_⟩
      exact postS_step (fun σ4 H4 ad4 ρ4 S4 fr4 sg4 rs4 z => ⟨ad4, ρ4, S4, sg4, rs4, z⟩) q1
    | false =>
      rw [if_neg Bool.false_ne_true] at q1 ⊢
      exact q1 σ' H1 ad1 (Fr.refl _ _) (sg'.fr fr1) rs1

/-! ### list comprehensions -/
def W0 : WX := fun _ _ _ _ => False
def wipeR (ρ : Rho) : List Nat → Rho
  | [] => ρ
  | v :: vs => (wipeR ρ vs).set v none
theorem sig_wipe {K : PySem.W.Frag} {ad : List Addr} {H : Hp} {σ : L2.St} {ρ : Rho} (sg : Sig K ad H σ ρ) : ∀ vs, Sig K ad H (wipe σ vs) (wipeR ρ vs)
  | [] => sg
  | v :: vs => by
    have ih := sig_wipe sg vs
    refine ⟨by show ((wipe σ vs).set v none).length = ((wipeR ρ vs).set v none).length; rw [List.length_set, List.length_set]; exact ih.len, fun j u e => ?_⟩
    have e : ((wipeR ρ vs).set v none)[j]? = some (some u) := e
    by_cases hj : v = j
    · subst hj
      by_cases hi : v < (wipeR ρ vs).length
      · rw [List.getElem?_set_self hi] at e; cases e
      · rw [List.getElem?_eq_none (by simpa using hi)] at e; cases e
    · rw [List.getElem?_set_ne hj] at e
      obtain ⟨v', e1, e2⟩ := ih.sl j u e
      exact ⟨v', by show ((wipe σ vs).set v none)[j]? = _; rw [List.getElem?_set_ne hj]; exact e1, e2⟩
theorem wipe_same {σ σ' : L2.St} {ix : List Nat} : ∀ {vs : List Nat}, (∀ j ∈ ix, j ∈ vs) → SameBut ix σ σ' → wipe σ' vs = wipe σ vs := fun {vs} h sb => by
  have hz : ∀ (vs : List Nat) (τ : L2.St) (j : Nat), j ∈ vs → j < τ.length → (wipe τ vs)[j]? = some none := by
    intro vs
    induction vs with
    | nil => intro τ j hj; simp at hj
    | cons v vs ih =>
      intro τ j hj hl
      show ((wipe τ vs).set v none)[j]? = some none
      by_cases e : v = j
      · subst e
        rw [List.getElem?_set_self (by rw [wipe_length]; exact hl)]
      · rw [List.getElem?_set_ne e]
        rcases List.mem_cons.mp hj with z | z
        · exact absurd z.symm e
        · exact ih τ j z hl
  apply List.ext_getElem?
  intro j
  by_cases hv : j ∈ vs
  · by_cases hl : j < σ.length
    · rw [hz vs σ j hv hl, hz vs σ' j hv (by rw [sb.1]; exact hl)]
    · rw [List.getElem?_eq_none (by rw [wipe_length]; have := sb.1; omega), List.getElem?_eq_none (by rw [wipe_length]; have := sb.1; omega)]
  · rw [wipe_out hv, wipe_out hv]
    exact sb.2 j fun z => hv (h j z)
def lcRun (t : GF) (c : BF) (f : EF) (ρ : Rho) : List PyData → List PyData → Sto → Rs (List PyData)
  | [], acc, S => .ok acc S
  | d :: l, acc, S => match t d ρ with
    | some ρ1 => match c ρ1 S with
      | .ok true S1 => match f ρ1 S1 with
        | .ok (.d y) S2 => lcRun t c f ρ l (acc ++ [y]) S2
        | _ => .bad
      | .ok false S1 => lcRun t c f ρ l acc S1
      | _ => .bad
    | none => .bad
def bYes : BF := fun _ S => .ok true S
def mLc (i : IF) (t : GF) (c : BF) (f : EF) (vs : List Nat) : MF := fun ρ S => (i ρ S).bind fun l S1 => lcRun t c f (wipeR ρ vs) l [] S1
abbrev DTs (X : Cx) (Wx : WX) (ifs : List Expr) (u : BF) : Prop := PTs X ifs (tDT X.K X.mg Wx u)
theorem dts_nil {X : Cx} {Wx : WX} : DTs X Wx [] bYes := ⟨fun pins s σ H Q I ⟨ad, ρ, S, sg, rs, q⟩ => pts_nil.run pins s σ H Q I (q _ H ad (Fr.refl _ _) rfl rs)⟩
theorem dts_one {X : Cx} {Wx : WX} {c : Expr} {u : BF} (h : DT X Wx c u) : DTs X Wx [c] u := pts_one h
theorem post_fr {α β : Type} {K : PySem.W.Frag} {mg : Str → Option Value} {Wx : WX} {σ : L2.St} {ad ad1 : List Addr} {H H1 : Hp} {Rel : List Addr → Hp → β → α → Prop} {r : Rs α} {Q : β → Hp → Prop} (h : post K mg Wx σ ad H Rel r Q) (f : Fr ad H ad1 H1) : post K mg Wx σ ad1 H1 Rel r Q := by
  cases r with
  | bad => exact h
  | exc x S => exact fun cls d H' ad' fr => h cls d H' ad' (f.trans fr)
  | ok w S => exact fun v H' ad' fr => h v H' ad' (f.trans fr)
theorem wipe_wipe (σ : L2.St) (vs : List Nat) : wipe (wipe σ vs) vs = wipe σ vs := wipe_same (ix := vs) (fun _ h => h) ⟨wipe_length σ vs, fun _ hj => wipe_out hj⟩
theorem lcRun_noexc {t : GF} {c : BF} {f : EF} {ρ : Rho} {x : Xc} {S' : Sto} : ∀ (l acc : List PyData) (S : Sto), lcRun t c f ρ l acc S ≠ .exc x S'
  | [], _, _, h => by cases h
  | d :: l, acc, S, h => by
    unfold lcRun at h
    cases ht : t d ρ with
    | none => rw [ht] at h; cases h
    | some ρ1 =>
      rw [ht] at h
      dsimp only at h
      split at h
      · split at h
        · exact lcRun_noexc l _ _ h
        · cases h
      · exact lcRun_noexc l _ _ h
      · cases h
theorem lc_conv {K : PySem.W.Frag} {mg : Str → Option Value} {Wx : WX} {i : IF} {t : GF} {c : BF} {f : EF} {vs ix : List Nat} (hv : ∀ j ∈ ix, j ∈ vs) {σ : L2.St} {H : Hp} {Q : VK} (q : tDM K mg Wx (mLc i t c f vs) σ H Q) :
    tLc (tDI K mg Wx i) (tDG K ix t) (tDT K mg W0 c) (tD K mg W0 f) vs σ H Q := by
  obtain ⟨ad, ρ, S, sg, rs, q⟩ := q
  refine ⟨ad, ρ, S, sg, rs, post_mono (post_bind q) ?_⟩
  rintro J H1 ⟨ad1, l, S1, fr1, ⟨hz, wk⟩, rs1, q1⟩ D hD
  obtain ⟨h0, hDn⟩ := fr1.back rs1 hD
  obtain ⟨R, hR⟩ : ∃ R, R = lcRun t c f (wipeR ρ vs) l [] S1 := ⟨_, rfl⟩
  rw [← hR] at q1
  have sg1 := sig_wipe (sg.fr fr1) vs
  refine ⟨fun n m H' => m = l.length - n ∧ n ≤ l.length ∧ ∃ ad' S' accV accD, Fr ad1 H1 ad' H' ∧ RS K ad' H' S' ∧ D ∉ ad' ∧ H' D = some (.lst accV) ∧ Reps K H' accV accD ∧ accD.length ≤ n ∧ lcRun t c f (wipeR ρ vs) (l.drop n) accD S' = R,
    ⟨l.length, by simp, Nat.zero_le _, ad1, S1, [], [], (Ex.new hD).fr, rs1.ex (Ex.new hD), hDn, upd_same, .nil, Nat.le_refl _, by rw [hR]; simp⟩, ?_⟩
  rintro n m H' ⟨rfl, hn, ad', S', accV, accD, fr', rs', hn', hD', rp, hle, e⟩
  obtain ⟨stop, go⟩ := wk H' fr'.stb
  by_cases hlt : n < l.length
  · refine .inr ?_
    obtain ⟨hgo, yl⟩ := go n l[n] (by simp [hlt])
    refine ⟨hgo, fun H2 => ∃ ad' S' accV accD, Fr ad1 H1 ad' H2 ∧ RS K ad' H2 S' ∧ D ∉ ad' ∧ H2 D = some (.lst accV) ∧ Reps K H2 accV accD ∧ accD.length ≤ n + 1 ∧ lcRun t c f (wipeR ρ vs) (l.drop (n + 1)) accD S' = R,
      fun H2 z => ⟨l.length - (n + 1), by omega, rfl, hlt, z⟩, fun x H2 y => ?_⟩
    obtain ⟨ex, rx⟩ := yl x H2 y
    have fr2 := fr'.trans (ex.fr (ad := ad'))
    have nb : R ≠ .bad := fun z => by rw [z] at q1; exact q1
    rw [← e, List.drop_eq_getElem_cons hlt] at nb
    rw [List.drop_eq_getElem_cons hlt] at e
    unfold lcRun at nb e
    cases ht : t l[n] (wipeR ρ vs) with
    | none => rw [ht] at nb; exact absurd rfl nb
    | some ρ1 =>
      rw [ht] at nb e
      refine ⟨ad', wipeR ρ vs, l[n], ρ1, sg1.fr fr2, rx, ht, fun σ2 sg2 sb => ⟨(wipe_same hv sb).trans (wipe_wipe σ vs), ?_⟩⟩
      refine ⟨ad', ρ1, S', sg2, rs'.ex ex, ?_⟩
      dsimp only at nb e
      cases hc : c ρ1 S' with
      | bad => rw [hc] at nb; exact absurd rfl nb
      | exc x S2 => rw [hc] at nb; exact absurd rfl nb
      | ok b S2 =>
        rw [hc] at nb e
        intro b' H3 ad3 fr3 eb rs3
        subst eb
        have hD3 : H3 D = some (.lst accV) := fr3.keep D _ (ex D _ hD') hn'
        have hn3 : D ∉ ad3 := fun z => by
          have := fr3.new D z hn'
          rw [ex D _ hD'] at this; cases this
        cases b' with
        | false =>
          rw [if_neg Bool.false_ne_true]
          exact ⟨ad3, S2, accV, accD, fr2.trans fr3, rs3, hn3, hD3, Reps.stb (ex.stb.trans fr3.stb) _ rp, Nat.le_succ_of_le hle, e⟩
        | true =>
          rw [if_pos rfl]
          refine ⟨ad3, ρ1, S2, sg2.fr fr3, rs3, ?_⟩
          dsimp only at nb e
          cases hf : f ρ1 S2 with
          | bad => rw [hf] at nb; exact absurd rfl nb
          | exc x S3 => rw [hf] at nb; exact absurd rfl nb
          | ok w S3 =>
            rw [hf] at nb e
            cases w with
            | fn _ _ _ => exact absurd rfl nb
            | own k => exact absurd rfl nb
            | d y =>
              intro yv H4 ad4 fr4 ry rs4
              have hD4 : H4 D = some (.lst accV) := fr4.keep D _ hD3 hn3
              have hn4 : D ∉ ad4 := fun z => by
                have := fr4.new D z hn3
                rw [hD3] at this; cases this
              have st : Stb H4 (upd H4 D (.lst (accV ++ [yv]))) := stb_upd hD4
              refine ⟨accV, hD4, by rw [rp.length]; omega, ad4, S3, accV ++ [yv], accD ++ [y], fr_upd ((fr2.trans fr3).trans fr4) hD hn4 hD4, rs_upd rs4 hn4 hD4, hn4, upd_same, ?_, by simp; omega, e⟩
              exact Reps.append (Reps.stb (((ex.stb.trans fr3.stb).trans fr4.stb).trans st) _ rp) (.cons (Rep.stb st _ ry) .nil)
  · have en : n = l.length := by omega
    subst en
    rw [List.drop_length] at e
    refine .inl ⟨stop, ?_⟩
    rw [← e] at q1
    exact q1 (.ref D) H' ad' fr' ⟨D, accV, rfl, h0, hn', hD', rp⟩ rs'
section
variable {X : Cx} {Wx : WX} {elt tg iter : Expr} {ifs : List Expr} {scope : Scope} {own : List (Str × Nat)} {i : IF} {t : GF} {c : BF} {f : EF} {ix : List Nat} {pos : Pos}
theorem dm_lc (hc : X.calm = true) (hN : X.N.Nodup) (hi : DI X Wx tg iter i) (ok : BlkOk X.N X.env.scope scope own) (hv : ∀ j ∈ ix, j ∈ own.map (·.2))
    (hg : ∀ (s : Shared) (H : Hp) (C : Addr) (cl : List (Str × Addr)) (fp : List Addr), DG (X.blk s H scope (compEnvC scope cl C X.env) fp) ix tg t) (ht : ∀ (s : Shared) (H : Hp) (C : Addr) (cl : List (Str × Addr)) (fp : List Addr), DTs (X.blk s H scope (compEnvC scope cl C X.env) fp) W0 ifs c)
    (he : ∀ (s : Shared) (H : Hp) (C : Addr) (cl : List (Str × Addr)) (fp : List Addr), DE (X.blk s H scope (compEnvC scope cl C X.env) fp) W0 elt f) (hs : ∀ x, foldedSetIterable iter X.env x = pure x := by intro _; rfl) :
    DM X Wx (.ListComp elt [⟨tg, iter, ifs, 0⟩] scope pos) (mLc i t c f (own.map (·.2))) := PE.conv (pe_lc hc hN hi ok hg ht he hs) fun σ H Q q => lc_conv hv q
/-- y = [..], the list locked, or a changing one -/
def sSetM (j : Nat) (m : MF) : SF := fun ρ S => bindS (m ρ S) ρ fun l S1 => .fl (.nx (ρ.set j (some (.own S1.length)))) (S1 ++ [.lst l])
end
end DL

set_option Elab.async false
set_option linter.all false
set_option maxRecDepth 100000
set_option maxHeartbeats 4000000
/-! D5: defs and their calls; names of the module; a comprehension stored; a changing thing changed. -/
namespace DL
open PySem PySem.Spec PyProof.Rows L2

/-! ### a comprehension that is stored on its line -/
theorem ps_freezeAt {X : Cx} {st : Stmt} {t : TS} (h : PS X st t) : PS X st (fun D σ H => t { D with nx := fun σ1 H1 => ∃ a vs, H1 a = some (.lst vs) ∧ ∀ o, D.nx σ1 (upd H1 a (.frz o (.lst vs))) } σ H) := by
  refine ⟨fun pins s σ H D I q => thn (h.run pins s σ H _ I q) fun f s1 z => ?_⟩
  cases f with
  | next =>
    obtain ⟨σ1, H1, I1, a, vs, e, q1⟩ := z
    obtain ⟨o, I2⟩ := DL.freeze I1 e
    exact ⟨σ1, _, I2, q1 o⟩
  | brk => exact z
  | cont => exact z
  | ret u => exact z
theorem made_frz {K : PySem.W.Frag} {ad ad1 : List Addr} {H H1 : Hp} {p : Addr} {vs : List V} {l : List PyData} {S : Sto} {o : Obj} (fr : Fr ad H ad1 H1) (h0 : H p = none) (hp : p ∉ ad1) (e : H1 p = some (.lst vs)) (r : Reps K H1 vs l) (rs : RS K ad1 H1 S) :
    Fr ad H ad1 (upd H1 p (.frz o (.lst vs))) ∧ Rep K (upd H1 p (.frz o (.lst vs))) (.ref p) (.list l) ∧ RS K ad1 (upd H1 p (.frz o (.lst vs))) S :=
  ⟨fr_upd fr h0 hp e, .lst (.inl ⟨o, upd_same⟩) (Reps.stb (stb_upd e) _ r), rs_upd rs hp e⟩
theorem made_own {K : PySem.W.Frag} {ad ad1 : List Addr} {H H1 : Hp} {p : Addr} {vs : List V} {l : List PyData} {S : Sto} (fr : Fr ad H ad1 H1) (h0 : H p = none) (hp : p ∉ ad1) (e : H1 p = some (.lst vs)) (r : Reps K H1 vs l) (rs : RS K ad1 H1 S) :
    Fr ad H (ad1 ++ [p]) H1 ∧ RepW K (ad1 ++ [p]) H1 (.ref p) (.own S.length) ∧ RS K (ad1 ++ [p]) H1 (S ++ [.lst l]) := by
  have hl := rs.len
  refine ⟨⟨?_, fr.keep, fun a ha hn => ?_, fr.stb⟩, ⟨p, ?_, rfl⟩, ⟨?_, ?_, fun (k : Nat) (ob : MO) z => ?_⟩⟩
  · obtain ⟨t, e⟩ := fr.ext
    exact ⟨t ++ [p], by rw [e, List.append_assoc]⟩
  · rcases List.mem_append.mp ha with z | z
    · exact fr.new a z hn
    · have : a = p := by simpa using z
      rw [this]; exact h0
  · rw [← hl]; simp
  · simp [hl]
  · rw [List.nodup_append]
    exact ⟨rs.nd, by simp, fun a ha b hb z => by
      have : b = p := by simpa using hb
      subst z this
      exact hp ha⟩
  · by_cases hk : k < S.length
    · rw [List.getElem?_append_left hk] at z
      obtain ⟨a, z1, z2⟩ := rs.ob k ob z
      exact ⟨a, by rw [List.getElem?_append_left (by rw [hl]; exact hk)]; exact z1, z2⟩
    · rw [List.getElem?_append_right (by omega)] at z
      have hk2 : k - S.length = 0 := by
        by_cases hh : k - S.length = 0
        · exact hh
        · rw [List.getElem?_eq_none (by simp; omega)] at z; cases z
      rw [hk2] at z
      simp at z
      subst z
      refine ⟨p, ?_, vs, e, r⟩
      rw [List.getElem?_append_right (by omega), hl, hk2]; rfl
/-- a changing thing more is told of: the frame stays -/
theorem Fr.left {ad ad1 ad2 : List Addr} {H H1 H2 : Hp} (a : Fr ad H ad1 H1) (b : Fr ad1 H1 ad2 H2) : Fr ad H ad2 H2 := a.trans b
section
variable {X : Cx} {Wx : WX} {elt tg iter : Expr} {ifs : List Expr} {scope : Scope} {own : List (Str × Nat)} {i : IF} {t : GF} {c : BF} {f : EF} {ix : List Nat} {pos spos py : Pos} {y : Str} {j : Nat}
theorem ds_setLc (hc : X.calm = true) (hN : X.N.Nodup) (hy : X.N[j]? = some y) (hyl : X.env.scope.names.lookup y = some .local) (hsw : swapsWith (.ListComp elt [⟨tg, iter, ifs, 0⟩] scope pos) (some (.Name y py)) spos.line X.env = pure true)
    (hi : DI X Wx tg iter i) (ok : BlkOk X.N X.env.scope scope own) (hv : ∀ j ∈ ix, j ∈ own.map (·.2))
    (hg : ∀ (s : Shared) (H : Hp) (C : Addr) (cl : List (Str × Addr)) (fp : List Addr), DG (X.blk s H scope (compEnvC scope cl C X.env) fp) ix tg t) (ht : ∀ (s : Shared) (H : Hp) (C : Addr) (cl : List (Str × Addr)) (fp : List Addr), DTs (X.blk s H scope (compEnvC scope cl C X.env) fp) W0 ifs c)
    (he : ∀ (s : Shared) (H : Hp) (C : Addr) (cl : List (Str × Addr)) (fp : List Addr), DE (X.blk s H scope (compEnvC scope cl C X.env) fp) W0 elt f) (hs : ∀ x, foldedSetIterable iter X.env x = pure x := by intro _; rfl) :
    DS X Wx (.Assign [.Name y py] (.ListComp elt [⟨tg, iter, ifs, 0⟩] scope pos) spos) (sSet j (eFz (mLc i t c f (own.map (·.2))))) := by
  have p : PS X (.Assign [.Name y py] (.ListComp elt [⟨tg, iter, ifs, 0⟩] scope pos) spos) (tAsg (tLc (tDI X.K X.mg Wx i) (tDG X.K ix t) (tDT X.K X.mg W0 c) (tD X.K X.mg W0 f) (own.map (·.2))) (gName j)) := ps_setLc hc hN hy hyl hsw hi ok hg ht he hs
  refine PS.conv (ps_freezeAt p) fun D σ H ⟨ad, ρ, S, sg, rs, q⟩ => ?_
  refine lc_conv (Wx := Wx) hv ⟨ad, ρ, S, sg, rs, ?_⟩
  unfold sSet eFz at q
  revert q
  cases mLc i t c f (own.map (·.2)) ρ S with
  | bad => exact fun z => z
  | exc x S' => exact fun q cls d H' ad' fr xr rs' => q cls d σ H' ad' fr (sg.fr fr) xr rs'
  | ok l S' =>
    rintro q v H1 ad1 fr ⟨p, vs, rfl, h0, hp, e2, r⟩ rs1
    refine ⟨p, vs, e2, fun o => ?_⟩
    obtain ⟨a1, a2, a3⟩ := made_frz (o := o) fr h0 hp e2 r rs1
    exact q _ _ ad1 a1 ((sg.fr a1).set j (w := .d (.list l)) a2) a3
theorem ds_setLcO (hc : X.calm = true) (hN : X.N.Nodup) (hy : X.N[j]? = some y) (hyl : X.env.scope.names.lookup y = some .local) (hsw : swapsWith (.ListComp elt [⟨tg, iter, ifs, 0⟩] scope pos) (some (.Name y py)) spos.line X.env = pure true)
    (hi : DI X Wx tg iter i) (ok : BlkOk X.N X.env.scope scope own) (hv : ∀ j ∈ ix, j ∈ own.map (·.2))
    (hg : ∀ (s : Shared) (H : Hp) (C : Addr) (cl : List (Str × Addr)) (fp : List Addr), DG (X.blk s H scope (compEnvC scope cl C X.env) fp) ix tg t) (ht : ∀ (s : Shared) (H : Hp) (C : Addr) (cl : List (Str × Addr)) (fp : List Addr), DTs (X.blk s H scope (compEnvC scope cl C X.env) fp) W0 ifs c)
    (he : ∀ (s : Shared) (H : Hp) (C : Addr) (cl : List (Str × Addr)) (fp : List Addr), DE (X.blk s H scope (compEnvC scope cl C X.env) fp) W0 elt f) (hs : ∀ x, foldedSetIterable iter X.env x = pure x := by intro _; rfl) :
    DS X Wx (.Assign [.Name y py] (.ListComp elt [⟨tg, iter, ifs, 0⟩] scope pos) spos) (sSet j (eOwn (mLc i t c f (own.map (·.2))))) := by
  have p : PS X (.Assign [.Name y py] (.ListComp elt [⟨tg, iter, ifs, 0⟩] scope pos) spos) (tAsg (tLc (tDI X.K X.mg Wx i) (tDG X.K ix t) (tDT X.K X.mg W0 c) (tD X.K X.mg W0 f) (own.map (·.2))) (gName j)) := ps_setLc hc hN hy hyl hsw hi ok hg ht he hs
  refine PS.conv p fun D σ H ⟨ad, ρ, S, sg, rs, q⟩ => ?_
  refine lc_conv (Wx := Wx) hv ⟨ad, ρ, S, sg, rs, ?_⟩
  unfold sSet eOwn at q
  revert q
  cases mLc i t c f (own.map (·.2)) ρ S with
  | bad => exact fun z => z
  | exc x S' => exact fun q cls d H' ad' fr xr rs' => q cls d σ H' ad' fr (sg.fr fr) xr rs'
  | ok l S' =>
    rintro q v H1 ad1 fr ⟨p, vs, rfl, h0, hp, e2, r⟩ rs1
    obtain ⟨a1, a2, a3⟩ := made_own fr h0 hp e2 r rs1
    exact q _ _ _ a1 ((sg.fr a1).set j a2) a3
end

/-! ### names of the module -/
structure Gv (K : PySem.W.Frag) (mg : Str → Option Value) (x : Str) (d : PyData) : Prop where
  ex : ∃ u v, mg x = some u ∧ RelV v u ∧ ∀ H, Rep K H v d
theorem de_glob {X : Cx} {Wx : WX} {x : Str} {d : PyData} {pos : Pos} (g : Gv X.K X.mg x d) (hg : Gl X x) (hd : (x == ("__debug__" : Str)) = false := by decide) : DE X Wx (.Name x pos) (eC d) := by
  obtain ⟨u, v, hm, r, rp⟩ := g.ex
  exact de_c (pe_glob hg hm r hd) rp

/-! ### defs -/
abbrev FD := List Wv → Sto → Rs Wv
def spD (K : PySem.W.Frag) (mg : Str → Option Value) (n : Nat) (sem : FD) : Sp := fun vs H Q E => vs.length = n ∧ ∃ ad ws S, RepWs K ad H vs ws ∧ RS K ad H S ∧ post K mg (fun cls d _ H' => E cls d H') [] ad H (RepW K) (sem ws S) Q
structure Fn (P : Program) (w : World) (K : PySem.W.Frag) (mg : Str → Option Value) (base : Heap) (k : Nat) (x : Str) (n : Nat) (sem : FD) : Prop where
  ex : ∃ f fd ps, FnOk P w K mg base (L2.CX P w) k f fd ps (spD K mg n sem) ∧ mg x = some (.ref f) ∧ PySem.W.keepIn K (.ref f) = true ∧ Binds K fd ps [] ∧ ps.length = n
def eCall (n : Nat) (sem : FD) (l : LF) : EF := fun ρ S => (l ρ S).bind fun ws S1 => if ws.length = n then sem ws S1 else .bad
theorem Paired.len {α β : Type} {R : α → β → Prop} : ∀ {l : List α} {m : List β}, Paired R l m → l.length = m.length
  | _, _, .nil => rfl
  | _, _, .cons _ t => by simp [Paired.len t]
section
variable {X : Cx} {Wx : WX} {k n : Nat} {x : Str} {sem : FD} {e : Expr} {es : List Expr} {l : LF} {p pos : Pos}
theorem call_conv {σ : L2.St} {H : Hp} {Q : VK} (q : tD X.K X.mg Wx (eCall n sem l) σ H Q) : tCallS (spD X.K X.mg n sem) (WE Wx) (tDA X.K X.mg Wx l) σ H Q := by
  obtain ⟨ad, ρ, S, sg, rs, q⟩ := q
  refine ⟨ad, ρ, S, sg, rs, post_mono (post_bind q) ?_⟩
  rintro vs H1 ⟨ad1, ws, S1, fr1, r1, rs1, q1⟩
  split at q1
  · rename_i hl
    refine ⟨by rw [Paired.len r1]; exact hl, ad1, ws, S1, r1, rs1, ?_⟩
    revert q1
    cases sem ws S1 with
    | bad => exact fun z => z
    | ok w S2 => exact fun z => z
    | exc x S2 => exact fun z => z
  · exact q1.elim
theorem de_call (F : Fn X.prog X.w X.K X.mg X.base k x n sem) (hr : Room k X.A) (tk : Takes X Wx) (hg : Gl X x) (ha : DA X Wx (e :: es) l) (hdb : (x == ("__debug__" : Str)) = false := by decide)
    (he : starEach (e :: es) X.env = (false, eval e X.env) :: starEach es X.env := by rfl) (hpl : (backTo pos (starEach es X.env)).any (·.1) = false := by rfl) : DE X Wx (.Call (.Name x p) (e :: es) [] pos) (eCall n sem l) := by
  obtain ⟨f, fd, ps, F, hm, hk, hb, hn⟩ := F.ex
  exact PE.conv (pe_callS F hr hg hm hk hb (fun σ => passAt tk σ) ha hdb he hpl) fun σ H Q q => call_conv q
theorem de_call0 (F : Fn X.prog X.w X.K X.mg X.base k x n sem) (hr : Room k X.A) (tk : Takes X Wx) (hg : Gl X x) (hdb : (x == ("__debug__" : Str)) = false := by decide) : DE X Wx (.Call (.Name x p) [] [] pos) (eCall n sem lNil) := by
  obtain ⟨f, fd, ps, F, hm, hk, hb, hn⟩ := F.ex
  have h0 : PE X (.Call (.Name x p) [] [] pos) (tCallS (spD X.K X.mg n sem) (WE Wx) tNil) := by
    refine ⟨fun pins s σ H Q I h => ?_⟩
    refine wpAny_Call_Name_kw (ld_glob I hg hm ?_ hdb)
    exact PySem.W.callWith_K0 I.kIn hk (run_fnS (us := []) F hr hb (passAt tk σ) I .nil h)
  refine PE.conv h0 fun σ H Q q => ?_
  have q' := call_conv q
  obtain ⟨ad, ρ, S, sg, rs, q'⟩ := q'
  exact q' [] H ad (Fr.refl _ _) .nil rs
end
def exitW (n : Nat) (w : Wv) (S : Sto) : Rs Wv := match w with
  | .d x => .ok (.d x) (S.take n)
  | .own k => if k < n then .ok (.own k) (S.take n) else match S[k]? with
    | some o => .ok (.own n) (S.take n ++ [o])
    | none => .bad
  | .fn _ _ _ => .bad
def runDef (nn ar : Nat) (body : SF) : FD := fun ws S => match body (ws.map some ++ List.replicate (nn - ar) none) S with
  | .fl (.rt w) S' => exitW S.length w S'
  | .fl (.nx _) S' => exitW S.length (.d .none) S'
  | .exc x _ S' => .exc x (S'.take S.length)
  | _ => .bad
section
variable {K : PySem.W.Frag} {mg : Str → Option Value} {ad ad' : List Addr} {H H' : Hp} {S S' : Sto}
theorem RS.cut (fr : Fr ad H ad' H') (rs : RS K ad H S) (rs' : RS K ad' H' S') : RS K ad H' (S'.take S.length) := by
  obtain ⟨t, e⟩ := fr.ext
  have l1 := rs.len
  have l2 := rs'.len
  rw [e, List.length_append] at l2
  have nd := rs'.nd
  rw [e, List.nodup_append] at nd
  refine ⟨by rw [List.length_take]; omega, nd.1, fun (k : Nat) (o : MO) z => ?_⟩
  have hk : k < S.length := by
    have := (List.getElem?_eq_some_iff.mp z).1
    rw [List.length_take] at this
    omega
  rw [List.getElem?_take_of_lt hk] at z
  obtain ⟨a, e1, e2⟩ := rs'.ob k o z
  rw [e, List.getElem?_append_left (by omega)] at e1
  exact ⟨a, e1, e2⟩
theorem Fr.cut (fr : Fr ad H ad' H') : Fr ad H ad H' := ⟨⟨[], by simp⟩, fr.keep, fun _ h h' => absurd h h', fr.stb⟩
theorem exit_post {Wx : WX} {σ : L2.St} {w : Wv} {v : V} {Q : VK} (rs : RS K ad H S) (fr : Fr ad H ad' H') (rw' : RepW K ad' H' v w) (rs' : RS K ad' H' S') (q : post K mg Wx σ ad H (RepW K) (exitW S.length w S') Q) : Q v H' := by
  cases w with
  | d x => exact q v H' ad fr.cut rw' (rs.cut fr rs')
  | fn _ _ _ => exact q.elim
  | own k =>
    obtain ⟨a, ha, rfl⟩ := rw'
    have hcut := rs.cut fr rs'
    obtain ⟨t, e⟩ := id fr.ext
    dsimp only [exitW] at q
    split at q
    · rename_i hk
      refine q _ H' ad fr.cut ⟨a, ?_, rfl⟩ hcut
      rw [e, List.getElem?_append_left (by rw [rs.len]; exact hk)] at ha
      exact ha
    · rename_i hk
      have hkl : k < S'.length := by rw [← rs'.len]; exact (List.getElem?_eq_some_iff.mp ha).1
      rw [List.getElem?_eq_getElem hkl] at q
      obtain ⟨a', e1, e2⟩ := rs'.ob k S'[k] (by simp [hkl])
      rw [ha] at e1
      cases e1
      have nd := rs'.nd
      rw [e, List.nodup_append] at nd
      have hat : a ∈ t := by
        rw [e, List.getElem?_append_right (by rw [rs.len]; omega)] at ha
        exact List.mem_of_getElem? ha
      have han : a ∉ ad := fun z => nd.2.2 a z a hat rfl
      refine q _ H' (ad ++ [a]) ⟨⟨[a], rfl⟩, fr.keep, fun b hb hn => ?_, fr.stb⟩ ⟨a, ?_, rfl⟩ ⟨?_, ?_, fun (j : Nat) (o : MO) z => ?_⟩
      · rcases List.mem_append.mp hb with z | z
        · exact absurd z hn
        · have : b = a := by simpa using z
          subst this
          exact fr.new b (by rw [e]; exact List.mem_append_right _ hat) hn
      · rw [← rs.len]; simp
      · rw [List.length_append, List.length_append, hcut.len]; rfl
      · rw [List.nodup_append]
        exact ⟨nd.1, by simp, fun b hb c hc z => by
          have : c = a := by simpa using hc
          subst z this
          exact han hb⟩
      · have hcl := hcut.len
        by_cases hj : j < (S'.take S.length).length
        · rw [List.getElem?_append_left hj] at z
          obtain ⟨b, z1, z2⟩ := hcut.ob j o z
          exact ⟨b, by rw [List.getElem?_append_left (by omega)]; exact z1, z2⟩
        · rw [List.getElem?_append_right (by omega)] at z
          have h0 : j - (S'.take S.length).length = 0 := by
            by_cases hh : j - (S'.take S.length).length = 0
            · exact hh
            · rw [List.getElem?_eq_none (by simp only [List.length_singleton]; omega)] at z; cases z
          rw [h0] at z
          simp at z
          subst z
          refine ⟨a, ?_, e2⟩
          rw [List.getElem?_append_right (by omega), hcl, h0]; rfl
theorem sig_start {N ps : List Str} {vs : List V} {ws : List Wv} (r : RepWs K ad H vs ws) (hl : vs.length = ps.length) (hN : ps.length ≤ N.length) : Sig K ad H (L2.start N vs) (ws.map some ++ List.replicate (N.length - ps.length) none) := by
  have hlw := Paired.len r
  refine ⟨?_, fun i w e => ?_⟩
  · unfold L2.start
    simp only [List.length_append, List.length_map, List.length_replicate]
    omega
  · by_cases hi : i < ws.length
    · rw [List.getElem?_append_left (by simpa using hi), List.getElem?_map] at e
      have : ws[i]? = some w := by
        cases q : ws[i]? with
        | none => rw [q] at e; cases e
        | some a => rw [q] at e; cases e; rfl
      have get : ∀ {vs : List V} {ws : List Wv} {i : Nat} {w : Wv}, RepWs K ad H vs ws → ws[i]? = some w → ∃ v, vs[i]? = some v ∧ RepW K ad H v w := by
        intro vs
        induction vs with
        | nil => intro ws i w r e; cases r; simp at e
        | cons v vs ih =>
          intro ws i w r e
          cases r with
          | cons h t =>
            cases i with
            | zero => simp at e; subst e; exact ⟨_, rfl, h⟩
            | succ i =>
              obtain ⟨v', e1, e2⟩ := ih t (by simpa using e)
              exact ⟨v', by simpa using e1, e2⟩
      obtain ⟨v, e1, e2⟩ := get r this
      refine ⟨v, ?_, e2⟩
      unfold L2.start
      rw [List.getElem?_append_left (by simp; omega), List.getElem?_map, e1]
      rfl
    · rw [List.getElem?_append_right (by simpa using hi), List.getElem?_replicate] at e
      split at e <;> cases e
end
section
variable {P : Program} {w : World} {K : PySem.W.Frag} {mg : Str → Option Value} {base : Heap}
/-- a def of the text, by its body -/
theorem Fn.ok' {x qual : Str} {st : Stmt} {f : Addr} {fd : FuncData} {N ps : List Str} {k : Nat} {body : SF} (F : Fun K x qual st f fd) (Sc : FnScope N ps (defScope st))
    (hbody : ∀ (cdv : Value) (A : Around) (outer : List PySem.Env) (s : Shared) (H : Hp) (E : XK), Room k (A.deeper (envOfC qual (defScope st) s.heap.objs.size f cdv)) →
      DSs (cxOf (L2.CX P w) P w K mg base N qual (defScope st) f cdv A outer s H E) (fun cls d _ H => E cls d H) (defBody st) body) :
    FnOk P w K mg base (L2.CX P w) (k + 1) f fd ps (spD K mg ps.length (runDef N.length ps.length body)) := by
  refine F.okX Sc (fun vs H Q E h => h.1) (fun cdv A outer s H vs Q E hr h => ?_)
  obtain ⟨hl, ad, ws, S, r, rs, q⟩ := h
  refine ⟨_, hbody cdv A outer s H E hr, ad, _, S, sig_start r hl (by have := congrArg List.length Sc.pre; rw [List.length_take] at this; omega), rs, ?_⟩
  unfold runDef at q
  revert q
  cases body (ws.map some ++ List.replicate (N.length - ps.length) none) S with
  | bad => exact fun z => z
  | exc x ρ' S' => exact fun q cls d σ' H' ad' fr sg xr rs' => q cls d H' ad fr.cut xr (rs.cut fr rs')
  | fl g S' =>
    cases g with
    | nx ρ' => exact fun q σ' H' ad' fr sg rs' => exit_post rs fr (w := .d .none) .non rs' q
    | rt w => exact fun q v H' ad' fr rv rs' => exit_post rs fr rv rs' q
    | bk ρ' => exact fun q => q.elim
    | ct ρ' => exact fun q => q.elim
theorem Fn.mk' {x qual : Str} {st : Stmt} {f : Addr} {fd : FuncData} {N ps : List Str} {k : Nat} {body : SF} (F : Fun K x qual st f fd) (Sc : FnScope N ps (defScope st)) (hm : mg x = some (.ref f)) (hb : Binds K fd ps [])
    (hbody : ∀ (cdv : Value) (A : Around) (outer : List PySem.Env) (s : Shared) (H : Hp) (E : XK), Room k (A.deeper (envOfC qual (defScope st) s.heap.objs.size f cdv)) →
      DSs (cxOf (L2.CX P w) P w K mg base N qual (defScope st) f cdv A outer s H E) (fun cls d _ H => E cls d H) (defBody st) body) :
    Fn P w K mg base (k + 1) x ps.length (runDef N.length ps.length body) := ⟨⟨f, fd, ps, Fn.ok' F Sc hbody, hm, F.kp, hb, rfl⟩⟩
end
end DL

set_option Elab.async false
set_option linter.all false
set_option maxRecDepth 100000
set_option maxHeartbeats 4000000
/-! D6: zip and enumerate over lists and tuples in any mix; list(zip(..)). -/
namespace PySem
open PySem.W
section
variable {prog : Program} {w : World} {A : Around} {E : Value → Shared → Prop} {s : Shared} {z TI TO T i1 i2 : Addr} {fp1 fp2 : List Addr} {n1 n2 i : Nat} {P1 P2 : Nat → Value → Prop} {St1 St2 : Nat → Heap → Prop} {f : Bool} {oT : Obj}
/-- zip's next while the tuple that it gave out last is held by somebody -/
theorem zipH_next_item {Q : Value → Shared → Prop} (S : ZipSep2 z TI TO i1 i2 fp1 fp2) (D1 : Draws prog w A i1 fp1 n1 P1 St1) (D2 : Draws prog w A i2 fp2 n2 P2 St2)
    (hz : IsZipHeld s.heap z TI TO T f) (hT : s.heap.get? T = some oT) (hTI : IsTupOf2 s.heap TI (.ref i1) (.ref i2)) (st1 : St1 i s.heap) (st2 : St2 i s.heap) (hlt1 : i < n1) (hlt2 : i < n2)
    (hQ : ∀ x1 x2 h' tk, P1 i x1 → P2 i x2 → IsZipHeld h' z TI TO T true → St1 (i + 1) h' → St2 (i + 1) h' → IsTupOf2 h' s.heap.objs.size x1 x2 → h'.objs.size = s.heap.objs.size + 1 →
      (∀ c o, c ≠ z → c ≠ i1 → c ≠ i2 → s.heap.get? c = some o → h'.get? c = some o) → Q (.ref s.heap.objs.size) { s with heap := h', toks := tk }) :
    wpAny (model prog w) A (Builtin.«zip.__next__» ⟨[.ref z], []⟩) (fun fin s' => ∃ v, fin = .done (.ret v) ∧ Q v s') E s := by
  obtain ⟨hp, g, d, tk0, os⟩ := s
  show wpAny _ _ (field (.ref z) 2 >>= _) _ _ _
  refine wpAny_bind (wpAny_field hz rfl (x := .bool false) rfl ?_)
  show wpAny _ _ (field (.ref z) 3 >>= _) _ _ _
  refine wpAny_bind (wpAny_field hz rfl (x := .ref TI) rfl ?_)
  refine wpAny_bind (wpAny_seqItems hTI rfl ?_)
  show wpAny _ _ (Builtin.SmallTypes.ownedTupleIsFree (.ref z) >>= _) _ _ _
  refine wpAny_bind (wpAny_tupleHeld_zip hz hT fun g0 hz0 hs0 => ?_)
  replace hs0 : Heap.SameBut z hp g0 := hs0
  simp only [Bool.false_eq_true, if_false]
  refine wpAny_bind ?_
  rw [← Array.forIn_toList]
  simp only [List.forIn_cons, List.forIn_nil]
  refine wpAny_bind (wpAny_bind (wpAny_holding ?_))
  show wpAny _ _ (Builtin.SmallTypes.nextOf (.ref i1) >>= _) _ _ ⟨g0, g, d, tk0, os⟩
  refine wpAny_bind (D1.item i _ _ _ hlt1 (D1.over st1 hs0 S.zf1) fun x1 p1 tk1 hx1 sn1 hp1 => wpAny_pure ?_)
  replace hp1 : Heap.SameBut i1 g0 p1 := hp1
  refine wpAny_pure ?_
  refine wpAny_bind (wpAny_bind (wpAny_holding ?_))
  show wpAny _ _ (Builtin.SmallTypes.nextOf (.ref i2) >>= _) _ _ ⟨p1, g, d, tk1, os⟩
  refine wpAny_bind (D2.item i _ _ _ hlt2 (D2.over (D2.over st2 hs0 S.zf2) hp1 S.sep1_2) fun x2 p2 tk2 hx2 sn2 hp2 => wpAny_pure ?_)
  replace hp2 : Heap.SameBut i2 p1 p2 := hp2
  refine wpAny_pure (wpAny_pure ?_)
  show wpAny _ _ (newTuple [x1, x2] >>= _) _ _ _
  refine wpAny_bind (wpAny_newTuple ?_)
  have hsz : p2.objs.size = hp.objs.size := by rw [hp2.1, hp1.1, hs0.1]
  have hz3 : IsZipHeld p2 z TI TO T true := hp2.extBut _ _ S.zi2 (hp1.extBut _ _ S.zi1 hz0)
  have hk : ∀ c o, c ≠ z → c ≠ i1 → c ≠ i2 → hp.get? c = some o → p2.get? c = some o := fun c o c1 c2 c3 e => hp2.extBut _ _ c3 (hp1.extBut _ _ c2 (hs0.extBut _ _ c1 e))
  refine wpAny_pure ⟨_, rfl, ?_⟩
  show Q (.ref p2.objs.size) _
  have hpp : IsTupOf2 (p2.push { cls := .type "tuple", data := .seq #[x1, x2] }) p2.objs.size x1 x2 := Heap.get?_push_size _ rfl
  have hz4 : (p2.push { cls := .type "tuple", data := .seq #[x1, x2] }).objs.size = p2.objs.size + 1 := Heap.size_push ..
  rw [hsz] at hpp hz4 ⊢
  exact hQ x1 x2 _ tk2 hx1 hx2 (Heap.get?_push_of_some _ hz3) (D1.frame _ _ _ (D1.over sn1 hp2 S.sep2_1) fun b hb o e => Heap.get?_push_of_some _ e) (D2.frame _ _ _ sn2 fun b hb o e => Heap.get?_push_of_some _ e) hpp hz4
    fun c o c1 c2 c3 e => Heap.get?_push_of_some _ (hk c o c1 c2 c3 e)
theorem zipH_next_end {Q : Fin → Shared → Prop} (S : ZipSep2 z TI TO i1 i2 fp1 fp2) (D1 : Draws prog w A i1 fp1 n1 P1 St1) (D2 : Draws prog w A i2 fp2 n2 P2 St2)
    (hz : IsZipHeld s.heap z TI TO T f) (hT : s.heap.get? T = some oT) (hTI : IsTupOf2 s.heap TI (.ref i1) (.ref i2)) (st1 : St1 i s.heap) (st2 : St2 i s.heap) (hle1 : i ≤ n1) (hle2 : i ≤ n2) (hend : i = n1 ∨ i = n2)
    (hE : ∀ h' tk e, (∀ c o, c ≠ z → c ≠ i1 → c ≠ i2 → s.heap.get? c = some o → h'.get? c = some o) → (∃ o, h'.get? e = some o ∧ o.cls = .type "StopIteration") → E (.ref e) { s with heap := h', toks := tk }) :
    wpAny (model prog w) A (Builtin.«zip.__next__» ⟨[.ref z], []⟩) Q E s := by
  obtain ⟨hp, g, d, tk0, os⟩ := s
  show wpAny _ _ (field (.ref z) 2 >>= _) _ _ _
  refine wpAny_bind (wpAny_field hz rfl (x := .bool false) rfl ?_)
  show wpAny _ _ (field (.ref z) 3 >>= _) _ _ _
  refine wpAny_bind (wpAny_field hz rfl (x := .ref TI) rfl ?_)
  refine wpAny_bind (wpAny_seqItems hTI rfl ?_)
  show wpAny _ _ (Builtin.SmallTypes.ownedTupleIsFree (.ref z) >>= _) _ _ _
  refine wpAny_bind (wpAny_tupleHeld_zip hz hT fun g0 hz0 hs0 => ?_)
  replace hs0 : Heap.SameBut z hp g0 := hs0
  simp only [Bool.false_eq_true, if_false]
  refine wpAny_bind ?_
  rw [← Array.forIn_toList]
  simp only [List.forIn_cons, List.forIn_nil]
  refine wpAny_bind (wpAny_bind (wpAny_holding ?_))
  show wpAny _ _ (Builtin.SmallTypes.nextOf (.ref i1) >>= _) _ _ ⟨g0, g, d, tk0, os⟩
  by_cases hlt1 : i < n1
  · refine wpAny_bind (D1.item i _ _ _ hlt1 (D1.over st1 hs0 S.zf1) fun x1 p1 tk1 hx1 sn1 hp1 => wpAny_pure ?_)
    replace hp1 : Heap.SameBut i1 g0 p1 := hp1
    refine wpAny_pure ?_
    have hi2 : i = n2 := by omega
    refine wpAny_bind (wpAny_bind (wpAny_holding ?_))
    show wpAny _ _ (Builtin.SmallTypes.nextOf (.ref i2) >>= _) _ _ ⟨p1, g, d, tk1, os⟩
    refine wpAny_bind (D2.done ⟨p1, g, d, tk1, os⟩ _ _ (by rw [← hi2]; exact D2.over (D2.over st2 hs0 S.zf2) hp1 S.sep1_2) fun q e hq he => ?_)
    replace hq : Heap.ExtBut i2 p1 q := hq
    exact hE q tk1 e (fun c o cz c1 c2 x => hq _ _ c2 (hp1.extBut _ _ c1 (hs0.extBut _ _ cz x))) he
  · have hi1 : i = n1 := by omega
    refine wpAny_bind (D1.done ⟨g0, g, d, tk0, os⟩ _ _ (by rw [← hi1]; exact D1.over st1 hs0 S.zf1) fun q e hq he => ?_)
    replace hq : Heap.ExtBut i1 g0 q := hq
    exact hE q tk0 e (fun c o cz c1 c2 x => hq _ _ c1 (hs0.extBut _ _ cz x)) he
theorem pyNext_zipH_item {Q : Option Value → Shared → Prop} (S : ZipSep2 z TI TO i1 i2 fp1 fp2) (D1 : Draws prog w A.in1 i1 fp1 n1 P1 St1) (D2 : Draws prog w A.in1 i2 fp2 n2 P2 St2)
    (hz : IsZipHeld s.heap z TI TO T f) (hT : s.heap.get? T = some oT) (hTI : IsTupOf2 s.heap TI (.ref i1) (.ref i2)) (st1 : St1 i s.heap) (st2 : St2 i s.heap) (hlt1 : i < n1) (hlt2 : i < n2)
    (hQ : ∀ x1 x2 h' tk, P1 i x1 → P2 i x2 → IsZipHeld h' z TI TO T true → St1 (i + 1) h' → St2 (i + 1) h' → IsTupOf2 h' s.heap.objs.size x1 x2 → h'.objs.size = s.heap.objs.size + 1 →
      (∀ c o, c ≠ z → c ≠ i1 → c ≠ i2 → s.heap.get? c = some o → h'.get? c = some o) → Q (some (.ref s.heap.objs.size)) { s with heap := h', toks := tk }) :
    wpAny (model prog w) A (pyNext (.ref z)) Q E s := by
  have hTy : s.TypeIs (.ref z) "zip" := ⟨_, hz, rfl⟩
  unfold pyNext
  exact wpAny_bind (wpAny_attempt (wpAny_callSpecial?_slot (name := Str.ofString "__next__") hTy F.slot_zip_next
    (wpAny_call_entry F.slot_zip_next hTy F.entry_zip_next
      (zipH_next_item S D1 D2 hz hT hTI st1 st2 hlt1 hlt2 fun x1 x2 h' tk a0 a1 a2 a3 a4 a5 a6 a7 => wpAny_pure (hQ x1 x2 h' tk a0 a1 a2 a3 a4 a5 a6 a7)) (F.args_zip_next_1 _))))
theorem pyNext_zipH_end {Q : Option Value → Shared → Prop} (S : ZipSep2 z TI TO i1 i2 fp1 fp2) (D1 : Draws prog w A.in1 i1 fp1 n1 P1 St1) (D2 : Draws prog w A.in1 i2 fp2 n2 P2 St2)
    (hz : IsZipHeld s.heap z TI TO T f) (hT : s.heap.get? T = some oT) (hTI : IsTupOf2 s.heap TI (.ref i1) (.ref i2)) (st1 : St1 i s.heap) (st2 : St2 i s.heap) (hle1 : i ≤ n1) (hle2 : i ≤ n2) (hend : i = n1 ∨ i = n2)
    (hQ : ∀ h' tk, (∀ c o, c ≠ z → c ≠ i1 → c ≠ i2 → s.heap.get? c = some o → h'.get? c = some o) → Q none { s with heap := h', toks := tk }) : wpAny (model prog w) A (pyNext (.ref z)) Q E s := by
  have hTy : s.TypeIs (.ref z) "zip" := ⟨_, hz, rfl⟩
  unfold pyNext
  refine wpAny_bind (wpAny_attempt (wpAny_callSpecial?_slot (name := Str.ofString "__next__") hTy F.slot_zip_next
    (wpAny_call_entry F.slot_zip_next hTy F.entry_zip_next (zipH_next_end S D1 D2 hz hT hTI st1 st2 hle1 hle2 hend fun h' tk e hk he => ?_) (F.args_zip_next_1 _))))
  obtain ⟨o, ho, hc⟩ := he
  refine wpAny_bind (wpAny_isInstance (T := "StopIteration") (b := true) ⟨o, ho, hc⟩ isSubtype_stop ?_)
  exact wpAny_pure (hQ _ _ hk)
end
end PySem

namespace DL
open PySem PySem.Spec PyProof.Rows L2

/-! ### lists (false) and tuples (true) that are drawn from -/
def itB (b : Bool) (h : Heap) (it a : Addr) (i : Nat) : Prop := if b = true then h.IsTupleIter it a i else h.IsListIter it a i
def coB (b : Bool) (h : Heap) (a : Addr) (its : Array Value) : Prop := if b = true then h.IsTuple a its else h.IsList a its
def obB (b : Bool) (a : Addr) : Obj := if b = true then { cls := .type "tuple_iterator", data := .fields #[.ref a, .int 0 0] } else { cls := .type "list_iterator", data := .fields #[.ref a, .int 0 0] }
def SqB (b : Bool) (K : PySem.W.Frag) (H : Hp) (a : Addr) (xs : List V) : Prop := if b = true then SqT K H a xs else FzL K H a xs
theorem drB {prog : Program} {w : World} {A : Around} (b : Bool) (hh : A.handled = none) (it a : Addr) (hne : a ≠ it) (its : Array Value) :
    Draws prog w A it [it, a] its.size (fun i v => its[i]? = some v) (fun i h => itB b h it a i ∧ coB b h a its) := by
  cases b with
  | true => exact Draws.tuple hh it a hne its
  | false => exact Draws.list hh it a hne its
theorem beB (b : Bool) (a : Addr) (its : Array Value) : Begins (.ref a) (obB b a) (fun h => coB b h a its) := by
  cases b with
  | true => exact begins_tuple a its
  | false => exact begins_list a its
theorem itB_at {b : Bool} {h h' : Heap} {it a : Addr} {i : Nat} (x : itB b h it a i) (k : ∀ o, h.get? it = some o → h'.get? it = some o) : itB b h' it a i := by
  cases b with
  | true => exact Heap.IsTupleIter.at x fun o e => k o e
  | false => exact Heap.IsListIter.at x fun o e => k o e
theorem itB_obj {b : Bool} {h : Heap} {it a : Addr} {i : Nat} (x : itB b h it a i) : ∃ o, h.get? it = some o ∧ ∀ v, o.data ≠ .cell v := by
  cases b with
  | true =>
    obtain ⟨o, e, _, d⟩ := x
    exact ⟨o, e, fun v z => by rw [d] at z; cases z⟩
  | false =>
    obtain ⟨o, e, _, d⟩ := x
    exact ⟨o, e, fun v z => by rw [d] at z; cases z⟩
theorem itB_new {b : Bool} {h : Heap} {it a : Addr} (e : h.get? it = some (obB b a)) : itB b h it a 0 := by
  cases b with
  | true => exact ⟨_, e, rfl, rfl⟩
  | false => exact ⟨_, e, rfl, rfl⟩
theorem sqB_stb {b : Bool} {K : PySem.W.Frag} {H H' : Hp} {a : Addr} {xs : List V} (s : Stb H H') (h : SqB b K H a xs) : SqB b K H' a xs := by
  cases b with
  | true => exact sqT_stb s h
  | false => exact FzL.stb s h
section
variable {X : Cx} {pins : List (Addr × Obj)} {σ : L2.St} {H : Hp} {s : Shared} {b : Bool} {a : Addr} {xs ys : List V}
theorem seqB (I : Inv X pins σ H s) (h : SqB b X.K H a xs) : ∃ its : List Value, Vals xs its ∧ coB b s.heap a its.toArray ∧ xs.length ≤ sizeLine ∧ a < s.heap.objs.size := by
  cases b with
  | true =>
    obtain ⟨its, r, p, z⟩ := I.tuple h
    obtain ⟨o, e, _⟩ := id p
    exact ⟨its, r, p, z, Heap.lt_size e⟩
  | false =>
    obtain ⟨its, r, p, z⟩ := I.list (FzL.sq h)
    exact ⟨its, r, p.isList, z, p.lt⟩
theorem seqB_inj (I : Inv X pins σ H s) (h : SqB b X.K H a xs) (h' : SqB b X.K H a ys) : xs = ys := by
  cases b with
  | true => exact I.tuple_inj h h'
  | false => exact I.list_inj (FzL.sq h) (FzL.sq h')
end
def kindB : PyData → Option (Bool × List PyData)
  | .list l => some (false, l)
  | .tuple l => some (true, l)
  | _ => none
theorem kind_rep {K : PySem.W.Frag} {H : Hp} {v : V} {d : PyData} {b : Bool} {l : List PyData} (r : Rep K H v d) (e : kindB d = some (b, l)) : ∃ a xs, v = .ref a ∧ SqB b K H a xs ∧ Reps K H xs l := by
  cases r with
  | lst t r => cases e; exact ⟨_, _, rfl, t, r⟩
  | tup t r => cases e; exact ⟨_, _, rfl, t, r⟩
  | _ => cases e

/-! ### zip in a loop -/
def ItzB (K : PySem.W.Frag) (b1 : Bool) (a1 : Addr) (b2 : Bool) (a2 : Addr) : It :=
  ⟨fun i H => ∃ (xs ys : List V) (x y : V), SqB b1 K H a1 xs ∧ SqB b2 K H a2 ys ∧ xs[i]? = some x ∧ ys[i]? = some y,
    fun i H v H' => ∃ T x y, v = .ref T ∧ H T = none ∧ H' = upd H T (.tup [x, y]) ∧ (∀ xs, SqB b1 K H a1 xs → xs[i]? = some x) ∧ ∀ ys, SqB b2 K H a2 ys → ys[i]? = some y,
    fun i H => ∃ xs ys : List V, SqB b1 K H a1 xs ∧ SqB b2 K H a2 ys ∧ i ≤ xs.length ∧ i ≤ ys.length ∧ (xs.length = i ∨ ys.length = i)⟩
/-- the cells lie apart, told without what is drawn from -/
structure Ap (z TI TO i1 i2 : Addr) (N : Nat) : Prop where
  S : ∀ a1 a2 : Addr, a1 < N → a2 < N → ZipSep2 z TI TO i1 i2 [i1, a1] [i2, a2]
  ge : ∀ c ∈ [z, TI, TO, i1, i2], N ≤ c
theorem ap_new (N : Nat) : Ap (N + 4) (N + 2) (N + 3) N (N + 1) N :=
  ⟨fun a1 a2 h1 h2 => zip_sep2 (fun b hb => by have : b = a1 := by simpa using hb
                                               rw [this]; exact h1) (fun b hb => by have : b = a2 := by simpa using hb
                                                                                    rw [this]; exact h2), fun c hc => by
    have e' : c = N + 4 ∨ c = N + 2 ∨ c = N + 3 ∨ c = N ∨ c = N + 1 := by simpa using hc
    rcases e' with z | z | z | z | z <;> rw [z] <;> first | exact Nat.le_add_right _ _ | exact Nat.le_refl _⟩
theorem turn_zipB {P : Program} {w : World} {K : PySem.W.Frag} {elts : List Expr} {kk : Nat} {tpos : Pos} {b1 b2 : Bool} {a1 a2 z TI TO i1 i2 : Addr} {N : Nat} (D : Ap z TI TO i1 i2 N) (l1 : a1 < N) (l2 : a2 < N) :
    Turn P w K (.Tuple elts kk tpos) (ItzB K b1 a1 b2 a2) [z, TI, TO, i1, i2] z (fun i h => IsZip h z TI TO .none ∧ IsTupOf2 h TI (.ref i1) (.ref i2) ∧ (∃ x y, IsTupOf2 h TO x y) ∧ itB b1 h i1 a1 i ∧ itB b2 h i2 a2 i) where
  mem := by simp
  obj := fun i h st c hc => by
    obtain ⟨hz, hTI, ⟨x, y, hTO⟩, h1, h2⟩ := st
    have e' : c = z ∨ c = TI ∨ c = TO ∨ c = i1 ∨ c = i2 := by simpa using hc
    rcases e' with q | q | q | q | q
    · rw [q]; exact ⟨_, hz, fun v q => nomatch q⟩
    · rw [q]; exact ⟨_, hTI, fun v q => nomatch q⟩
    · rw [q]; exact ⟨_, hTO, fun v q => nomatch q⟩
    · rw [q]; exact itB_obj h1
    · rw [q]; exact itB_obj h2
  keep := fun i h h' st k => by
    obtain ⟨hz, hTI, ⟨x, y, hTO⟩, h1, h2⟩ := st
    exact ⟨k z (by simp) _ hz, k TI (by simp) _ hTI, ⟨x, y, k TO (by simp) _ hTO⟩, itB_at h1 fun o q => k i1 (by simp) o q, itB_at h2 fun o q => k i2 (by simp) o q⟩
  item := by
    intro X hP hw hK hc i pins s σ H E I hf st hg
    subst hP hw hK
    obtain ⟨hz, hTI, ⟨x0, y0, hTO⟩, h1, h2⟩ := st
    obtain ⟨xs, ys, x, y, hqx, hqy, hx, hy⟩ := hg
    obtain ⟨its, rv, p, _, g1⟩ := seqB I hqx
    obtain ⟨its2, rv2, p2, _, g2⟩ := seqB I hqy
    have S := D.S a1 a2 l1 l2
    have m1 := S.mem1
    have n1 : a1 ≠ i1 := Nat.ne_of_lt (Nat.lt_of_lt_of_le l1 (D.ge i1 (by simp)))
    have n2 : a2 ≠ i2 := Nat.ne_of_lt (Nat.lt_of_lt_of_le l2 (D.ge i2 (by simp)))
    have hlx := (List.getElem?_eq_some_iff.mp hx).1
    have hly := (List.getElem?_eq_some_iff.mp hy).1
    have e1 := rv.length
    have e2 := rv2.length
    have hzl : z < s.heap.objs.size := Heap.lt_size hz
    have hcell : ∀ c ∈ [z, TI, TO, i1, i2], c < s.heap.objs.size := fun c hcm => by
      have e' : c = z ∨ c = TI ∨ c = TO ∨ c = i1 ∨ c = i2 := by simpa using hcm
      rcases e' with q | q | q | q | q
      · rw [q]; exact hzl
      · rw [q]; exact Heap.lt_size hTI
      · rw [q]; exact Heap.lt_size hTO
      · rw [q]; obtain ⟨_, e1, _⟩ := itB_obj h1; exact Heap.lt_size e1
      · rw [q]; obtain ⟨_, e2, _⟩ := itB_obj h2; exact Heap.lt_size e2
    refine wpAny_pyNext_zipD2_item S (drB b1 (show X.A.in1.handled = none from I.ok.hd hc) i1 a1 n1 its.toArray) (drB b2 (show X.A.in1.handled = none from I.ok.hd hc) i2 a2 n2 its2.toArray) hz hTI hTO ⟨h1, p⟩ ⟨h2, p2⟩ (by simp; omega) (by simp; omega)
      fun u u2 h' tk hu hu2 z' TO' st1' st2' hT hsz hk => ?_
    obtain ⟨v1, hv1, ru⟩ := rv.get hx
    obtain ⟨v2, hv2, ru2⟩ := rv2.get hy
    have eu : u = v1 := by simpa [hv1] using hu.symm
    have eu2 : u2 = v2 := by simpa [hv2] using hu2.symm
    subst eu eu2
    refine ⟨_, rfl, wpAny_letOwnedTupleGo_zip (s := { s with heap := h', toks := tk }) z' fun h'' z'' sb => ?_⟩
    have hT2 : h''.get? s.heap.objs.size = some { cls := .type "tuple", data := .seq #[u, u2] } := (sb.2 _ (Nat.ne_of_gt hzl)).trans hT
    have new : ObjOk X.prog X.w (upd H s.heap.objs.size (.tup [x, y])) h'' s.heap.objs.size (.tup [x, y]) :=
      ⟨by show 2 ≤ sizeLine; decide, [u, u2], .cons ru (.cons ru2 .nil), ⟨_, hT2, rfl, _, rfl⟩⟩
    have I1 : Inv X pins σ (upd H s.heap.objs.size (.tup [x, y])) { s with heap := h'', toks := tk } :=
      I.turnedNew (t' := tk) (ch := [z, TI, TO, i1, i2]) (fun c o hb q => (sb.2 c (fun q' => hb (by simp [q']))).trans (hk c o (fun q' => hb (by simp [q'])) (fun q' => hb (by simp [q'])) (fun q' => hb (by simp [q'])) (fun q' => hb (by simp [q'])) q)) hf (Nat.le_refl _) new
    refine ⟨.ref s.heap.objs.size, _, I1, rfl, ⟨_, x, y, rfl, I.hok.fresh (Nat.le_refl _), rfl, fun l hl => by rw [seqB_inj I hl hqx]; exact hx, fun l hl => by rw [seqB_inj I hl hqy]; exact hy⟩, ⟨z'', ?_, ⟨u, u2, ?_⟩, ?_, ?_⟩, fun c hcm => ?_⟩
    · exact (sb.2 _ S.TIz).trans (hk _ _ S.TIz S.TITO S.TIi1 S.TIi2 hTI)
    · exact (sb.2 _ S.TOz).trans TO'
    · exact itB_at st1'.1 fun o q => (sb.2 _ (Ne.symm S.zi1)).trans q
    · exact itB_at st2'.1 fun o q => (sb.2 _ (Ne.symm S.zi2)).trans q
    · rw [upd_ne (Nat.ne_of_lt (hcell c hcm))]
      exact (hf c hcm).1
  done := by
    intro X hP hw hK hc i pins s σ H E I hf st hg
    subst hP hw hK
    obtain ⟨hz, hTI, ⟨x0, y0, hTO⟩, h1, h2⟩ := st
    obtain ⟨xs, ys, hqx, hqy, hi1, hi2, hend⟩ := hg
    obtain ⟨its, rv, p, _, g1⟩ := seqB I hqx
    obtain ⟨its2, rv2, p2, _, g2⟩ := seqB I hqy
    have S := D.S a1 a2 l1 l2
    have n1 : a1 ≠ i1 := Nat.ne_of_lt (Nat.lt_of_lt_of_le l1 (D.ge i1 (by simp)))
    have n2 : a2 ≠ i2 := Nat.ne_of_lt (Nat.lt_of_lt_of_le l2 (D.ge i2 (by simp)))
    have e1 := rv.length
    have e2 := rv2.length
    exact wpAny_pyNext_zipD2_end S (drB b1 (show X.A.in1.handled = none from I.ok.hd hc) i1 a1 n1 its.toArray) (drB b2 (show X.A.in1.handled = none from I.ok.hd hc) i2 a2 n2 its2.toArray) hz hTI hTO ⟨h1, p⟩ ⟨h2, p2⟩ (by simp; omega) (by simp; omega) (by simp; omega)
      fun h' tk hk => ⟨rfl, I.turnedL (t' := tk) (ch := [z, TI, TO, i1, i2]) (fun c o hb q => hk c o (fun q' => hb (by simp [q'])) (fun q' => hb (by simp [q'])) (fun q' => hb (by simp [q'])) (fun q' => hb (by simp [q'])) q) hf⟩
  self := fun A i s Q E st h => wpAny_pyIter_zip st.1 h
def zipD (l m : List PyData) : List PyData := (l.zip m).map fun p => .tuple [p.1, p.2]
theorem walk_zip {K : PySem.W.Frag} {H : Hp} {b1 b2 : Bool} {a1 a2 : Addr} {xs ys : List V} {l m : List PyData} (h1 : SqB b1 K H a1 xs) (r1 : Reps K H xs l) (h2 : SqB b2 K H a2 ys) (r2 : Reps K H ys m) (hz : xs.length ≤ sizeLine) : Walk K (ItzB K b1 a1 b2 a2) H (zipD l m) := by
  have hl : (zipD l m).length = min l.length m.length := by simp [zipD]
  have e1 := r1.length
  have e2 := r2.length
  refine ⟨by rw [hl]; omega, fun H' st => ⟨⟨xs, ys, sqB_stb st h1, sqB_stb st h2, by omega, by omega, by omega⟩, fun i d e => ?_⟩⟩
  unfold zipD at e
  rw [List.getElem?_map] at e
  cases q : (l.zip m)[i]? with
  | none => rw [q] at e; cases e
  | some p =>
    rw [q] at e
    cases e
    obtain ⟨p1, p2⟩ := List.getElem?_zip_eq_some.mp q
    obtain ⟨v1, g1, rv1⟩ := (Reps.stb st _ r1).get p1
    obtain ⟨v2, g2, rv2⟩ := (Reps.stb st _ r2).get p2
    refine ⟨⟨xs, ys, v1, v2, sqB_stb st h1, sqB_stb st h2, g1, g2⟩, ?_⟩
    rintro x H'' ⟨T, x1, y1, rfl, hT, rfl, q1, q2⟩
    have := q1 xs (sqB_stb st h1)
    rw [g1] at this; cases this
    have := q2 ys (sqB_stb st h2)
    rw [g2] at this; cases this
    have ex : Ex H' (upd H' T (.tup [v1, v2])) := Ex.new hT
    exact ⟨ex, .tup (SqT.of upd_same) (.cons (Rep.stb ex.stb _ rv1) (.cons (Rep.stb ex.stb _ rv2) .nil))⟩
end DL

set_option Elab.async false
set_option linter.all false
set_option maxRecDepth 100000
set_option maxHeartbeats 4000000
/-! D7: for .. in zip, enumerate; list(zip(..)). -/
namespace PySem
set_option maxHeartbeats 1000000 in
theorem meets_enumerate_new1 {v : Value} {o : Obj} {H : Heap → Prop} (B : Begins v o H) :
    Meets (Builtin.«enumerate.__new__» ⟨[.type "enumerate", v], []⟩) (fun _ R s => H s.heap ∧
      R (.ok (.ret (.ref (s.heap.push o).objs.size))) { s with heap := (s.heap.push o).push { cls := .type "enumerate", data := .fields #[.none, .bool false, .ref s.heap.objs.size, rawInt 0, .none, .none] } }) :=
  .of_wp fun prog w A R s h => by
    obtain ⟨hp, g, d, tk, os⟩ := s; obtain ⟨h1, h⟩ := h
    have hsub := sub_enumerate
    have q1 : ∀ {A' : Around} {E : Value → Shared → Prop} {Q : Value → Shared → Prop}, Q (.ref hp.objs.size) ⟨hp.push o, g, d, tk, os⟩ → wpAny (model prog w) A' (pyIter v) Q E ⟨hp, g, d, tk, os⟩ :=
      fun q => B.iter prog w _ _ ⟨hp, g, d, tk, os⟩ _ h1 q
    wp_walk using q1
    refine wpAny_stack_any fun st => wpAny_pure ?_
    split
    · rename_i c _ _ _ _ _
      cases (c == Value.type "enumerate")
      · wp_walk using q1
        exact ⟨_, rfl, h⟩
      · wp_walk using q1
        exact ⟨_, rfl, h⟩
    · wp_walk using q1
      exact ⟨_, rfl, h⟩
section
variable {prog : Program} {w : World} {A : Around} {E : Value → Shared → Prop} {s : Shared}
theorem enum_begins1 {v : Value} {o : Obj} {H : Heap → Prop} {Q : Value → Shared → Prop} (B : Begins v o H) (h1 : H s.heap)
    (h : ∀ h', IsEnum h' (s.heap.objs.size + 1) s.heap.objs.size 0 .none → h'.get? s.heap.objs.size = some o → h'.objs.size = s.heap.objs.size + 2 →
      (∀ b o, s.heap.get? b = some o → h'.get? b = some o) → Q (.ref (s.heap.objs.size + 1)) { s with heap := h' }) :
    wpAny (model prog w) A (call (.type "enumerate") [v]) Q E s := by
  refine callType_new F.called_enumerate (by decide) (F.typeCall_enumerate_1 _) (F.newCall_enumerate_1 _) (fun obj => F.args_object_init_2 obj _) F.entry_enumerate_new
    (meets_enumerate_new1 B) ⟨h1, ?_⟩
  have hz : (s.heap.push o).objs.size = s.heap.objs.size + 1 := Heap.size_push ..
  show _ ∧ _
  rw [hz]
  have he : IsEnum ((s.heap.push o).push { cls := .type "enumerate", data := .fields #[.none, .bool false, .ref s.heap.objs.size, rawInt 0, .none, .none] }) (s.heap.objs.size + 1) s.heap.objs.size 0 .none := by
    have := Heap.get?_push_size (s.heap.push o) (o := { cls := .type "enumerate", data := .fields #[.none, .bool false, .ref s.heap.objs.size, rawInt 0, .none, .none] }) rfl
    rw [hz] at this; exact this
  refine ⟨⟨_, he, rfl⟩, h _ he (Heap.get?_push_of_some _ (Heap.get?_push_size _ B.free)) (by rw [Heap.size_push, hz]) fun b o x => Heap.get?_push_of_some _ (Heap.get?_push_of_some _ x)⟩
end
theorem zip_no_len : typeLookup (.type "zip") "__len__" = pure none := am_miss_of_fast (by decide +kernel)
theorem zip_no_hint : typeLookup (.type "zip") "__length_hint__" = pure none := am_miss_of_fast (by decide +kernel)
end PySem
namespace DL
open PySem PySem.Spec PyProof.Rows L2

/-! ### enumerate in a loop -/
def IteB (K : PySem.W.Frag) (b : Bool) (a : Addr) (k : Int) : It :=
  ⟨fun i H => ∃ (xs : List V) (x : V), SqB b K H a xs ∧ xs[i]? = some x, fun i H v H' => ∃ T x, v = .ref T ∧ H T = none ∧ H' = upd H T (.tup [.int (k + (i : Nat)), x]) ∧ ∀ xs, SqB b K H a xs → xs[i]? = some x,
    fun i H => ∃ xs : List V, SqB b K H a xs ∧ xs.length = i⟩
theorem turn_enumB {P : Program} {w : World} {K : PySem.W.Frag} {elts : List Expr} {kk : Nat} {tpos : Pos} {b : Bool} {a e it : Addr} {k0 : Int} {N : Nat} (la : a < N) (he0 : N ≤ e) (hi0 : N ≤ it) (hne : e ≠ it) :
    Turn P w K (.Tuple elts kk tpos) (IteB K b a k0) [e, it] e (fun i h => (∃ old, IsEnum h e it (k0 + (i : Int)) old) ∧ itB b h it a i) where
  mem := by simp
  obj := fun i h st c hc => by
    obtain ⟨⟨old, he⟩, hi⟩ := st
    have e' : c = e ∨ c = it := by simpa using hc
    rcases e' with z | z
    · rw [z]; exact ⟨_, he, fun v q => nomatch q⟩
    · rw [z]; exact itB_obj hi
  keep := fun i h h' st k => let ⟨⟨old, he⟩, hi⟩ := st; ⟨⟨old, k e (by simp) _ he⟩, itB_at hi fun o q => k it (by simp) o q⟩
  item := by
    intro X hP hw hK hc i pins s σ H E I hf st hg
    subst hP hw hK
    obtain ⟨⟨old, he⟩, hit⟩ := st
    obtain ⟨xs, x, hq, hx⟩ := hg
    obtain ⟨its, rv, p, _, g1⟩ := seqB I hq
    have na : a ≠ it := Nat.ne_of_lt (Nat.lt_of_lt_of_le la hi0)
    have nae : a ≠ e := Nat.ne_of_lt (Nat.lt_of_lt_of_le la he0)
    have hlx := (List.getElem?_eq_some_iff.mp hx).1
    have e1 := rv.length
    have hel : e < s.heap.objs.size := Heap.lt_size he
    have hil : it < s.heap.objs.size := by obtain ⟨_, q, _⟩ := itB_obj hit; exact Heap.lt_size q
    refine wpAny_pyNext_enum_itemC (drB b (show X.A.in1.handled = none from I.ok.hd hc) it a na its.toArray) he ⟨hit, p⟩ (by simp; omega) hne (by simp; exact ⟨hne, Ne.symm nae⟩) fun u h' tk hu ho st' hT hsz hk => ?_
    obtain ⟨v1, hv1, ru⟩ := rv.get hx
    have eu : u = v1 := by simpa [hv1] using hu.symm
    subst eu
    refine ⟨_, rfl, wpAny_letOwnedTupleGo_enum (s := { s with heap := h', toks := tk + 1 }) ho fun h'' he' sb => ?_⟩
    have hT2 : h''.get? s.heap.objs.size = some { cls := .type "tuple", data := .seq #[.int (k0 + (i : Int)) tk, u] } := (sb.2 _ (Nat.ne_of_gt hel)).trans hT
    have new : ObjOk X.prog X.w (upd H s.heap.objs.size (.tup [.int (k0 + (i : Nat)), x])) h'' s.heap.objs.size (.tup [.int (k0 + (i : Nat)), x]) :=
      ⟨by show 2 ≤ sizeLine; decide, [.int (k0 + (i : Int)) tk, u], .cons ⟨_, rfl⟩ (.cons ru .nil), ⟨_, hT2, rfl, _, rfl⟩⟩
    have I1 : Inv X pins σ (upd H s.heap.objs.size (.tup [.int (k0 + (i : Nat)), x])) { s with heap := h'', toks := tk + 1 } :=
      I.turnedNew (ch := [e, it]) (fun b ob hb q => (sb.2 b (fun z => hb (by simp [z]))).trans (hk b ob (fun z => hb (by simp [z])) (fun z => hb (by simp [z])) q)) hf (Nat.le_refl _) new
    refine ⟨.ref s.heap.objs.size, _, I1, rfl, ⟨_, x, rfl, I.hok.fresh (Nat.le_refl _), rfl, fun ys hy => by rw [seqB_inj I hy hq]; exact hx⟩, ⟨⟨u, ?_⟩, itB_at st'.1 fun o q => (sb.2 it (Ne.symm hne)).trans q⟩, fun c hcm => ?_⟩
    · have e1 : k0 + ((i + 1 : Nat) : Int) = k0 + (i : Int) + 1 := by omega
      rw [e1]; exact he'
    · have hb' : c < s.heap.objs.size := by
        have e' : c = e ∨ c = it := by simpa using hcm
        rcases e' with z | z
        · rw [z]; exact hel
        · rw [z]; exact hil
      rw [upd_ne (Nat.ne_of_lt hb')]
      exact (hf c hcm).1
  done := by
    intro X hP hw hK hc i pins s σ H E I hf st hg
    subst hP hw hK
    obtain ⟨⟨old, he⟩, hit⟩ := st
    obtain ⟨xs, hq, hx⟩ := hg
    obtain ⟨its, rv, p, _, g1⟩ := seqB I hq
    have na : a ≠ it := Nat.ne_of_lt (Nat.lt_of_lt_of_le la hi0)
    obtain ⟨f0, f1, f2, f3, f4, f5⟩ := hf it (by simp)
    have e1 := rv.length
    have en : i = its.toArray.size := by simp; omega
    subst en
    exact wpAny_pyNext_enum_endD (drB b (show X.A.in1.handled = none from I.ok.hd hc) it a na its.toArray) he ⟨hit, p⟩ fun h' eb => ⟨rfl, I.turned (t' := s.toks) (fun b o hb q => eb b o hb q) f0 f1 f3 f4 f5⟩
  self := fun A i s Q E st h => let ⟨⟨_, he⟩, _⟩ := st; wpAny_pyIter_enum he h
def enumD (k : Int) (l : List PyData) : List PyData := l.zipIdx.map fun p => .tuple [.int (k + (p.2 : Nat)), p.1]
theorem walk_enum {K : PySem.W.Frag} {H : Hp} {b : Bool} {a : Addr} {xs : List V} {l : List PyData} {k : Int} (h1 : SqB b K H a xs) (r1 : Reps K H xs l) (hz : xs.length ≤ sizeLine) : Walk K (IteB K b a k) H (enumD k l) := by
  have hl : (enumD k l).length = l.length := by simp [enumD]
  have e1 := r1.length
  refine ⟨by rw [hl]; omega, fun H' st => ⟨⟨xs, sqB_stb st h1, by omega⟩, fun i d e => ?_⟩⟩
  unfold enumD at e
  rw [List.getElem?_map, List.getElem?_zipIdx] at e
  cases q : l[i]? with
  | none => rw [q] at e; cases e
  | some p =>
    rw [q] at e
    cases e
    obtain ⟨v1, g1, rv1⟩ := (Reps.stb st _ r1).get q
    refine ⟨⟨xs, v1, sqB_stb st h1, g1⟩, ?_⟩
    rintro x H'' ⟨T, x1, rfl, hT, rfl, q1⟩
    have := q1 xs (sqB_stb st h1)
    rw [g1] at this; cases this
    have ex : Ex H' (upd H' T (.tup [.int (k + (i : Nat)), v1])) := Ex.new hT
    refine ⟨ex, .tup (SqT.of upd_same) (.cons ?_ (.cons (Rep.stb ex.stb _ rv1) .nil))⟩
    simp only [Nat.zero_add]
    exact .int _
def iZip (f : LF) : IF := fun ρ S => (f ρ S).bind fun ws S1 => match ws with
  | [.d x, .d y] => match kindB x with
    | some (_, l) => match kindB y with
      | some (_, m) => .ok (zipD l m) S1
      | none => .bad
    | none => .bad
  | _ => .bad
def iEnum1 (f : LF) : IF := fun ρ S => (f ρ S).bind fun ws S1 => match ws with
  | [.d x] => match kindB x with
    | some (_, l) => .ok (enumD 0 l) S1
    | none => .bad
  | _ => .bad
def startOk (k : Int) : Bool := decide (-(2 ^ 63) ≤ k ∧ k < 2 ^ 63)
def iEnum2 (f : LF) : IF := fun ρ S => (f ρ S).bind fun ws S1 => match ws with
  | [.d x, .d (.int k)] => match kindB x with
    | some (_, l) => if startOk k then .ok (enumD k l) S1 else .bad
    | none => .bad
  | _ => .bad
section
variable {X : Cx} {Wx : WX} {e e2 : Expr} {l : LF} {p pos tpos : Pos} {elts : List Expr} {kk : Nat}
theorem di_zip (hg : Gl X "zip") (hm : X.mg "zip" = none) (ha : DA X Wx [e, e2] l) (hs : starEach [e, e2] X.env = (false, eval e X.env) :: starEach [e2] X.env := by rfl) (hpl : (backTo pos (starEach [e2] X.env)).any (·.1) = false := by rfl) :
    DI X Wx (.Tuple elts kk tpos) (.Call (.Name "zip" p) [e, e2] [] pos) (iZip l) := by
  refine ⟨fun pins s σ H R I ⟨ad, ρ, S, sg, rs, q⟩ => ?_⟩
  refine Call_ (ld_blt I hg hm PyProof.Rows.boot_zip (PyProof.Rows.callWith_type1 (thn (ha.run pos pins s σ H (fun vs H1 => ∃ x y dx dy b1 b2 l1 l2, vs = [x, y] ∧ Rep X.K H1 x dx ∧ Rep X.K H1 y dy ∧ kindB dx = some (b1, l1) ∧ kindB dy = some (b2, l2) ∧ ∀ J, Walk X.K J H1 (zipD l1 l2) → R J H1) I ⟨ad, ρ, S, sg, rs, post_mono (post_bind q) ?_⟩) fun us s1 ⟨vs, H1, I1, r1, q1⟩ => ?_) hs hpl))
  · rintro vs H1 ⟨ad1, ws, S1, fr1, r1, rs1, q1⟩
    split at q1
    · rename_i x y
      cases hx : kindB x with
      | none => rw [hx] at q1; exact q1.elim
      | some bl =>
        rw [hx] at q1
        cases hy : kindB y with
        | none => rw [hy] at q1; exact q1.elim
        | some bm =>
          rw [hy] at q1
          cases r1 with
          | cons ra rr =>
            cases rr with
            | cons rb rr =>
              cases rr
              exact ⟨_, _, x, y, bl.1, bm.1, bl.2, bm.2, rfl, ra, rb, hx, hy, fun J w => q1 J H1 ad1 (Fr.refl _ _) w rs1⟩
    · exact q1.elim
  · obtain ⟨x, y, dx, dy, b1, b2, l1, l2, rfl, rx, ry, kx, ky, q⟩ := q1
    obtain ⟨a1, xs, rfl, sx, rpx⟩ := kind_rep rx kx
    obtain ⟨a2, ys, rfl, sy, rpy⟩ := kind_rep ry ky
    cases r1 with
    | cons r rr =>
      cases rr with
      | cons r' rr =>
        cases rr
        cases r
        cases r'
        obtain ⟨its, rv, p1, z1, g1⟩ := seqB I1 sx
        obtain ⟨its2, rv2, p2, z2, g2⟩ := seqB I1 sy
        refine zip_begins2 (beB b1 a1 its.toArray) (beB b2 a2 its2.toArray) p1 p2 fun h' hz hTI hTO h1 h2 hsz hk => wpAny_pyIter_zip hz ?_
        have I2 : Inv X pins σ H1 { s1 with heap := h' } := I1.kept (t' := s1.toks) hk
        refine ⟨s1.heap.objs.size + 4, [s1.heap.objs.size + 4, s1.heap.objs.size + 2, s1.heap.objs.size + 3, s1.heap.objs.size, s1.heap.objs.size + 1], _, _, H1, rfl, I2, turn_zipB (b1 := b1) (b2 := b2) (a1 := a1) (a2 := a2) (ap_new s1.heap.objs.size) g1 g2,
          ⟨hz, hTI, ⟨_, _, hTO⟩, itB_new h1, itB_new h2⟩, fun c hcm => ?_, q _ (walk_zip sx rpx sy rpy z1)⟩
        have hle := (ap_new s1.heap.objs.size).ge c hcm
        exact I1.fpOk hle (I1.hok.fresh hle)
theorem enum_fin {tg : Expr} {pins : List (Addr × Obj)} {σ : L2.St} {H1 : Hp} {s1 : Shared} {R : It → Hp → Prop} {E : Value → Shared → Prop} {b : Bool} {a : Addr} {xs : List V} {k : Int} {h' : Heap} (I1 : Inv X pins σ H1 s1) (g1 : a < s1.heap.objs.size)
    (he : IsEnum h' (s1.heap.objs.size + 1) s1.heap.objs.size k .none) (hi : h'.get? s1.heap.objs.size = some (obB b a)) (hk : ∀ b o, s1.heap.get? b = some o → h'.get? b = some o) (q : R (IteB X.K b a k) H1) :
    wpAny (model X.prog X.w) X.A (pyIter (.ref (s1.heap.objs.size + 1))) (PIE X pins σ (.Tuple elts kk tpos) R) E { s1 with heap := h' } := by
  refine wpAny_pyIter_enum he ?_
  have I2 : Inv X pins σ H1 { s1 with heap := h' } := I1.kept (t' := s1.toks) hk
  refine ⟨s1.heap.objs.size + 1, [s1.heap.objs.size + 1, s1.heap.objs.size], _, _, H1, rfl, I2, turn_enumB (b := b) (k0 := k) g1 (Nat.le_succ _) (Nat.le_refl _) (Nat.succ_ne_self _), ⟨⟨.none, by simpa using he⟩, itB_new hi⟩, fun c hcm => ?_, q⟩
  have e' : c = s1.heap.objs.size + 1 ∨ c = s1.heap.objs.size := by simpa using hcm
  have hle : s1.heap.objs.size ≤ c := by
    rcases e' with z | z
    · rw [z]; exact Nat.le_add_right _ _
    · rw [z]; exact Nat.le_refl _
  exact I1.fpOk hle (I1.hok.fresh hle)
theorem di_enum (hg : Gl X "enumerate") (hm : X.mg "enumerate" = none) (ha : DA X Wx [e] l) (hs : starEach [e] X.env = [(false, eval e X.env)] := by rfl) :
    DI X Wx (.Tuple elts kk tpos) (.Call (.Name "enumerate" p) [e] [] pos) (iEnum1 l) := by
  refine ⟨fun pins s σ H R I ⟨ad, ρ, S, sg, rs, q⟩ => ?_⟩
  refine Call_ (ld_blt I hg hm boot_enumerate (PyProof.Rows.callWith_type1 (thn (ha.run pos pins s σ H (fun vs H1 => ∃ x dx b1 l1, vs = [x] ∧ Rep X.K H1 x dx ∧ kindB dx = some (b1, l1) ∧ ∀ J, Walk X.K J H1 (enumD 0 l1) → R J H1) I ⟨ad, ρ, S, sg, rs, post_mono (post_bind q) ?_⟩) fun us s1 ⟨vs, H1, I1, r1, q1⟩ => ?_) hs rfl))
  · rintro vs H1 ⟨ad1, ws, S1, fr1, r1, rs1, q1⟩
    split at q1
    · rename_i x
      cases hx : kindB x with
      | none => rw [hx] at q1; exact q1.elim
      | some bl =>
        rw [hx] at q1
        cases r1 with
        | cons ra rr =>
          cases rr
          exact ⟨_, x, bl.1, bl.2, rfl, ra, hx, fun J w => q1 J H1 ad1 (Fr.refl _ _) w rs1⟩
    · exact q1.elim
  · obtain ⟨x, dx, b1, l1, rfl, rx, kx, q⟩ := q1
    obtain ⟨a1, xs, rfl, sx, rpx⟩ := kind_rep rx kx
    cases r1 with
    | cons r rr =>
      cases rr
      cases r
      obtain ⟨its, rv, p1, z1, g1⟩ := seqB I1 sx
      exact enum_begins1 (beB b1 a1 its.toArray) p1 fun h' he hi hsz hk => enum_fin (xs := xs) (tg := e) I1 g1 he hi hk (q _ (walk_enum sx rpx z1))
theorem di_enum2 (hg : Gl X "enumerate") (hm : X.mg "enumerate" = none) (ha : DA X Wx [e, e2] l) (hs : starEach [e, e2] X.env = (false, eval e X.env) :: starEach [e2] X.env := by rfl) (hpl : (backTo pos (starEach [e2] X.env)).any (·.1) = false := by rfl) :
    DI X Wx (.Tuple elts kk tpos) (.Call (.Name "enumerate" p) [e, e2] [] pos) (iEnum2 l) := by
  refine ⟨fun pins s σ H R I ⟨ad, ρ, S, sg, rs, q⟩ => ?_⟩
  refine Call_ (ld_blt I hg hm boot_enumerate (PyProof.Rows.callWith_type1 (thn (ha.run pos pins s σ H (fun vs H1 => ∃ x dx b1 l1 k, vs = [x, .int k] ∧ Rep X.K H1 x dx ∧ kindB dx = some (b1, l1) ∧ startOk k = true ∧ ∀ J, Walk X.K J H1 (enumD k l1) → R J H1) I ⟨ad, ρ, S, sg, rs, post_mono (post_bind q) ?_⟩) fun us s1 ⟨vs, H1, I1, r1, q1⟩ => ?_) hs hpl))
  · rintro vs H1 ⟨ad1, ws, S1, fr1, r1, rs1, q1⟩
    split at q1
    · rename_i x k
      cases hx : kindB x with
      | none => rw [hx] at q1; exact q1.elim
      | some bl =>
        rw [hx] at q1
        dsimp only at q1
        split at q1
        · rename_i hk
          cases r1 with
          | cons ra rr =>
            cases rr with
            | cons rb rr =>
              cases rr
              cases rb
              exact ⟨_, x, bl.1, bl.2, k, rfl, ra, hx, hk, fun J w => q1 J H1 ad1 (Fr.refl _ _) w rs1⟩
        · exact q1.elim
    · exact q1.elim
  · obtain ⟨x, dx, b1, l1, k, rfl, rx, kx, hk0, q⟩ := q1
    obtain ⟨a1, xs, rfl, sx, rpx⟩ := kind_rep rx kx
    cases r1 with
    | cons r rr =>
      cases rr with
      | cons r' rr =>
        cases rr
        cases r
        obtain ⟨t, rfl⟩ := r'
        obtain ⟨its, rv, p1, z1, g1⟩ := seqB I1 sx
        have hb := of_decide_eq_true hk0
        exact enum_begins (beB b1 a1 its.toArray) p1 hb.1 hb.2 fun h' he hi hsz hk => enum_fin (xs := xs) (tg := e) I1 g1 he hi hk (q _ (walk_enum sx rpx z1))
end
end DL

set_option Elab.async false
set_option linter.all false
set_option maxRecDepth 100000
set_option maxHeartbeats 4000000
/-! D8: built-in functions on data, slices, op=, stores into lists, append and extend. -/
namespace DL
open PySem PySem.Spec PyProof.Rows L2

/-! ### built-in functions of data -/
def views (S : Sto) : List Wv → Option (List PyData)
  | [] => some []
  | w :: r => match view S w with
    | some d => (views S r).map (d :: ·)
    | none => none
abbrev RepVs (K : PySem.W.Frag) (H : Hp) : List V → List PyData → Prop := Paired (RepV K H)
theorem views_rep {K : PySem.W.Frag} {ad : List Addr} {H : Hp} {S : Sto} (rs : RS K ad H S) : ∀ {vs : List V} {ws : List Wv} {ds : List PyData}, RepWs K ad H vs ws → views S ws = some ds → RepVs K H vs ds
  | _, _, _, .nil, e => by cases e; exact .nil
  | _, _, ds, .cons (b := w) (l₂ := r) h t, e => by
    unfold views at e
    cases q : view S w with
    | none => rw [q] at e; cases e
    | some d =>
      rw [q] at e
      cases q2 : views S r with
      | none => rw [q2] at e; cases e
      | some l =>
        rw [q2] at e
        cases e
        exact .cons (view_rep h rs q) (views_rep rs t q2)
def rG (K : PySem.W.Frag) (g : List PyData → Option PyData) : List V → Hp → VK → Prop := fun xs H Q => ∃ ds d, RepVs K H xs ds ∧ g ds = some d ∧ ∀ v H', Ex H H' → Rep K H' v d → Q v H'
def CallP (X : Cx) (f : Value) (g : List PyData → Option PyData) : Prop := CallR X f (rG X.K g)
def opN (g : List PyData → Option PyData) (ws : List Wv) (S : Sto) : Rs Wv := match views S ws with
  | some ds => match g ds with
    | some d => .ok (.d d) S
    | none => .bad
  | none => .bad
def eB (g : List PyData → Option PyData) (l : LF) : EF := fun ρ S => (l ρ S).bind (opN g)
section
variable {X : Cx} {Wx : WX} {g : List PyData → Option PyData} {e : Expr} {es : List Expr} {l : LF} {x : Str} {p pos : Pos}
theorem blt_conv {σ : L2.St} {H : Hp} {Q : VK} (q : tD X.K X.mg Wx (eB g l) σ H Q) : tCB (rG X.K g) (tDA X.K X.mg Wx l) σ H Q := by
  obtain ⟨ad, ρ, S, sg, rs, q⟩ := q
  refine ⟨ad, ρ, S, sg, rs, post_mono (post_bind q) ?_⟩
  rintro vs H1 ⟨ad1, ws, S1, fr1, r1, rs1, q1⟩
  unfold opN at q1
  cases e1 : views S1 ws with
  | none => rw [e1] at q1; exact q1.elim
  | some ds =>
    rw [e1] at q1
    dsimp only at q1
    cases e2 : g ds with
    | none => rw [e2] at q1; exact q1.elim
    | some d =>
      rw [e2] at q1
      exact ⟨ds, d, views_rep rs1 r1 e1, e2, fun v H' ex r => q1 v H' ad1 ex.fr r (rs1.ex ex)⟩
theorem de_blt {id : String} (hc : CallP X (.builtin id) g) (hg : Gl X x) (hm : X.mg x = none) (hv : bootBuiltins x = some (.builtin id)) (ha : DA X Wx (e :: es) l) (hn : x ≠ "__name__" := by decide) (hdb : (x == ("__debug__" : Str)) = false := by decide)
    (he : starEach (e :: es) X.env = (false, eval e X.env) :: starEach es X.env := by rfl) (hpl : (backTo pos (starEach es X.env)).any (·.1) = false := by rfl) : DE X Wx (.Call (.Name x p) (e :: es) [] pos) (eB g l) :=
  PE.conv (pe_callB hc hg hm hv ha hn hdb he hpl) fun _ _ _ q => blt_conv q
theorem de_bty {T : String} (hc : CallP X (.type T) g) (hg : Gl X x) (hm : X.mg x = none) (hv : bootBuiltins x = some (.type T)) (ha : DA X Wx (e :: es) l) (hn : x ≠ "__name__" := by decide) (hdb : (x == ("__debug__" : Str)) = false := by decide)
    (he : starEach (e :: es) X.env = (false, eval e X.env) :: starEach es X.env := by rfl) (hpl : (backTo pos (starEach es X.env)).any (·.1) = false := by rfl) : DE X Wx (.Call (.Name x p) (e :: es) [] pos) (eB g l) :=
  PE.conv (pe_callTy hc hg hm hv ha hn hdb he hpl) fun _ _ _ q => blt_conv q
end
/-! the functions -/
def absG : List PyData → Option PyData
  | [.int i] => some (.int (i.natAbs : Nat))
  | _ => none
def intG : List PyData → Option PyData
  | [.int i] => some (.int i)
  | [.bool k] => some (.int (if k then 1 else 0))
  | [.str a] => match PySem.intText? a with
    | some n => if a.length ≤ 640 then some (.int n) else none
    | none => none
  | _ => none
def lenG : List PyData → Option PyData
  | [.list l] => some (.int (l.length : Nat))
  | [.tuple l] => some (.int (l.length : Nat))
  | [.str z] => some (.int (z.length : Nat))
  | _ => none
def tupG : List PyData → Option PyData
  | [.list l] => some (.tuple l)
  | [.tuple l] => some (.tuple l)
  | _ => none
def boolsD : List PyData → Option (List Bool)
  | [] => some []
  | .bool b :: r => (boolsD r).map (b :: ·)
  | _ => none
def intsD : List PyData → Option (List Int)
  | [] => some []
  | .int b :: r => (intsD r).map (b :: ·)
  | _ => none
def strsD : List PyData → Option (List Str)
  | [] => some []
  | .str b :: r => (strsD r).map (b :: ·)
  | _ => none
def allG : List PyData → Option PyData
  | [.list l] => (boolsD l).map fun bs => .bool (bs.all id)
  | _ => none
def anyG : List PyData → Option PyData
  | [.list l] => (boolsD l).map fun bs => .bool (bs.any id)
  | _ => none
def sumG : List PyData → Option PyData
  | [.list l] => (intsD l).map fun bs => .int bs.sum
  | _ => none
def maxG : List PyData → Option PyData
  | [.int i, .int j] => some (.int (if j > i then j else i))
  | _ => none
def minG : List PyData → Option PyData
  | [.int i, .int j] => some (.int (if j < i then j else i))
  | _ => none
def strG1 : List PyData → Option PyData
  | [.int i] => if i.natAbs.log2 < 1920 then some (.str (toString i)) else none
  | [.str x] => some (.str x)
  | _ => none
theorem bools_rep {K : PySem.W.Frag} {H : Hp} : ∀ {vs : List V} {ds : List PyData} {bs : List Bool}, Reps K H vs ds → boolsD ds = some bs → vs = bs.map V.bl
  | _, _, bs, .nil, e => by cases e; rfl
  | _, _, bs, .cons (ds := ds) h t, e => by
    cases h with
    | bl b =>
      unfold boolsD at e
      cases q : boolsD ds with
      | none => rw [q] at e; cases e
      | some l => rw [q] at e; cases e; rw [bools_rep t q]; rfl
    | _ => cases e
theorem ints_rep {K : PySem.W.Frag} {H : Hp} : ∀ {vs : List V} {ds : List PyData} {bs : List Int}, Reps K H vs ds → intsD ds = some bs → vs = bs.map V.int
  | _, _, bs, .nil, e => by cases e; rfl
  | _, _, bs, .cons (ds := ds) h t, e => by
    cases h with
    | int b =>
      unfold intsD at e
      cases q : intsD ds with
      | none => rw [q] at e; cases e
      | some l => rw [q] at e; cases e; rw [ints_rep t q]; rfl
    | _ => cases e
theorem strs_rep {K : PySem.W.Frag} {H : Hp} : ∀ {vs : List V} {ds : List PyData} {bs : List Str}, Reps K H vs ds → strsD ds = some bs → vs = bs.map V.str ∧ ∀ b ∈ bs, strG b = true
  | _, _, bs, .nil, e => by cases e; exact ⟨rfl, fun _ h => by cases h⟩
  | _, _, bs, .cons (ds := ds) h t, e => by
    cases h with
    | str b hb =>
      unfold strsD at e
      cases q : strsD ds with
      | none => rw [q] at e; cases e
      | some l =>
        rw [q] at e; cases e
        obtain ⟨e1, e2⟩ := strs_rep t q
        rw [e1]
        exact ⟨rfl, fun c hc => by
          rcases List.mem_cons.mp hc with z | z
          · rw [z]; exact hb
          · exact e2 c z⟩
    | _ => cases e
section
variable {X : Cx}
theorem repV1 {K : PySem.W.Frag} {H : Hp} {xs : List V} {d : PyData} (h : RepVs K H xs [d]) : ∃ x, xs = [x] ∧ RepV K H x d := by
  cases h with
  | cons r t => cases t; exact ⟨_, rfl, r⟩
theorem repV2 {K : PySem.W.Frag} {H : Hp} {xs : List V} {d e : PyData} (h : RepVs K H xs [d, e]) : ∃ x y, xs = [x, y] ∧ RepV K H x d ∧ RepV K H y e := by
  cases h with
  | cons r t => obtain ⟨y, rfl, r2⟩ := repV1 t; exact ⟨_, _, rfl, r, r2⟩
theorem repV_list {K : PySem.W.Frag} {H : Hp} {x : V} {l : List PyData} (h : RepV K H x (.list l)) : ∃ a vs, x = .ref a ∧ SqL K H a vs ∧ Reps K H vs l := h.lst
theorem cp_abs : CallP X (.builtin "abs") absG := by
  intro pins s σ H xs us Q I r ⟨ds, d, h, e, q⟩
  unfold absG at e
  split at e
  · cases e
    obtain ⟨x, rfl, r1⟩ := repV1 h
    cases r1.int
    refine call_abs pins s σ H _ us Q I r ⟨_, rfl, ?_⟩
    rename_i i
    have : (if i < 0 then -i else i) = ((i.natAbs : Nat) : Int) := by split <;> omega
    rw [this]
    exact q _ H (Ex.refl H) (.int _)
  · cases e
theorem cp_int : CallP X (.type "int") intG := by
  intro pins s σ H xs us Q I r ⟨ds, d, h, e, q⟩
  unfold intG at e
  split at e
  · cases e
    obtain ⟨x, rfl, r1⟩ := repV1 h
    cases r1.int
    exact call_int1 pins s σ H _ us Q I r (.inl ⟨_, rfl, q _ H (Ex.refl H) (.int _)⟩)
  · cases e
    obtain ⟨x, rfl, r1⟩ := repV1 h
    cases r1.bool
    exact call_int1 pins s σ H _ us Q I r (.inr ⟨_, rfl, q _ H (Ex.refl H) (.int _)⟩)
  · split at e
    · split at e
      · rename_i hz
        cases e
        obtain ⟨x, rfl, r1⟩ := repV1 h
        obtain ⟨rfl, z⟩ := r1.str
        exact call_int_str pins s σ H _ us Q I r ⟨_, _, rfl, by assumption, hz, q _ H (Ex.refl H) (.int _)⟩
      · cases e
    · cases e
  · cases e
theorem cp_len : CallP X (.builtin "len") lenG := by
  intro pins s σ H xs us Q I r ⟨ds, d, h, e, q⟩
  unfold lenG at e
  split at e
  · cases e
    obtain ⟨x, rfl, r1⟩ := repV1 h
    obtain ⟨a, vs, rfl, t, rr⟩ := r1.lst
    refine call_len_seq pins s σ H _ us Q I r ⟨_, _, rfl, .inl t, ?_⟩
    rw [rr.length]
    exact q _ H (Ex.refl H) (.int _)
  · cases e
    obtain ⟨x, rfl, r1⟩ := repV1 h
    obtain ⟨a, vs, rfl, t, rr⟩ := r1.tup
    refine call_len_seq pins s σ H _ us Q I r ⟨_, _, rfl, .inr t, ?_⟩
    rw [rr.length]
    exact q _ H (Ex.refl H) (.int _)
  · cases e
    obtain ⟨x, rfl, r1⟩ := repV1 h
    obtain ⟨rfl, z⟩ := r1.str
    exact call_len_str pins s σ H _ us Q I r ⟨_, rfl, strG_len z, q _ H (Ex.refl H) (.int _)⟩
  · cases e
theorem cp_tup : CallP X (.type "tuple") tupG := by
  intro pins s σ H xs us Q I r ⟨ds, d, h, e, q⟩
  unfold tupG at e
  split at e
  · cases e
    obtain ⟨x, rfl, r1⟩ := repV1 h
    obtain ⟨a, vs, rfl, t, rr⟩ := r1.lst
    refine call_tuple_of pins s σ H _ us Q I r ⟨_, _, rfl, .inl ⟨t, fun p hp => ?_⟩⟩
    have ex : Ex H (upd H p (.tup vs)) := Ex.new hp
    exact q _ _ ex (.tup (SqT.of upd_same) (Reps.stb ex.stb _ rr))
  · cases e
    obtain ⟨x, rfl, r1⟩ := repV1 h
    obtain ⟨a, vs, rfl, t, rr⟩ := r1.tup
    exact call_tuple_of pins s σ H _ us Q I r ⟨_, _, rfl, .inr ⟨t, q _ H (Ex.refl H) (.tup t rr)⟩⟩
  · cases e
theorem cp_all (hc : X.calm = true) : CallP X (.builtin "all") allG := by
  intro pins s σ H xs us Q I r ⟨ds, d, h, e, q⟩
  unfold allG at e
  split at e
  · rename_i l
    obtain ⟨x, rfl, r1⟩ := repV1 h
    obtain ⟨a, vs, rfl, t, rr⟩ := r1.lst
    cases hb : boolsD l with
    | none => rw [hb] at e; cases e
    | some bs =>
      rw [hb] at e
      cases e
      have := bools_rep rr hb
      subst this
      exact cr_all hc pins s σ H _ us Q I r ⟨_, bs, rfl, t, q _ H (Ex.refl H) (.bl _)⟩
  · cases e
theorem cp_any (hc : X.calm = true) : CallP X (.builtin "any") anyG := by
  intro pins s σ H xs us Q I r ⟨ds, d, h, e, q⟩
  unfold anyG at e
  split at e
  · rename_i l
    obtain ⟨x, rfl, r1⟩ := repV1 h
    obtain ⟨a, vs, rfl, t, rr⟩ := r1.lst
    cases hb : boolsD l with
    | none => rw [hb] at e; cases e
    | some bs =>
      rw [hb] at e
      cases e
      have := bools_rep rr hb
      subst this
      exact cr_any hc pins s σ H _ us Q I r ⟨_, bs, rfl, t, q _ H (Ex.refl H) (.bl _)⟩
  · cases e
theorem cp_sum (hc : X.calm = true) : CallP X (.builtin "sum") sumG := by
  intro pins s σ H xs us Q I r ⟨ds, d, h, e, q⟩
  unfold sumG at e
  split at e
  · rename_i l
    obtain ⟨x, rfl, r1⟩ := repV1 h
    obtain ⟨a, vs, rfl, t, rr⟩ := r1.lst
    cases hb : intsD l with
    | none => rw [hb] at e; cases e
    | some bs =>
      rw [hb] at e
      cases e
      have := ints_rep rr hb
      subst this
      exact cr_sum hc pins s σ H _ us Q I r ⟨_, bs, rfl, t, q _ H (Ex.refl H) (.int _)⟩
  · cases e
theorem cp_max (hc : X.calm = true) : CallP X (.builtin "max") maxG := by
  intro pins s σ H xs us Q I r ⟨ds, d, h, e, q⟩
  unfold maxG at e
  split at e
  · cases e
    obtain ⟨x, y, rfl, r1, r2⟩ := repV2 h
    cases r1.int; cases r2.int
    exact call_max2 hc pins s σ H _ us Q I r ⟨_, _, rfl, q _ H (Ex.refl H) (.int _)⟩
  · cases e
theorem cp_min (hc : X.calm = true) : CallP X (.builtin "min") minG := by
  intro pins s σ H xs us Q I r ⟨ds, d, h, e, q⟩
  unfold minG at e
  split at e
  · cases e
    obtain ⟨x, y, rfl, r1, r2⟩ := repV2 h
    cases r1.int; cases r2.int
    exact call_min2 hc pins s σ H _ us Q I r ⟨_, _, rfl, q _ H (Ex.refl H) (.int _)⟩
  · cases e
def negG : List PyData → Option PyData
  | [.int i] => some (.int (-i))
  | _ => none
theorem un_negD {Wx : WX} {a : Expr} {f : EF} {pos : Pos} (ha : DE X Wx a f) : DE X Wx (.UnaryOp .USub a pos) (eB negG (lCons f lNil)) := PE.conv (pe_un un_neg ha) fun σ H Q ⟨ad, ρ, S, sg, rs, q⟩ => by
  have q : post X.K X.mg Wx σ ad H (RepW X.K) ((f ρ S).bind fun x S1 => opN negG [x] S1) Q := by
    revert q
    unfold eB lCons lNil
    cases f ρ S with
    | bad => exact id
    | exc x S1 => exact id
    | ok w S1 => exact id
  refine ⟨ad, ρ, S, sg, rs, post_mono (post_bind q) ?_⟩
  rintro x H1 ⟨ad1, w, S1, fr1, r1, rs1, q1⟩
  unfold opN views views negG at q1
  cases e1 : view S1 w with
  | none => rw [e1] at q1; exact q1.elim
  | some d =>
    rw [e1] at q1
    cases d with
    | int i =>
      have rv := view_rep r1 rs1 e1
      cases rv.int
      exact ⟨_, rfl, q1 _ H1 ad1 (Fr.refl _ _) (.int _) rs1⟩
    | _ => exact q1.elim
end
end DL

set_option Elab.async false
set_option linter.all false
set_option maxRecDepth 100000
set_option maxHeartbeats 4000000
/-! D9: list(zip(a, b)). -/
namespace DL
open PySem PySem.Spec PyProof.Rows L2

def ZSt (h : Heap) (z TI TO i1 i2 : Addr) (b1 b2 : Bool) (a1 a2 : Addr) (i : Nat) : Prop :=
  (IsZip h z TI TO .none ∨ ∃ T f oT, IsZipHeld h z TI TO T f ∧ h.get? T = some oT ∧ T ∉ [z, TI, TO, i1, i2] ∧ oT.cls = .type "tuple") ∧ IsTupOf2 h TI (.ref i1) (.ref i2) ∧ (∃ x y, IsTupOf2 h TO x y) ∧ itB b1 h i1 a1 i ∧ itB b2 h i2 a2 i
section
variable {h h' : Heap} {z TI TO i1 i2 : Addr} {b1 b2 : Bool} {a1 a2 : Addr} {i : Nat}
theorem ZSt.ty (st : ZSt h z TI TO i1 i2 b1 b2 a1 a2 i) : ∃ o, h.get? z = some o ∧ o.cls = .type "zip" := by
  rcases st.1 with q | ⟨_, _, _, q, _⟩
  · exact ⟨_, q, rfl⟩
  · exact ⟨_, q, rfl⟩
theorem ZSt.at (st : ZSt h z TI TO i1 i2 b1 b2 a1 a2 i) {q : Addr} (hc : ∀ o, h.get? q = some o → o.cls ≠ .type "tuple") (hn : q ∉ [z, TI, TO, i1, i2]) (k : ∀ b o, b ≠ q → h.get? b = some o → h'.get? b = some o) : ZSt h' z TI TO i1 i2 b1 b2 a1 a2 i := by
  have ne : ∀ c ∈ [z, TI, TO, i1, i2], c ≠ q := fun c hc e => hn (e ▸ hc)
  obtain ⟨hz, hTI, ⟨x, y, hTO⟩, h1, h2⟩ := st
  refine ⟨?_, k TI _ (ne _ (by simp)) hTI, ⟨x, y, k TO _ (ne _ (by simp)) hTO⟩, itB_at h1 fun o e => k i1 o (ne _ (by simp)) e, itB_at h2 fun o e => k i2 o (ne _ (by simp)) e⟩
  rcases hz with e1 | ⟨T, f, oT, e1, e2, e3, e5⟩
  · exact .inl (k z _ (ne _ (by simp)) e1)
  · refine .inr ⟨T, f, oT, k z _ (ne _ (by simp)) e1, k T _ (fun z => ?_) e2, e3, e5⟩
    subst z
    exact hc _ e2 e5
end
theorem FpOk.upd {X : Cx} {pins : List (Addr × Obj)} {H : Hp} {c p : Addr} {o : HO} (f : FpOk X pins H c) (h : c ≠ p) : FpOk X pins (upd H p o) c := ⟨by rw [upd_ne h]; exact f.1, f.2⟩
section
variable {X : Cx} {pins : List (Addr × Obj)} {σ : L2.St} {A1 : Around} {z TI TO i1 i2 : Addr} {b1 b2 : Bool} {a1 a2 q : Addr} {N : Nat} {H0 : Hp} {xs ys : List V} {l m : List PyData}
theorem zl_loop {Rs : Result → Shared → Prop} (D : Ap z TI TO i1 i2 N) (g1 : a1 < N) (g2 : a2 < N) (hh : A1.in1.in1.handled = none) (hq0 : H0 q = none) (s1 : SqB b1 X.K H0 a1 xs) (r1 : Reps X.K H0 xs l) (s2 : SqB b2 X.K H0 a2 ys) (r2 : Reps X.K H0 ys m)
    (hdone : ∀ H s accV, Inv X pins σ H s → Ex H0 H → H q = some (.lst accV) → Reps X.K H accV (zipD l m) → Rs (.ok (.ret .none)) s) :
    ∀ (k i : Nat) (accV : List V) (H : Hp) (s : Shared), (zipD l m).length - i = k → i ≤ (zipD l m).length → Inv X pins σ H s → Ex H0 H → H q = some (.lst accV) → Reps X.K H accV ((zipD l m).take i) →
      ZSt s.heap z TI TO i1 i2 b1 b2 a1 a2 i → (∀ c ∈ [z, TI, TO, i1, i2], FpOk X pins H c) → codeAny (model X.prog X.w) A1 (.builtin "list.extend.loop" ⟨[.ref q, .ref z, .none], []⟩) Rs s := by
  have S := D.S a1 a2 g1 g2
  have n1 : a1 ≠ i1 := Nat.ne_of_lt (Nat.lt_of_lt_of_le g1 (D.ge i1 (by simp)))
  have n2 : a2 ≠ i2 := Nat.ne_of_lt (Nat.lt_of_lt_of_le g2 (D.ge i2 (by simp)))
  have hl : (zipD l m).length = min l.length m.length := by simp [zipD]
  intro k
  induction k with
  | zero =>
    intro i accV H s hk hi I ex hq rp st fp
    have hin : i = (zipD l m).length := by omega
    refine codeAny_builtin PySem.F.entry_extend_loop ?_
    rw [Around.under_plainId PySem.F.plain_extend_loop _]
    show wpAny _ A1.in1 (pyNext (.ref z) >>= _) _ _ s
    have x1 := sqB_stb ex.stb s1
    have x2 := sqB_stb ex.stb s2
    obtain ⟨its, rv, p, _, _⟩ := seqB I x1
    obtain ⟨its2, rv2, p2, _, _⟩ := seqB I x2
    have e1 := rv.length
    have e2 := rv2.length
    have e3 := r1.length
    have e4 := r2.length
    have fin : ∀ h' tk, (∀ c o, c ∉ [z, TI, TO, i1, i2] → s.heap.get? c = some o → h'.get? c = some o) → Rs (.ok (.ret .none)) { s with heap := h', toks := tk } := fun h' tk hk => by
      refine hdone H _ accV (I.turnedL (t' := tk) (ch := [z, TI, TO, i1, i2]) (fun b o hb e => hk b o hb e) fp) ex hq ?_
      rw [hin, List.take_length] at rp
      exact rp
    obtain ⟨hz, hTI, ⟨x0, y0, hTO⟩, h1, h2⟩ := st
    rcases hz with hz | ⟨T, f, oT, hz, hT, _⟩
    · refine wpAny_bind (wpAny_pyNext_zipD2_end S (drB b1 hh i1 a1 n1 its.toArray) (drB b2 hh i2 a2 n2 its2.toArray) hz hTI hTO ⟨h1, p⟩ ⟨h2, p2⟩ (by simp; omega) (by simp; omega) (by simp; omega) fun h' tk hk => ?_)
      exact wpAny_pure (fin h' tk fun c o hb e => hk c o (fun q' => hb (by simp [q'])) (fun q' => hb (by simp [q'])) (fun q' => hb (by simp [q'])) (fun q' => hb (by simp [q'])) e)
    · refine wpAny_bind (pyNext_zipH_end S (drB b1 hh i1 a1 n1 its.toArray) (drB b2 hh i2 a2 n2 its2.toArray) hz hT hTI ⟨h1, p⟩ ⟨h2, p2⟩ (by simp; omega) (by simp; omega) (by simp; omega) fun h' tk hk => ?_)
      exact wpAny_pure (fin h' tk fun c o hb e => hk c o (fun q' => hb (by simp [q'])) (fun q' => hb (by simp [q'])) (fun q' => hb (by simp [q'])) e)
  | succ k ih =>
    intro i accV H s hk hi I ex hq rp st fp
    have hlt : i < (zipD l m).length := by omega
    refine codeAny_builtin PySem.F.entry_extend_loop ?_
    rw [Around.under_plainId PySem.F.plain_extend_loop _]
    show wpAny _ A1.in1 (pyNext (.ref z) >>= _) _ _ s
    have x1 := sqB_stb ex.stb s1
    have x2 := sqB_stb ex.stb s2
    obtain ⟨its, rv, p, zl, _⟩ := seqB I x1
    obtain ⟨its2, rv2, p2, zl2, _⟩ := seqB I x2
    have e1 := rv.length
    have e2 := rv2.length
    have e3 := r1.length
    have e4 := r2.length
    have hqc : q ∉ [z, TI, TO, i1, i2] := fun hm => by
      have := (fp q hm).1
      rw [hq] at this; cases this
    obtain ⟨hz, hTI, ⟨x0, y0, hTO⟩, h1, h2⟩ := id st
    have hcell : ∀ c ∈ [z, TI, TO, i1, i2], c < s.heap.objs.size := fun c hcm => by
      have e' : c = z ∨ c = TI ∨ c = TO ∨ c = i1 ∨ c = i2 := by simpa using hcm
      rcases e' with q | q | q | q | q
      · rw [q]; obtain ⟨o, e, _⟩ := st.ty; exact Heap.lt_size e
      · rw [q]; exact Heap.lt_size hTI
      · rw [q]; exact Heap.lt_size hTO
      · rw [q]; obtain ⟨_, e1, _⟩ := itB_obj h1; exact Heap.lt_size e1
      · rw [q]; obtain ⟨_, e2, _⟩ := itB_obj h2; exact Heap.lt_size e2
    have ix : i < xs.length := by omega
    have iy : i < ys.length := by omega
    obtain ⟨d1, gd1, rd1⟩ := r1.getV (i := i) (v := xs[i]) (by simp [ix])
    obtain ⟨d2, gd2, rd2⟩ := r2.getV (i := i) (v := ys[i]) (by simp [iy])
    have hz1 : (zipD l m)[i]? = some (.tuple [d1, d2]) := by
      unfold zipD
      have hp : (l.zip m)[i]? = some (d1, d2) := List.getElem?_zip_eq_some.mpr ⟨gd1, gd2⟩
      rw [List.getElem?_map, hp]
      rfl
    -- what the turn does, whichever way the tuple comes
    have go : ∀ (u u2 : Value) (h' : Heap) (tk : Nat), its.toArray[i]? = some u → its2.toArray[i]? = some u2 → (IsZip h' z TI TO (rawInt s.heap.objs.size) ∨ IsZipHeld h' z TI TO s.heap.objs.size true ∨ ∃ T f oT, IsZipHeld h' z TI TO T f ∧ h'.get? T = some oT ∧ T ∉ [z, TI, TO, i1, i2] ∧ oT.cls = .type "tuple") → (∃ x y, IsTupOf2 h' TO x y) → itB b1 h' i1 a1 (i + 1) → itB b2 h' i2 a2 (i + 1) →
        IsTupOf2 h' s.heap.objs.size u u2 → h'.objs.size = s.heap.objs.size + 1 → (∀ c o, c ∉ [z, TO, i1, i2] → s.heap.get? c = some o → h'.get? c = some o) →
        wpAny (model X.prog X.w) A1.in1 (updateSeq q (·.push (.ref s.heap.objs.size)) >>= fun _ => again (.builtin "list.extend.loop" ⟨[.ref q, .ref z, .none], []⟩)) (fun fin s' => match fin with | .done f => Rs (.ok f) s' | .again c' => c'.quiet = true ∧ codeAny (model X.prog X.w) A1 c' Rs s') (fun e s' => Rs (.error e) s') { s with heap := h', toks := tk } := by
      intro u u2 h' tk hu hu2 hz' hTO' h1' h2' hT hsz hkp
      obtain ⟨v1, hv1, ru⟩ := rv.get (i := i) (x := xs[i]) (by simp [ix])
      obtain ⟨v2, hv2, ru2⟩ := rv2.get (i := i) (x := ys[i]) (by simp [iy])
      have eu : u = v1 := by simpa [hv1] using hu.symm
      have eu2 : u2 = v2 := by simpa [hv2] using hu2.symm
      subst eu eu2
      have new : ObjOk X.prog X.w (upd H s.heap.objs.size (.tup [xs[i], ys[i]])) h' s.heap.objs.size (.tup [xs[i], ys[i]]) :=
        ⟨by show 2 ≤ sizeLine; decide, [u, u2], .cons ru (.cons ru2 .nil), ⟨_, hT, rfl, _, rfl⟩⟩
      have I1 : Inv X pins σ (upd H s.heap.objs.size (.tup [xs[i], ys[i]])) { s with heap := h', toks := tk } :=
        I.turnedNew (t' := tk) (ch := [z, TI, TO, i1, i2]) (fun c o hb q => hkp c o (fun q' => hb (by
          rcases List.mem_cons.mp q' with r | r
          · rw [r]; simp
          · exact List.mem_cons_of_mem _ (List.mem_cons_of_mem _ r))) q) fp (Nat.le_refl _) new
      have exT : Ex H (upd H s.heap.objs.size (.tup [xs[i], ys[i]])) := Ex.new (I.hok.fresh (Nat.le_refl _))
      have hq1 := exT _ _ hq
      obtain ⟨zz, its3, n3, rv3, hl3, e3'⟩ := I1.lstM hq1
      have hacc : accV.length = i := by
        rw [rp.length, List.length_take]; omega
      refine wpAny_bind (wpAny_updateSeq e3' rfl (wpAny_pure ⟨plainId_quiet PySem.F.plain_extend_loop _, ?_⟩) (by rw [List.size_toArray]; omega) (by show (its3.toArray.push _).size ≤ sizeLine + 1; rw [Array.size_push, List.size_toArray]; omega))
      have I2 := I1.lset (its' := its3 ++ [.ref s.heap.objs.size]) (ys := accV ++ [.ref s.heap.objs.size]) (f := (·.push (.ref s.heap.objs.size))) (t' := tk) hq1 e3' (by simp) (rv3.append (show Vals [V.ref s.heap.objs.size] [Value.ref s.heap.objs.size] from .cons rfl .nil)) (by rw [List.length_append, List.length_singleton]; omega)
      refine ih (i + 1) (accV ++ [.ref s.heap.objs.size]) _ _ (by omega) hlt I2 ((ex.trans exT).upd2 hq0) upd_same ?_ ?_ fun c hcm => ?_
      · have st1 : Stb (upd H s.heap.objs.size (.tup [xs[i], ys[i]])) (upd (upd H s.heap.objs.size (.tup [xs[i], ys[i]])) q (.lst (accV ++ [.ref s.heap.objs.size]))) := stb_upd hq1
        have st2 := exT.stb.trans st1
        rw [List.take_add_one, hz1]
        refine Reps.append (Reps.stb st2 _ rp) (.cons ?_ .nil)
        have hTn : (upd (upd H s.heap.objs.size (.tup [xs[i], ys[i]])) q (.lst (accV ++ [.ref s.heap.objs.size]))) s.heap.objs.size = some (.tup [xs[i], ys[i]]) := by
          rw [upd_ne (ne_of_none hq (I.hok.fresh (Nat.le_refl _))).symm, upd_same]
        exact .tup (SqT.of hTn) (.cons (Rep.stb (ex.stb.trans st2) _ rd1) (.cons (Rep.stb (ex.stb.trans st2) _ rd2) .nil))
      · refine ZSt.at (q := q) (h := h') (i := i + 1) ⟨?_, hkp TI _ (by
            simp only [List.mem_cons, List.not_mem_nil, or_false, not_or]
            exact ⟨S.TIz, S.TITO, S.TIi1, S.TIi2⟩) hTI, hTO', h1', h2'⟩ (fun o e => by
          have : h'.get? q = some _ := e3'
          rw [this] at e; cases e
          exact fun z => absurd (Value.type.inj z) (by decide)) hqc fun b o hb e => (Heap.get?_update_other _ _ (Ne.symm hb)).trans e
        have hTc : s.heap.objs.size ∉ [z, TI, TO, i1, i2] := fun hm => Nat.lt_irrefl _ (hcell _ hm)
        rcases hz' with e | e | e
        · exact .inr ⟨s.heap.objs.size, false, _, e, hT, hTc, rfl⟩
        · exact .inr ⟨s.heap.objs.size, true, _, e, hT, hTc, rfl⟩
        · exact .inr e
      · exact FpOk.upd (FpOk.upd (fp c hcm) (Nat.ne_of_lt (hcell c hcm))) (fun e => hqc (e ▸ hcm))
    rcases hz with hz | ⟨T, f, oT, hz, hT, hTc, hTt⟩
    · refine wpAny_bind (wpAny_pyNext_zipD2_item S (drB b1 hh i1 a1 n1 its.toArray) (drB b2 hh i2 a2 n2 its2.toArray) hz hTI hTO ⟨h1, p⟩ ⟨h2, p2⟩ (by simp; omega) (by simp; omega) fun u u2 h' tk hu hu2 z' TO' st1' st2' hT hsz hk => ?_)
      exact go u u2 h' tk hu hu2 (.inl z') ⟨_, _, TO'⟩ st1'.1 st2'.1 hT hsz fun c o hb e => hk c o (fun q' => hb (by simp [q'])) (fun q' => hb (by simp [q'])) (fun q' => hb (by simp [q'])) (fun q' => hb (by simp [q'])) e
    · refine wpAny_bind (pyNext_zipH_item S (drB b1 hh i1 a1 n1 its.toArray) (drB b2 hh i2 a2 n2 its2.toArray) hz hT hTI ⟨h1, p⟩ ⟨h2, p2⟩ (by simp; omega) (by simp; omega) fun u u2 h' tk hu hu2 z' st1' st2' hT' hsz hk => ?_)
      refine go u u2 h' tk hu hu2 (.inr (.inr ⟨T, true, oT, z', hk T oT (fun e => hTc (by simp [e])) (fun e => hTc (by simp [e])) (fun e => hTc (by simp [e])) hT, hTc, hTt⟩)) ⟨x0, y0, hk TO _ S.TOz S.Ti1 S.Ti2 hTO⟩ st1'.1 st2'.1 hT' hsz fun c o hb e => hk c o (fun q' => hb (by simp [q'])) (fun q' => hb (by simp [q'])) (fun q' => hb (by simp [q'])) e
/-- list(z) of a zip just made -/
theorem zl_call {Q : VK} {s : Shared} (D : Ap z TI TO i1 i2 N) (g1 : a1 < N) (g2 : a2 < N) (hh : X.A.in1.in1.in1.in1.handled = none) (I : Inv X pins σ H0 s) (s1 : SqB b1 X.K H0 a1 xs) (r1 : Reps X.K H0 xs l) (s2 : SqB b2 X.K H0 a2 ys) (r2 : Reps X.K H0 ys m)
    (st : ZSt s.heap z TI TO i1 i2 b1 b2 a1 a2 0) (fp : ∀ c ∈ [z, TI, TO, i1, i2], FpOk X pins H0 c)
    (q : ∀ p H accV, H0 p = none → Ex H0 H → H p = some (.lst accV) → Reps X.K H accV (zipD l m) → Q (.ref p) H) : wpAny (model X.prog X.w) X.A (call (.type "list") [.ref z]) (EP X pins σ Q) X.xe s := by
  refine callType_codes (Q₁ := fun obj s₁ => obj = .ref s.heap.objs.size ∧ s₁ = { s with heap := s.heap.push { cls := .type "list", data := .seq #[] } }) PySem.F.called_list (PySem.F.typeCall_list_1 _) PySem.F.entry_list_init
    (code_list_new _ ⟨rfl, rfl⟩) fun obj s₁ h₁ => ?_
  obtain ⟨rfl, rfl⟩ := h₁
  have hS : (s.heap.push { cls := .type "list", data := .seq #[] }).get? s.heap.objs.size = some { cls := .type "list", data := .seq #[] } := Heap.get?_push_size _ rfl
  refine ⟨⟨_, hS, rfl⟩, PySem.F.args_list_init_2 _ _, ?_⟩
  have fr : H0 s.heap.objs.size = none := I.hok.fresh (Nat.le_refl _)
  have I1 : Inv X pins σ (upd H0 s.heap.objs.size (.lst [])) { s with heap := s.heap.push { cls := .type "list", data := .seq #[] } } := I.lnew (its := []) (t' := s.toks) .nil (Nat.zero_le _)
  obtain ⟨hz, hTI, ⟨x0, y0, hTO⟩, h1, h2⟩ := id st
  have hcell : ∀ c ∈ [z, TI, TO, i1, i2], c < s.heap.objs.size := fun c hcm => by
    have e' : c = z ∨ c = TI ∨ c = TO ∨ c = i1 ∨ c = i2 := by simpa using hcm
    rcases e' with q | q | q | q | q
    · rw [q]; obtain ⟨o, e, _⟩ := st.ty; exact Heap.lt_size e
    · rw [q]; exact Heap.lt_size hTI
    · rw [q]; exact Heap.lt_size hTO
    · rw [q]; obtain ⟨_, e1, _⟩ := itB_obj h1; exact Heap.lt_size e1
    · rw [q]; obtain ⟨_, e2, _⟩ := itB_obj h2; exact Heap.lt_size e2
  have hqc : s.heap.objs.size ∉ [z, TI, TO, i1, i2] := fun hm => Nat.lt_irrefl _ (hcell _ hm)
  have st1 : ZSt (s.heap.push { cls := .type "list", data := .seq #[] }) z TI TO i1 i2 b1 b2 a1 a2 0 := st.at (q := s.heap.objs.size) (fun o e => absurd (Heap.lt_size e) (Nat.lt_irrefl _)) hqc fun b o _ e => Heap.get?_push_of_some _ e
  show wpAny _ _ (do let old ← Builtin.List.listItems (.ref s.heap.objs.size); Builtin.List.listUpdate (.ref s.heap.objs.size) (fun _ => #[]); letGo old.toList.reverse; Builtin.List.listExtendWith (.ref s.heap.objs.size) (.ref z) .none) _ _ _
  refine wpAny_bind ?_
  unfold Builtin.List.listItems
  refine wpAny_bind (wpAny_seqItems hS rfl (wpAny_pure ?_))
  show wpAny _ _ (updateSeq s.heap.objs.size (fun _ => #[]) >>= fun _ => letGo (#[] : Array Value).toList.reverse >>= fun _ => Builtin.List.listExtendWith (.ref s.heap.objs.size) (.ref z) .none) _ _ _
  refine wpAny_bind (wpAny_updateSeq hS rfl ?_)
  have I2 := I1.lset (f := fun _ => #[]) (its := []) (its' := []) (ys := []) (t' := s.toks) upd_same hS rfl .nil (Nat.zero_le _)
  rw [upd_upd] at I2
  have nt : ∀ {h : Heap}, (∃ n, h.get? s.heap.objs.size = some { cls := .type "list", data := .seq #[] n }) → ∀ o, h.get? s.heap.objs.size = some o → o.cls ≠ .type "tuple" := fun ⟨n, e⟩ o e2 => by
    rw [e] at e2; cases e2; exact fun z => absurd (Value.type.inj z) (by decide)
  have st2 : ZSt ((s.heap.push { cls := .type "list", data := .seq #[] }).update s.heap.objs.size (Obj.mapSeq fun _ => #[])) z TI TO i1 i2 b1 b2 a1 a2 0 := st1.at (q := s.heap.objs.size) (nt ⟨0, hS⟩) hqc fun b o hb e => (Heap.get?_update_other _ _ (Ne.symm hb)).trans e
  refine wpAny_bind (wpAny_letGo ?_)
  have hne : s.heap.objs.size ≠ z := fun e => hqc (by rw [e]; simp)
  obtain ⟨oz, hoz, hzc⟩ := st2.ty
  have tz : Shared.TypeIs { s with heap := (s.heap.push { cls := .type "list", data := .seq #[] }).update s.heap.objs.size (Obj.mapSeq fun _ => #[]) } (.ref z) "zip" := ⟨oz, hoz, hzc⟩
  unfold Builtin.List.listExtendWith
  refine wpAny_bind (wpAny_typeOf tz ?_)
  have h1 : Builtin.List.listSameRef (.ref s.heap.objs.size) (.ref z) = false := by simp [Builtin.List.listSameRef, hne]
  have h2 : (Value.type "zip" == Value.type "list") = false := by decide
  have h3 : (Value.type "zip" == Value.type "tuple") = false := by decide
  simp only [h1, h2, h3, Bool.or_false, Bool.false_eq_true, if_false]
  have self : ∀ {Q' : Value → Shared → Prop} {E : Value → Shared → Prop} {A' : Around} {s' : Shared}, ZSt s'.heap z TI TO i1 i2 b1 b2 a1 a2 0 → Q' (.ref z) s' → wpAny (model X.prog X.w) A' (pyIter (.ref z)) Q' E s' := fun st' h => by
    rcases st'.1 with e | ⟨T, f, oT, e, _⟩
    · exact wpAny_pyIter_zip e h
    · have hT : Shared.TypeIs _ (.ref z) "zip" := ⟨_, e, rfl⟩
      refine wpAny_pyIter_slot hT PySem.F.slot_zip_iter (wpAny_call_entry PySem.F.slot_zip_iter hT PySem.F.entry_zip_iter ?_ (PySem.F.args_zip_iter_1 _))
      exact wpAny_pure ⟨_, rfl, "zip", _, hT, PySem.F.slot_zip_next.lookup, h⟩
  refine wpAny_bind (self st2 ?_)
  refine wpAny_bind (wpAny_holding ?_)
  unfold Builtin.List.listLengthHint
  refine wpAny_bind (wpAny_specialOf tz zip_no_len ?_)
  show wpAny _ _ (specialOf (Value.ref z) (Str.ofString "__length_hint__") >>= _) _ _ _
  refine wpAny_bind (wpAny_specialOf tz zip_no_hint ?_)
  refine wpAny_pure ?_
  show wpAny _ _ (rule "list.extend.makes-room" >>= fun _ => Builtin.List.listTouch (.ref s.heap.objs.size) >>= fun _ =>
    again (.builtin "list.extend.loop" ⟨[.ref s.heap.objs.size, .ref z, .none], []⟩)) _ _ _
  refine wpAny_bind (wpAny_rule ?_)
  refine wpAny_bind ?_
  obtain ⟨zz, its, k, r3, hl3, e3⟩ := I2.lstM upd_same
  cases r3
  show wpAny _ _ (updateSeq s.heap.objs.size (·.push .none) >>= fun _ => updateSeq s.heap.objs.size (·.pop)) _ _ _
  refine wpAny_bind (wpAny_updateSeq e3 rfl ?_)
  have I3 := I2.lset (f := (·.push Value.none)) (its' := [Value.none]) (ys := [.non]) (t' := s.toks) upd_same e3 (by simp) (.cons rfl .nil) (by rw [List.length_singleton, sizeLine_eq]; decide)
  have st3 := st2.at (q := s.heap.objs.size) (h' := Heap.update _ s.heap.objs.size (Obj.mapSeq (·.push Value.none))) (nt ⟨k, e3⟩) hqc fun b o hb e => (Heap.get?_update_other _ _ (Ne.symm hb)).trans e
  obtain ⟨z4, its4, k4, r4, hl4, e4⟩ := I3.lstM upd_same
  obtain ⟨u4, rfl, ru4⟩ := r4.one
  refine wpAny_updateSeq e4 rfl ?_ (by show 1 ≤ sizeLine; rw [sizeLine_eq]; decide) (by show 0 ≤ sizeLine + 1; exact Nat.zero_le _)
  have I4 := I3.lset (f := (·.pop)) (its := [u4]) (its' := []) (ys := []) (t' := s.toks) upd_same e4 (by rfl) .nil (Nat.zero_le _)
  have st4 := st3.at (q := s.heap.objs.size) (h' := Heap.update _ s.heap.objs.size (Obj.mapSeq (·.pop))) (fun o e => by
    have e' := e4.symm.trans e
    cases e'; exact fun z => absurd (Value.type.inj z) (by decide)) hqc fun b o hb e => (Heap.get?_update_other _ _ (Ne.symm hb)).trans e
  rw [upd_upd, upd_upd] at I4
  refine wpAny_pure ⟨plainId_quiet PySem.F.plain_extend_loop _, ?_⟩
  refine zl_loop (A1 := X.A.in1) (Rs := wants (fun r s₂ => r = .none ∧ EP X pins σ Q (.ref s.heap.objs.size) s₂) X.xe) D g1 g2 hh fr s1 r1 s2 r2 (fun H s' accV I' ex hq' rp => ?_) _ 0 [] _ _ rfl (Nat.zero_le _) I4 (Ex.new fr) upd_same .nil st4 fun c hcm => FpOk.upd (fp c hcm) (fun e => hqc (e ▸ hcm))
  exact ⟨rfl, .ref s.heap.objs.size, H, I', rfl, q _ H accV fr ex hq' rp⟩
end
def mZip (f : LF) : MF := fun ρ S => (f ρ S).bind fun ws S1 => match ws with
  | [.d x, .d y] => match kindB x with
    | some (_, l) => match kindB y with
      | some (_, m) => .ok (zipD l m) S1
      | none => .bad
    | none => .bad
  | _ => .bad
theorem dm_listzip {X : Cx} {Wx : WX} {e e2 : Expr} {l : LF} {p pos p2 pos2 : Pos} (hc : X.calm = true) (hgl : Gl X "list") (hml : X.mg "list" = none) (hg : Gl X "zip") (hm : X.mg "zip" = none) (ha : DA X Wx [e, e2] l) (hs : starEach [e, e2] X.env = (false, eval e X.env) :: starEach [e2] X.env := by rfl) (hpl : (backTo pos (starEach [e2] X.env)).any (·.1) = false := by rfl)
    (he : starEach [.Call (.Name "zip" p) [e, e2] [] pos] X.env = (false, eval (.Call (.Name "zip" p) [e, e2] [] pos) X.env) :: starEach [] X.env := by rfl) :
    DM X Wx (.Call (.Name "list" p2) [.Call (.Name "zip" p) [e, e2] [] pos] [] pos2) (mZip l) := by
  refine ⟨fun pins s σ H Q I ⟨ad, ρ, S, sg, rs, q⟩ => ?_⟩
  refine wpAny_Call_Name_kw (ld_blt I hgl hml PyProof.Rows.boot_list ?_)
  refine PyProof.Rows.callWith_type1 ?_ he rfl
  rw [he]
  show wpAny _ _ (spliced ((false, eval (.Call (.Name "zip" p) [e, e2] [] pos) X.env) :: backTo pos2 (starEach [] X.env))) _ _ s
  refine Calls.spliced_cons ?_
  refine Call_ (ld_blt I hg hm PyProof.Rows.boot_zip (PyProof.Rows.callWith_type1 (thn (ha.run pos pins s σ H (fun vs H1 => ∃ x y dx dy b1 b2 l1 l2, vs = [x, y] ∧ Rep X.K H1 x dx ∧ Rep X.K H1 y dy ∧ kindB dx = some (b1, l1) ∧ kindB dy = some (b2, l2) ∧
    ∀ p H' accV, H1 p = none → Ex H1 H' → H' p = some (.lst accV) → Reps X.K H' accV (zipD l1 l2) → Q (.ref p) H') I ⟨ad, ρ, S, sg, rs, ?_⟩) fun us s1 ⟨vs, H1, I1, r1, q1⟩ => ?_) hs hpl))
  · revert q
    unfold mZip
    cases l ρ S with
    | bad => exact fun z => z
    | exc x S' => exact fun z => z
    | ok ws S1 =>
      intro q vs H1 ad1 fr1 r1 rs1
      simp only [Rs.bind] at q
      split at q
      · rename_i x y
        cases hx : kindB x with
        | none => rw [hx] at q; exact q.elim
        | some bl =>
          rw [hx] at q
          dsimp only at q
          cases hy : kindB y with
          | none => rw [hy] at q; exact q.elim
          | some bm =>
            rw [hy] at q
            cases r1 with
            | cons ra rr =>
              cases rr with
              | cons rb rr =>
                cases rr
                refine ⟨_, _, x, y, bl.1, bm.1, bl.2, bm.2, rfl, ra, rb, hx, hy, fun p H' accV hp ex hq rp => ?_⟩
                obtain ⟨h0, hn⟩ := fr1.back rs1 hp
                exact q _ H' ad1 (fr1.trans ex.fr) ⟨p, accV, rfl, h0, hn, hq, rp⟩ (rs1.ex ex)
      · exact q.elim
  · obtain ⟨x, y, dx, dy, b1, b2, l1, l2, rfl, rx, ry, kx, ky, q⟩ := q1
    obtain ⟨a1, xs, rfl, sx, rpx⟩ := kind_rep rx kx
    obtain ⟨a2, ys, rfl, sy, rpy⟩ := kind_rep ry ky
    cases r1 with
    | cons r rr =>
      cases rr with
      | cons r' rr =>
        cases rr
        cases r
        cases r'
        obtain ⟨its, rv, p1, z1, g1⟩ := seqB I1 sx
        obtain ⟨its2, rv2, p2, z2, g2⟩ := seqB I1 sy
        refine zip_begins2 (beB b1 a1 its.toArray) (beB b2 a2 its2.toArray) p1 p2 fun h' hz hTI hTO h1 h2 hsz hk => ?_
        have I2 : Inv X pins σ H1 { s1 with heap := h' } := I1.kept (t' := s1.toks) hk
        refine Calls.spliced_nil ?_
        refine zl_call (ap_new s1.heap.objs.size) g1 g2 (show _ = none from I.ok.hd hc) I2 sx rpx sy rpy ⟨.inl hz, hTI, ⟨_, _, hTO⟩, itB_new h1, itB_new h2⟩ (fun c hcm => ?_) q
        have hle := (ap_new s1.heap.objs.size).ge c hcm
        exact I1.fpOk hle (I1.hok.fresh hle)
end DL

set_option Elab.async false
set_option linter.all false
set_option maxRecDepth 100000
set_option maxHeartbeats 4000000
/-! D10: slices, isinstance, op=, stores into lists, append, extend, list(x), n * list, the empty dict. -/
namespace DL
open PySem PySem.Spec PyProof.Rows L2

/-! ### slices -/
def cutD (l : List PyData) (lo hi : Option Int) : List PyData := (l.drop (HT.sIx l.length 0 lo)).take (HT.sIx l.length l.length hi - HT.sIx l.length 0 lo)
def slD : PyData → Option Int → Option Int → Option PyData
  | .list l, lo, hi => some (.list (cutD l lo hi))
  | .tuple l, lo, hi => some (.tuple (cutD l lo hi))
  | .str z, lo, hi => some (.str (cutS z lo hi))
  | _, _, _ => none
theorem SlR.freeze {X : Cx} {r : V → Option Int → Option Int → Hp → VK → Prop} (h : SlR X r) : SlR X (fun x lo hi H Q => r x lo hi H fun v H' => ∃ a vs, v = .ref a ∧ H' a = some (.lst vs) ∧ ∀ o, Q v (upd H' a (.frz o (.lst vs)))) :=
  fun pins s σ H x v vl vu lo hi sl Q I rx hs pl pu q => by
    obtain ⟨T, id, h1, h2, h3⟩ := h pins s σ H x v vl vu lo hi sl _ I rx hs pl pu q
    exact ⟨T, id, h1, h2, thn h3 fun _ _ z => EP.freeze z⟩
def rSlD (K : PySem.W.Frag) : V → Option Int → Option Int → Hp → VK → Prop := fun x lo hi H Q => ∃ dx d, RepV K H x dx ∧ slD dx lo hi = some d ∧ ∀ v H', Ex H H' → Rep K H' v d → Q v H'
theorem cut_rep {K : PySem.W.Frag} {H : Hp} {vs : List V} {ds : List PyData} {lo hi : Option Int} (r : Reps K H vs ds) : Reps K H (cutV vs lo hi) (cutD ds lo hi) := by
  unfold cutV cutD
  rw [r.length]
  exact Reps.take _ (Reps.drop _ r)
theorem strOk_of {z : Str} {l : List Nat} (h : PyData.strOk z = true) (m : ∀ c ∈ l, c ∈ z.cps.toList) : PyData.strOk ⟨l.toArray⟩ = true := by
  unfold PyData.strOk at *
  rw [← Array.all_toList, List.all_eq_true] at *
  exact fun c hc => h c (m c (by simpa using hc))
theorem cutS_G {z : Str} {lo hi : Option Int} (h : strG z = true) : strG (cutS z lo hi) = true :=
  strG_mk (Nat.le_trans (cutS_length z lo hi) (strG_len h)) (strOk_of (strG_ok h) fun c hc => List.mem_of_mem_drop (List.mem_of_mem_take hc))
theorem sl_D {X : Cx} : SlR X (rSlD X.K) := by
  intro pins s σ H x v vl vu lo hi sl Q I rx hs pl pu ⟨dx, d, h, e, q⟩
  unfold slD at e
  split at e
  · cases e
    obtain ⟨a, vs, rfl, t, r⟩ := h.lst
    refine SlR.freeze sl_list pins s σ H _ v vl vu lo hi sl Q I rx hs pl pu ⟨a, vs, rfl, t, fun p hp => ⟨p, _, rfl, upd_same, fun o => ?_⟩⟩
    have ex : Ex H (upd (upd H p (.lst (cutV vs lo hi))) p (.frz o (.lst (cutV vs lo hi)))) := (Ex.new hp).upd2 hp
    exact q _ _ ex (.lst (.inl ⟨o, upd_same⟩) (Reps.stb ex.stb _ (cut_rep r)))
  · cases e
    obtain ⟨a, vs, rfl, t, r⟩ := h.tup
    refine sl_tupA pins s σ H _ v vl vu lo hi sl Q I rx hs pl pu ⟨a, vs, rfl, t, fun hw => ?_, fun _ p hp => ?_⟩
    · refine q _ H (Ex.refl H) (.tup t ?_)
      have := cut_rep (lo := lo) (hi := hi) r
      have e2 : cutV vs lo hi = vs := by
        unfold cutV
        rw [hw.1, hw.2]
        simp
      rw [e2] at this
      exact this
    · have ex : Ex H (upd H p (.tup (cutV vs lo hi))) := Ex.new hp
      exact q _ _ ex (.tup (SqT.of upd_same) (Reps.stb ex.stb _ (cut_rep r)))
  · cases e
    obtain ⟨rfl, z⟩ := h.str
    exact sl_str pins s σ H _ v vl vu lo hi sl Q I rx hs pl pu ⟨_, rfl, strG_len z, q _ H (Ex.refl H) (.str _ (cutS_G z))⟩
  · cases e
abbrev OF := Rho → Sto → Rs (Option Int)
def tDO (K : PySem.W.Frag) (mg : Str → Option Value) (Wx : WX) (f : OF) : TO := fun σ H Q => ∃ ad ρ S, Sig K ad H σ ρ ∧ RS K ad H S ∧ post K mg Wx σ ad H (fun _ _ v b => v = b) (f ρ S) Q
abbrev DO (X : Cx) (Wx : WX) (e : Option Expr) (f : OF) : Prop := PO X e (tDO X.K X.mg Wx f)
theorem PO.conv {X : Cx} {e : Option Expr} {t t' : TO} (h : PO X e t) (c : ∀ σ H Q, t' σ H Q → t σ H Q) : PO X e t' := ⟨fun pins s σ H Q I q => h.run pins s σ H Q I (c _ _ _ q)⟩
def oNon : OF := fun _ S => .ok none S
def oSom (f : EF) : OF := fun ρ S => (f ρ S).bind fun w S1 => match w with
  | .d (.int i) => .ok (some i) S1
  | _ => .bad
def eSl (f : EF) (lo hi : OF) : EF := fun ρ S => (f ρ S).bind fun w S1 => (lo ρ S1).bind fun l S2 => (hi ρ S2).bind fun h S3 => match view S3 w with
  | some d => match slD d l h with
    | some r => .ok (.d r) S3
    | none => .bad
  | none => .bad
section
variable {X : Cx} {Wx : WX} {a b c e : Expr} {f g h : EF} {pos p2 : Pos}
theorem do_non : DO X Wx none oNon := PO.conv po_none fun σ H Q ⟨ad, ρ, S, sg, rs, q⟩ => q _ H ad (Fr.refl _ _) rfl rs
theorem do_som (ha : DE X Wx a f) : DO X Wx (some a) (oSom f) := PO.conv (po_some ha) fun σ H Q ⟨ad, ρ, S, sg, rs, q⟩ => by
  refine ⟨ad, ρ, S, sg, rs, post_mono (post_bind q) ?_⟩
  rintro x H1 ⟨ad1, w, S1, fr1, r1, rs1, q1⟩
  split at q1
  · cases r1
    exact ⟨_, rfl, q1 _ H1 ad1 (Fr.refl _ _) rfl rs1⟩
  · exact q1.elim
theorem de_sl {lo hi : Option Expr} {fl fh : OF} (ha : DE X Wx a f) (hl : DO X Wx lo fl) (hh : DO X Wx hi fh) : DE X Wx (.Subscript a (.Slice lo hi none p2) pos) (eSl f fl fh) := PE.conv (pe_slice sl_D ha hl hh) fun σ H Q ⟨ad, ρ, S, sg, rs, q⟩ => by
  refine ⟨ad, ρ, S, sg, rs, post_mono (post_bind q) ?_⟩
  rintro x H1 ⟨ad1, w, S1, fr1, r1, rs1, q1⟩
  refine ⟨ad1, ρ, S1, sg.fr fr1, rs1, post_mono (post_bind (Rel1 := fun _ _ v b => v = b) q1) ?_⟩
  rintro l H2 ⟨ad2, l2, S2, fr2, e2, rs2, q2⟩
  subst e2
  refine ⟨ad2, ρ, S2, (sg.fr fr1).fr fr2, rs2, post_mono (post_bind (Rel1 := fun _ _ v b => v = b) q2) ?_⟩
  rintro u H3 ⟨ad3, u2, S3, fr3, e3, rs3, q3⟩
  subst e3
  cases e1 : view S3 w with
  | none => rw [e1] at q3; exact q3.elim
  | some d =>
    rw [e1] at q3
    dsimp only at q3
    cases e4 : slD d l u with
    | none => rw [e4] at q3; exact q3.elim
    | some r =>
      rw [e4] at q3
      exact ⟨d, r, view_rep ((r1.fr fr2).fr fr3) rs3 e1, e4, fun v H' ex rv => q3 v H' ad3 ex.fr rv (rs3.ex ex)⟩

/-! ### isinstance -/
def tyD : PyData → String
  | .none => "NoneType"
  | .bool _ => "bool"
  | .int _ => "int"
  | .str _ => "str"
  | .list _ => "list"
  | .tuple _ => "tuple"
  | .dict _ => "dict"
def subT (t c : String) : Bool := t == c || (t == "bool" && c == "int")
def isTys : List String := ["bool", "int", "str", "list", "tuple", "dict"]
theorem kit_pure (K : PySem.W.Frag) (t c : String) : PySem.W.kitOne K (.type t) (.type c) = (if (Value.type t == Value.type c) = true then some true else if PySem.W.kitMeta c = true then (fastBuiltinMro t).map (·.contains (.type c)) else none) := rfl
theorem kit_ty (K : PySem.W.Frag) (d : PyData) {c : String} (hc : c ∈ isTys) : PySem.W.kitOne K (.type (tyD d)) (.type c) = some (subT (tyD d) c) := by
  have : ∀ t ∈ ["NoneType", "bool", "int", "str", "list", "tuple", "dict"], ∀ c ∈ isTys, PySem.W.kitOne K (.type t) (.type c) = some (subT t c) := by
    intro t ht c hc
    simp only [isTys, List.mem_cons, List.not_mem_nil, or_false] at ht hc
    rcases ht with rfl | rfl | rfl | rfl | rfl | rfl | rfl <;> rcases hc with rfl | rfl | rfl | rfl | rfl | rfl <;> (rw [kit_pure]; decide +kernel)
  exact this _ (by cases d <;> simp [tyD]) _ hc
theorem RepV.tyX {K : PySem.W.Frag} {H : Hp} {v : V} {d : PyData} (h : RepV K H v d) : TyX K H v (.type (tyD d)) := by
  rcases h with h | ⟨a, vs, l, e1, e2, e3, e4⟩
  · cases h with
    | non => exact .base .non
    | bl b => exact .base (.bl b)
    | int b => exact .base (.int b)
    | str b => exact .base (.str b)
    | lst t r =>
      rcases t with ⟨o, t⟩ | ⟨o, its, n, t1, t2, _⟩
      · exact .base (.frz t)
      · exact .kList t1 t2
    | tup t r =>
      rcases t with (t | ⟨o, t⟩) | ⟨o, its, n, t1, t2, _⟩
      · exact .base (.tup t)
      · exact .fTuple t
      · exact .kTuple t1 t2
    | dic t r => exact .fDict t
  · subst e1 e2
    exact .base (.lst e3)
def isiW (cs : List String) (w : Wv) (S : Sto) : Rs Wv := match view S w with
  | some d => .ok (.d (.bool (cs.any fun c => subT (tyD d) c))) S
  | none => .bad
def eIsi (cs : List String) (f : EF) : EF := fun ρ S => (f ρ S).bind (isiW cs)
theorem pe_ty {T : String} {x : Str} {p : Pos} (hg : Gl X x) (hm : X.mg x = none) (hv : bootBuiltins x = some (.type T)) (hn : x ≠ "__name__" := by decide) (hd : (x == ("__debug__" : Str)) = false := by decide) : PE X (.Name x p) (tC (.ty T)) := pe_bltn hg hm hv rfl hn hd
theorem boot_isi : bootBuiltins "isinstance" = some (.builtin "isinstance") := by decide +kernel
theorem de_isi {T : String} {x : Str} {p p1 : Pos} (hgi : Gl X "isinstance") (hmi : X.mg "isinstance" = none) (ha : DE X Wx a f) (hT : T ∈ isTys) (ht : PE X (.Name x p1) (tC (.ty T)))
    (h0 : starEach [a, .Name x p1] X.env = (false, eval a X.env) :: starEach [.Name x p1] X.env := by rfl) (h1 : starEach [.Name x p1] X.env = (false, eval (.Name x p1) X.env) :: starEach [] X.env := by rfl)
    (hpl : (backTo pos (starEach [.Name x p1] X.env)).any (·.1) = false := by rfl) : DE X Wx (.Call (.Name "isinstance" p) [a, .Name x p1] [] pos) (eIsi [T] f) :=
  PE.conv (pe_callB call_isi hgi hmi boot_isi (pa_cons ha (pa_cons ht pa_nil h1) h0) (by decide) (by decide) h0 hpl) fun σ H Q ⟨ad, ρ, S, sg, rs, q⟩ => by
    refine ⟨ad, ρ, S, sg, rs, post_mono (post_bind q) ?_⟩
    rintro v H1 ⟨ad1, w, S1, fr1, r1, rs1, q1⟩
    unfold isiW at q1
    cases e : view S1 w with
    | none => rw [e] at q1; exact q1.elim
    | some d =>
      rw [e] at q1
      refine ⟨v, .ty T, _, _, _, rfl, .ty T, (view_rep r1 rs1 e).tyX, kit_ty X.K d hT, ?_⟩
      have q1 := q1 (.bl _) H1 ad1 (Fr.refl _ _) (.bl _) rs1
      rw [List.any_cons, List.any_nil, Bool.or_false] at q1
      exact q1
theorem de_isi2 {T T' : String} {x x' : Str} {p p1 p2 tp : Pos} {kt : Nat} (hgi : Gl X "isinstance") (hmi : X.mg "isinstance" = none) (ha : DE X Wx a f) (hT : T ∈ isTys) (hT' : T' ∈ isTys) (ht : PE X (.Name x p1) (tC (.ty T))) (ht' : PE X (.Name x' p2) (tC (.ty T')))
    (h0 : starEach [a, .Tuple [.Name x p1, .Name x' p2] kt tp] X.env = (false, eval a X.env) :: starEach [.Tuple [.Name x p1, .Name x' p2] kt tp] X.env := by rfl)
    (h1 : starEach [.Tuple [.Name x p1, .Name x' p2] kt tp] X.env = (false, eval (.Tuple [.Name x p1, .Name x' p2] kt tp) X.env) :: starEach [] X.env := by rfl)
    (h2 : starEach [.Name x p1, .Name x' p2] X.env = (false, eval (.Name x p1) X.env) :: starEach [.Name x' p2] X.env := by rfl) (h3 : starEach [.Name x' p2] X.env = (false, eval (.Name x' p2) X.env) :: starEach [] X.env := by rfl)
    (hpl : (backTo pos (starEach [.Tuple [.Name x p1, .Name x' p2] kt tp] X.env)).any (·.1) = false := by rfl) : DE X Wx (.Call (.Name "isinstance" p) [a, .Tuple [.Name x p1, .Name x' p2] kt tp] [] pos) (eIsi [T, T'] f) :=
  PE.conv (pe_callB call_isiT hgi hmi boot_isi (pa_cons ha (pa_cons (pe_tup (pa_cons ht (pa_cons ht' pa_nil h3) h2)) pa_nil h1) h0) (by decide) (by decide) h0 hpl) fun σ H Q ⟨ad, ρ, S, sg, rs, q⟩ => by
    refine ⟨ad, ρ, S, sg, rs, post_mono (post_bind q) ?_⟩
    rintro v H1 ⟨ad1, w, S1, fr1, r1, rs1, q1⟩
    unfold isiW at q1
    cases e : view S1 w with
    | none => rw [e] at q1; exact q1.elim
    | some d =>
      rw [e] at q1
      refine ⟨by show 2 ≤ sizeLine; decide, fun tp htp => ?_⟩
      have ex : Ex H1 (upd H1 tp (.tup [.ty T, .ty T'])) := Ex.new htp
      refine ⟨v, tp, [.ty T, .ty T'], _, [.type T, .type T'], ([T, T'].any fun c => subT (tyD d) c), rfl, upd_same, .cons (.ty T) (.cons (.ty T') .nil), ((view_rep r1 rs1 e).ex ex).tyX, ?_, q1 _ _ ad1 ex.fr (.bl _) (rs1.ex ex)⟩
      unfold PySem.W.kitAny
      rw [kit_ty X.K d hT]
      cases h5 : subT (tyD d) T with
      | true => simp [h5]
      | false =>
        unfold PySem.W.kitAny
        dsimp only
        rw [kit_ty X.K d hT']
        cases h6 : subT (tyD d) T' <;> simp [PySem.W.kitAny, h5, h6]

/-! ### name op= e -/
def OpI (X : Cx) (op : Operator) (g : PyData → PyData → Option PyData) : Prop := PIp X op (rP2 X.K g)
def iaddD : PyData → PyData → Option PyData
  | .int i, .int j => some (.int (i + j))
  | _, _ => none
theorem ipd_iadd : OpI X .Add iaddD := by
  intro pins s σ H x y v u Q I rx ry ⟨dx, dy, d, h1, h2, e, q⟩
  unfold iaddD at e
  split at e
  · cases e
    cases h1.int; cases h2.int
    exact ip_add pins s σ H _ _ v u Q I rx ry ⟨_, _, rfl, rfl, q _ H (Ex.refl H) (.int _)⟩
  · cases e
theorem ipd_sub : OpI X .Sub subD := by
  intro pins s σ H x y v u Q I rx ry ⟨dx, dy, d, h1, h2, e, q⟩
  unfold subD at e
  split at e
  · cases e
    cases h1.int; cases h2.int
    exact ip_sub pins s σ H _ _ v u Q I rx ry ⟨_, _, rfl, rfl, q _ H (Ex.refl H) (.int _)⟩
  · cases e
def sAug (i : Nat) (g : PyData → PyData → Option PyData) (f : EF) : SF := fun ρ S => match ρ[i]? with
  | some (some w) => bindS ((f ρ S).bind fun y S1 => op2 g w y S1) ρ fun z S2 => .fl (.nx (ρ.set i (some z))) S2
  | _ => .bad
theorem ds_aug {op : Operator} {g0 : PyData → PyData → Option PyData} {i : Nat} {x : Str} {pos' : Pos} (hN : X.N.Nodup) (hi : X.N[i]? = some x) (hx : Loc X.env.scope x) (he : DE X Wx e f) (ho : OpI X op g0) (hf : X.fn x = true ∨ X.env.scope.names.lookup x = some .local := by first | exact .inl rfl | exact .inr rfl | assumption) :
    DS X Wx (.AugAssign (.Name x pos') op e pos) (sAug i g0 f) := PS.conv (ps_aug hN hi hx he ho hf) fun D σ H ⟨ad, ρ, S, sg, rs, q⟩ => by
  unfold sAug at q
  cases e0 : ρ[i]? with
  | none => rw [e0] at q; exact q.elim
  | some o =>
    rw [e0] at q
    cases o with
    | none => exact q.elim
    | some w =>
      obtain ⟨v, e1, r⟩ := sg.sl i w e0
      refine ⟨v, e1, ad, ρ, S, sg, rs, ?_⟩
      dsimp only at q
      refine post_mono (post_bind (Rel2 := RepW X.K) (k := fun y S1 => op2 g0 w y S1) (Q := fun z H2 => D.nx (σ.set i (some z)) H2) ?_) ?_
      · refine post_mono (bindS_post (Rel := RepW X.K) sg q) ?_
        rintro z H2 ⟨ad2, w2, S2, fr2, r2, rs2, q2⟩
        exact q2 _ H2 ad2 (Fr.refl _ _) ((sg.fr fr2).set i r2) rs2
      · rintro y H1 ⟨ad1, w1, S1, fr1, r1, rs1, q1⟩
        exact op2_post q1 (r.fr fr1) r1 rs1

/-! ### a changing list is changed -/
def ownL (S : Sto) (w : Wv) : Option (Nat × List PyData) := match w with
  | .own k => match S[k]? with
    | some (.lst l) => some (k, l)
    | _ => none
  | _ => none
theorem ownL_rep {K : PySem.W.Frag} {ad : List Addr} {H : Hp} {S : Sto} {v : V} {w : Wv} {k : Nat} {l : List PyData} (r : RepW K ad H v w) (rs : RS K ad H S) (e : ownL S w = some (k, l)) :
    ∃ a vs, v = .ref a ∧ ad[k]? = some a ∧ H a = some (.lst vs) ∧ Reps K H vs l := by
  unfold ownL at e
  split at e
  · rename_i j
    split at e
    · rename_i l' hk
      cases e
      obtain ⟨a, ha, rfl⟩ := r
      obtain ⟨a', ha', vs, h1, h2⟩ := rs.ob _ _ hk
      rw [ha] at ha'; cases ha'
      exact ⟨a, vs, rfl, ha, h1, h2⟩
    · cases e
  · cases e
/-- the list at k is written anew -/
theorem put_own {K : PySem.W.Frag} {ad : List Addr} {H : Hp} {S : Sto} {a : Addr} {vs us : List V} {k : Nat} {m : List PyData} (rs : RS K ad H S) (ha : ad[k]? = some a) (e : H a = some (.lst vs)) (r : Reps K H us m) :
    Fr ad H ad (upd H a (.lst us)) ∧ RS K ad (upd H a (.lst us)) (S.set k (.lst m)) := by
  refine ⟨⟨⟨[], by simp⟩, fun b u q hb => ?_, fun _ h h' => absurd h h', stb_upd e⟩, rs_set rs ha e ⟨us, upd_same, Reps.stb (stb_upd e) _ r⟩⟩
  have : b ≠ a := fun z => hb (z ▸ List.mem_of_getElem? ha)
  rw [upd_ne this]; exact .of q
def ixSet (l : List PyData) (i : Int) (x : PyData) : Option (List PyData) := (ixN l.length i).map fun j => l.set j x
/-- o[i] = e, o a changing list -/
def sPut (fo fi fe : EF) : SF := fun ρ S => bindS ((fe ρ S).bind frzW) ρ fun x S1 => bindS (fo ρ S1) ρ fun o S2 => bindS (fi ρ S2) ρ fun i S3 => match ownL S3 o with
  | some (k, l) => match i with
    | .d (.int j) => match x with
      | .d d => match ixSet l j d with
        | some l' => .fl (.nx ρ) (S3.set k (.lst l'))
        | none => .bad
      | _ => .bad
    | _ => .bad
  | none => .bad
theorem ds_put (ho : DE X Wx a f) (hi : DE X Wx b g) (he : DE X Wx e h) (hs : swapsWithSole [.Subscript a b p2] e pos.line X.env = pure false := by rfl) (hw : swappedStores [.Subscript a b p2] e X.env = pure none := by rfl)
    (h1 : (assignEach [.Subscript a b p2] X.env).map (·.2) = [assign (.Subscript a b p2) X.env] := by rfl)
    (hh : ∀ v, assign (.Subscript a b p2) X.env v = (do
      let ov ← holding [v] (eval a X.env)
      let iv ← holding [v, ov] (eval b X.env)
      standAt p2
      holding [v, ov, iv] (setItem ov iv v)
      release [v, ov, iv] []) := by intro _; rfl) : DS X Wx (.Assign [.Subscript a b p2] e pos) (sPut f g h) := PS.conv (ps_asg (de_frz he) (pg_sub ho hi set_list hh) hs hw h1) fun D σ H ⟨ad, ρ, S, sg, rs, q⟩ => by
  refine ⟨ad, ρ, S, sg, rs, post_mono (bindS_post (Rel := RepW X.K) sg q) ?_⟩
  rintro x H1 ⟨ad1, wx, S1, fr1, r1, rs1, q1⟩
  refine ⟨ad1, ρ, S1, sg.fr fr1, rs1, post_mono (bindS_post (Rel := RepW X.K) (sg.fr fr1) q1) ?_⟩
  rintro o H2 ⟨ad2, wo, S2, fr2, r2, rs2, q2⟩
  refine ⟨ad2, ρ, S2, (sg.fr fr1).fr fr2, rs2, post_mono (bindS_post (Rel := RepW X.K) ((sg.fr fr1).fr fr2) q2) ?_⟩
  rintro i H3 ⟨ad3, wi, S3, fr3, r3, rs3, q3⟩
  cases e1 : ownL S3 wo with
  | none => rw [e1] at q3; exact q3.elim
  | some kl =>
    obtain ⟨k, l⟩ := kl
    rw [e1] at q3
    dsimp only at q3
    split at q3
    · split at q3
      · rename_i j _ d
        cases e2 : ixSet l j d with
        | none => rw [e2] at q3; exact q3.elim
        | some l' =>
          rw [e2] at q3
          unfold ixSet at e2
          cases e3 : ixN l.length j with
          | none => rw [e3] at e2; cases e2
          | some n =>
            rw [e3] at e2
            cases e2
            obtain ⟨p, vs, rfl, ha, hl, rp⟩ := ownL_rep (r2.fr fr3) rs3 e1
            cases r3
            have rx : RepW X.K ad3 H3 x (.d d) := (r1.fr fr2).fr fr3
            obtain ⟨f1, f2⟩ := put_own (m := l.set n d) rs3 ha hl (Reps.set n rp rx)
            exact ⟨p, vs, j, n, rfl, rfl, hl, by rw [rp.length]; exact e3, q3 σ _ ad3 f1 ((((sg.fr fr1).fr fr2).fr fr3).fr f1) f2⟩
      · exact q3.elim
    · exact q3.elim
theorem get_list : PGet X (fun o i H Q => ∃ p xs k x, o = .ref p ∧ i = .int k ∧ SqL X.K H p xs ∧ atI xs k = some x ∧ Q x H) := by
  intro pins s σ H o i ov iv Q I ro ri ⟨p, xs, k, z, h1, h2, hq, he, q⟩
  subst h1 h2
  cases ro
  obtain ⟨t, rfl⟩ := ri
  obtain ⟨its, r, pl, hz⟩ := I.list hq
  obtain ⟨j, h1, h2, h3, h4, h5⟩ := atI_get he
  obtain ⟨w, ew, rw'⟩ := r.get h2
  have hl := r.length
  have hn := line63
  have fin : EP X pins σ Q w s := ⟨z, H, I, rw', q⟩
  by_cases h0 : 0 ≤ k
  · have hj : k.toNat = j := by
      rw [seqIndex_of h0 h5] at h1
      exact Option.some.inj h1
    exact wpAny_getItem_list pl.isList h0 (by omega) (by rw [hj]; simpa using ew) fin
  · have hj : (k + (its.toArray.size : Int)).toNat = j := by
      rw [seqIndex_neg (by omega) h4] at h1
      rw [List.size_toArray, ← hl]
      exact Option.some.inj h1
    exact wpAny_getItem_list_neg pl.isList (by omega) (by rw [List.size_toArray] <;> omega) (by omega) (by rw [hj]; simpa using ew) fin
/-- o[i] op= e, o a changing list -/
def sAugI (g0 : PyData → PyData → Option PyData) (fo fi fe : EF) : SF := fun ρ S => bindS (fo ρ S) ρ fun o S1 => bindS (fi ρ S1) ρ fun i S2 => match i with
  | .d (.int j) => match ownL S2 o with
    | some (_, l) => match atI l j with
      | some x => bindS (fe ρ S2) ρ fun y S3 => match view S3 y with
        | some dy => match g0 x dy with
          | some z => match ownL S3 o with
            | some (k, l') => match ixSet l' j z with
              | some l2 => .fl (.nx ρ) (S3.set k (.lst l2))
              | none => .bad
            | none => .bad
          | none => .bad
        | none => .bad
      | none => .bad
    | none => .bad
  | _ => .bad
theorem ds_augI {op : Operator} {g0 : PyData → PyData → Option PyData} (ho : DE X Wx a f) (hi : DE X Wx b g) (he : DE X Wx e h) (hop : OpI X op g0)
    (ha : ∀ ov iv new, augStore b ov iv new = (do holding [new, ov, iv] (setItem ov iv new); release [new, ov, iv] []; pure .next) := by intros; rfl) : DS X Wx (.AugAssign (.Subscript a b p2) op e pos) (sAugI g0 f g h) := PS.conv (ps_augS ho hi get_list he hop set_list ha) fun D σ H ⟨ad, ρ, S, sg, rs, q⟩ => by
  refine ⟨ad, ρ, S, sg, rs, post_mono (bindS_post (Rel := RepW X.K) sg q) ?_⟩
  rintro o H1 ⟨ad1, wo, S1, fr1, r1, rs1, q1⟩
  refine ⟨ad1, ρ, S1, sg.fr fr1, rs1, post_mono (bindS_post (Rel := RepW X.K) (sg.fr fr1) q1) ?_⟩
  rintro i H2 ⟨ad2, wi, S2, fr2, r2, rs2, q2⟩
  have sg2 := (sg.fr fr1).fr fr2
  split at q2
  · rename_i j
    cases e1 : ownL S2 wo with
    | none => rw [e1] at q2; exact q2.elim
    | some kl =>
      obtain ⟨k, l⟩ := kl
      rw [e1] at q2
      dsimp only at q2
      cases e2 : atI l j with
      | none => rw [e2] at q2; exact q2.elim
      | some x =>
        rw [e2] at q2
        dsimp only at q2
        obtain ⟨p, vs, rfl, ha, hl, rp⟩ := ownL_rep (r1.fr fr2) rs2 e1
        cases r2
        obtain ⟨xv, ex1, ex2⟩ := atI_rep rp e2
        refine ⟨p, vs, j, xv, rfl, rfl, SqL.of hl, ex1, ad2, ρ, S2, sg2, rs2, post_mono (bindS_post (Rel := RepW X.K) sg2 q2) ?_⟩
        rintro y H3 ⟨ad3, wy, S3, fr3, r3, rs3, q3⟩
        cases e3 : view S3 wy with
        | none => rw [e3] at q3; exact q3.elim
        | some dy =>
          rw [e3] at q3
          dsimp only at q3
          cases e4 : g0 x dy with
          | none => rw [e4] at q3; exact q3.elim
          | some z =>
            rw [e4] at q3
            dsimp only at q3
            cases e5 : ownL S3 wo with
            | none => rw [e5] at q3; exact q3.elim
            | some kl2 =>
              obtain ⟨k2, l2⟩ := kl2
              rw [e5] at q3
              dsimp only at q3
              cases e6 : ixSet l2 j z with
              | none => rw [e6] at q3; exact q3.elim
              | some l3 =>
                rw [e6] at q3
                refine ⟨x, dy, z, .inl (Rep.stb fr3.stb _ ex2), view_rep r3 rs3 e3, e4, fun zv H4 ex rz => ?_⟩
                have fr4 : Fr ad3 H3 ad3 H4 := ex.fr
                have rs4 := rs3.ex ex
                obtain ⟨p2, vs2, ep, ha2, hl2, rp2⟩ := ownL_rep (((r1.fr fr2).fr fr3).fr fr4) rs4 e5
                cases ep
                unfold ixSet at e6
                cases e7 : ixN l2.length j with
                | none => rw [e7] at e6; cases e6
                | some n =>
                  rw [e7] at e6
                  cases e6
                  obtain ⟨f1, f2⟩ := put_own (m := l2.set n z) rs4 ha2 hl2 (Reps.set n rp2 rz)
                  exact ⟨p, vs2, j, n, rfl, rfl, hl2, by rw [rp2.length]; exact e7, q3 σ _ ad3 (fr4.trans f1) (((sg2.fr fr3).fr fr4).fr f1) f2⟩
  · exact q2.elim
end
end DL

set_option Elab.async false
set_option linter.all false
set_option maxRecDepth 100000
set_option maxHeartbeats 4000000
/-! D11: append, extend, pop; new lists; n * list; the empty dict; starred items. -/
namespace DL
open PySem PySem.Spec PyProof.Rows L2
section
variable {X : Cx} {Wx : WX} {o e : Expr} {es : List Expr} {f g : EF} {m : MF} {apos cpos pos p2 : Pos}

def noTab (S : Sto) (k : Nat) : Bool := match S[k]? with
  | some (.tab _ _) => false
  | _ => true
def eApp (fo fe : EF) : EF := fun ρ S => (fo ρ S).bind fun w S1 => match w with
  | .own k => if noTab S1 k = false then .bad else (fe ρ S1).bind fun x S2 => match ownL S2 (.own k) with
    | some (k, l) => match x with
      | .d d => if l.length < sizeLine then .ok (.d .none) (S2.set k (.lst (l ++ [d]))) else .bad
      | _ => .bad
    | none => .bad
  | _ => .bad
theorem ty_own {K : PySem.W.Frag} {H : Hp} {a : Addr} {vs : List V} (h : H a = some (.lst vs)) : tyV K "list" (.ref a) H := .inl ⟨rfl, vs, SqL.of h⟩
/-- what stands in the store is a list, before its arguments come -/
theorem own_ty {K : PySem.W.Frag} {ad : List Addr} {H : Hp} {S : Sto} {v : V} {k : Nat} (nt : ¬ noTab S k = false) (r : RepW K ad H v (.own k)) (rs : RS K ad H S) : tyV K "list" v H := by
  obtain ⟨a, ha, rfl⟩ := r
  have hk : k < S.length := by rw [← rs.len]; exact (List.getElem?_eq_some_iff.mp ha).1
  obtain ⟨a', e1, e2⟩ := rs.ob k S[k] (by simp [hk])
  rw [ha] at e1; cases e1
  have hnt : noTab S k = match S[k] with | .tab _ _ => false | _ => true := by
    unfold noTab
    rw [List.getElem?_eq_getElem hk]
    cases S[k] <;> rfl
  rw [hnt] at nt
  revert e2 nt
  cases S[k] with
  | tab P q => exact fun nt => absurd rfl nt
  | lst l => exact fun _ ⟨vs, h, _⟩ => .inl ⟨rfl, vs, SqL.of h⟩
  | frz l => exact fun _ ⟨vs, o, h, _⟩ => .inl ⟨rfl, vs, .inl (.inr ⟨o, h⟩)⟩
theorem de_append (ho : DE X Wx o f) (he : DE X Wx e g) (hbase : attributeBase o "append" X.env (eval o X.env) = eval o X.env := by rfl)
    (hfew : ((backTo cpos (starEach [e] X.env)).all (fun x => !x.1) && (backToKw cpos (keywordEach [] X.env)).all (fun x => x.1.isSome)
      && decide ([e].length + ([] : List Keyword).length + (if ([] : List Keyword).isEmpty then 0 else 1) < 30)) = true := by rfl)
    (hline : (apos.endLine == cpos.line) = true := by rfl) (hs : starEach [e] X.env = (false, eval e X.env) :: starEach [] X.env := by rfl) : DE X Wx (.Call (.Attribute o "append" apos) [e] [] cpos) (eApp f (eFrz g)) :=
  PE.conv (pe_bm PySem.F.plainAttrs_list PySem.F.slot_list_append PySem.F.type_list_append mt_append ho (pa_cons (de_frz he) pa_nil hs) hbase hfew hline hs rfl) fun σ H Q ⟨ad, ρ, S, sg, rs, q⟩ => by
    refine ⟨ad, ρ, S, sg, rs, post_mono (post_bind q) ?_⟩
    rintro x H1 ⟨ad1, w, S1, fr1, r1, rs1, q1⟩
    cases w with
    | d _ => exact q1.elim
    | fn _ _ _ => exact q1.elim
    | own k0 =>
    dsimp only at q1
    split at q1
    · exact q1.elim
    rename_i nt
    refine ⟨own_ty nt r1 rs1, ad1, ρ, S1, sg.fr fr1, rs1, post_mono (post_bind q1) ?_⟩
    rintro y H2 ⟨ad2, wy, S2, fr2, r2, rs2, q2⟩
    cases e1 : ownL S2 (.own k0) with
    | none => rw [e1] at q2; exact q2.elim
    | some kl =>
      obtain ⟨k, l⟩ := kl
      rw [e1] at q2
      dsimp only at q2
      split at q2
      · split at q2
        · rename_i d hz
          obtain ⟨a, vs, rfl, ha, hl, rp⟩ := ownL_rep (r1.fr fr2) rs2 e1
          obtain ⟨f1, f2⟩ := put_own (m := l ++ [d]) rs2 ha hl (Reps.append rp (.cons r2 .nil))
          exact ⟨a, vs, y, rfl, rfl, hl, by rw [rp.length]; exact hz, q2 _ _ ad2 f1 .non f2⟩
        · exact q2.elim
      · exact q2.elim
def eExt (fo : EF) (m : MF) : EF := fun ρ S => (fo ρ S).bind fun w S1 => match w with
  | .own k => if noTab S1 k = false then .bad else (m ρ S1).bind fun x S2 => match ownL S2 (.own k) with
    | some (k, l) => if l.length + x.length ≤ sizeLine then .ok (.d .none) (S2.set k (.lst (l ++ x))) else .bad
    | none => .bad
  | _ => .bad
theorem de_extend (ho : DE X Wx o f) (he : DM X Wx e m) (hbase : attributeBase o "extend" X.env (eval o X.env) = eval o X.env := by rfl)
    (hfew : ((backTo cpos (starEach [e] X.env)).all (fun x => !x.1) && (backToKw cpos (keywordEach [] X.env)).all (fun x => x.1.isSome)
      && decide ([e].length + ([] : List Keyword).length + (if ([] : List Keyword).isEmpty then 0 else 1) < 30)) = true := by rfl)
    (hline : (apos.endLine == cpos.line) = true := by rfl) (hs : starEach [e] X.env = (false, eval e X.env) :: starEach [] X.env := by rfl) : DE X Wx (.Call (.Attribute o "extend" apos) [e] [] cpos) (eExt f m) :=
  PE.conv (pe_bm PySem.F.plainAttrs_list PySem.F.slot_list_extend PySem.F.type_list_extend mt_extend ho (pa_cons he pa_nil hs) hbase hfew hline hs rfl) fun σ H Q ⟨ad, ρ, S, sg, rs, q⟩ => by
    refine ⟨ad, ρ, S, sg, rs, post_mono (post_bind q) ?_⟩
    rintro x H1 ⟨ad1, w, S1, fr1, r1, rs1, q1⟩
    cases w with
    | d _ => exact q1.elim
    | fn _ _ _ => exact q1.elim
    | own k0 =>
    dsimp only at q1
    split at q1
    · exact q1.elim
    rename_i nt
    refine ⟨own_ty nt r1 rs1, ad1, ρ, S1, sg.fr fr1, rs1, ?_⟩
    revert q1
    cases m ρ S1 with
    | bad => exact fun z => z
    | exc x S2 => exact fun z => z
    | ok xs S2 =>
      rintro q1 y H2 ad2 fr2 ⟨p, us, rfl, h0, hn, hp, rpx⟩ rs2
      simp only [Rs.bind] at q1
      cases e1 : ownL S2 (.own k0) with
      | none => rw [e1] at q1; exact q1.elim
      | some kl =>
        obtain ⟨k, l⟩ := kl
        rw [e1] at q1
        dsimp only at q1
        split at q1
        · rename_i hz
          obtain ⟨a, vs, rfl, ha, hl, rp⟩ := ownL_rep (r1.fr fr2) rs2 e1
          obtain ⟨f1, f2⟩ := put_own (m := l ++ xs) rs2 ha hl (Reps.append rp rpx)
          exact ⟨a, p, vs, us, rfl, rfl, hl, hp, by rw [rp.length, rpx.length]; exact hz, q1 _ _ ad2 (fr2.trans f1) .non f2⟩
        · exact q1.elim

/-! ### new lists -/
/-- list(x), x a list or a tuple -/
def mLstOf (l : LF) : MF := fun ρ S => (l ρ S).bind fun ws S1 => match ws with
  | [w] => match view S1 w with
    | some (.list l) => .ok l S1
    | some (.tuple l) => .ok l S1
    | _ => .bad
  | _ => .bad
theorem dm_listof {l : LF} {p : Pos} (hg : Gl X "list") (hm : X.mg "list" = none) (ha : DA X Wx (e :: es) l)
    (he : starEach (e :: es) X.env = (false, eval e X.env) :: starEach es X.env := by rfl) (hpl : (backTo pos (starEach es X.env)).any (·.1) = false := by rfl) : DM X Wx (.Call (.Name "list" p) (e :: es) [] pos) (mLstOf l) :=
  PE.conv (pe_callTy call_list_of hg hm PyProof.Rows.boot_list ha (by decide) (by decide) he hpl) fun σ H Q ⟨ad, ρ, S, sg, rs, q⟩ => by
    refine ⟨ad, ρ, S, sg, rs, ?_⟩
    unfold mLstOf at q
    revert q
    cases l ρ S with
    | bad => exact fun z => z
    | exc x S2 => exact fun z => z
    | ok ws S1 =>
      rintro q vs H1 ad1 fr1 r1 rs1
      simp only [Rs.bind] at q
      split at q
      · cases r1 with
        | cons r rr =>
          cases rr
          split at q
          · rename_i l0 e0
            obtain ⟨a, us, rfl, t, rp⟩ := (view_rep r rs1 e0).lst
            refine ⟨a, us, rfl, .inl t, fun p hp => ?_⟩
            obtain ⟨h0, hn⟩ := fr1.back rs1 hp
            have ex : Ex H1 (upd H1 p (.lst us)) := Ex.new hp
            exact q _ _ ad1 (fr1.trans ex.fr) ⟨p, us, rfl, h0, hn, upd_same, Reps.stb ex.stb _ rp⟩ (rs1.ex ex)
          · rename_i l0 e0
            obtain ⟨a, us, rfl, t, rp⟩ := (view_rep r rs1 e0).tup
            refine ⟨a, us, rfl, .inr t, fun p hp => ?_⟩
            obtain ⟨h0, hn⟩ := fr1.back rs1 hp
            have ex : Ex H1 (upd H1 p (.lst us)) := Ex.new hp
            exact q _ _ ad1 (fr1.trans ex.fr) ⟨p, us, rfl, h0, hn, upd_same, Reps.stb ex.stb _ rp⟩ (rs1.ex ex)
          · exact q.elim
      · exact q.elim
/-- a new list times an int -/
def mRep (m : MF) (f : EF) : MF := fun ρ S => (m ρ S).bind fun l S1 => (f ρ S1).bind fun w S2 => match w with
  | .d (.int k) => if k ≤ 1000 ∧ 0 ≤ k ∧ l.length ≤ 1000 then .ok (List.replicate k.toNat l).flatten S2 else .bad
  | _ => .bad
theorem Reps.rep {K : PySem.W.Frag} {H : Hp} {vs : List V} {l : List PyData} (r : Reps K H vs l) : ∀ n, Reps K H (List.replicate n vs).flatten (List.replicate n l).flatten
  | 0 => .nil
  | n + 1 => by
    rw [List.replicate_succ, List.replicate_succ, List.flatten_cons, List.flatten_cons]
    exact Reps.append r (Reps.rep r n)
theorem dm_rep {k : Nat} {i : Int} (he : DM X Wx o m) : DM X Wx (.BinOp o .Mult (.Constant (.int i) k p2) pos) (mRep m (eC (.int i))) := PE.conv (pe_op op_rep he (pe_int (i := i))) fun σ H Q ⟨ad, ρ, S, sg, rs, q⟩ => by
  refine ⟨ad, ρ, S, sg, rs, ?_⟩
  unfold mRep eC at q
  revert q
  cases m ρ S with
  | bad => exact fun z => z
  | exc x S2 => exact fun z => z
  | ok xs S1 =>
    rintro q y H1 ad1 fr1 ⟨p, us, rfl, h0, hn, hp, rp⟩ rs1
    simp only [Rs.bind] at q
    split at q
    · rename_i hz
      obtain ⟨z1, z2, z3⟩ := hz
      have h9 : xs.length * i.toNat ≤ 1000 * 1000 := Nat.mul_le_mul z3 (by omega)
      have h8 : (1000 * 1000 : Nat) ≤ sizeLine := by decide
      refine ⟨p, i, us, rfl, rfl, hp, by omega, by omega, by rw [rp.length]; omega, fun p2 hp2 => ?_⟩
      obtain ⟨h02, hn2⟩ := fr1.back rs1 hp2
      have ex : Ex H1 (upd H1 p2 (.lst (List.replicate i.toNat us).flatten)) := Ex.new hp2
      exact q _ _ ad1 (fr1.trans ex.fr) ⟨p2, _, rfl, h02, hn2, upd_same, Reps.stb ex.stb _ (Reps.rep rp _)⟩ (rs1.ex ex)
    · exact q.elim

/-! ### the empty dict -/
theorem freezeK {pins : List (Addr × Obj)} {σ : L2.St} {H : Hp} {s : Shared} {a : Addr} {kvs : List (Key × V)} (I : Inv X pins σ H s) (h : H a = some (.dK kvs)) :
    ∃ o, Inv X pins σ (upd H a (.frz o (.dK kvs))) s := by
  have ok := I.hok a _ h
  obtain ⟨z, hd, vs, kv, o, es, ep, e, ex⟩ := id ok
  refine ⟨o, ?_⟩
  have ne : ∀ {b : Addr} {o : HO}, H b = some o → (∀ xs, o ≠ .dK xs) → b ≠ a := fun {b o} hb hn z => by
    subst z
    rw [h] at hb
    cases hb
    exact hn _ rfl
  have un : Un X.fs [] H (upd H a (.frz o (.dK kvs))) s.heap s.heap := by
    refine ⟨fun b o q _ _ _ => q, fun b o q _ _ _ => ⟨o.slots, q⟩, fun b o q hn _ => ?_, fun b o q _ => ⟨o, q⟩, fun b xs q => ?_, fun b o u q => ?_, fun b ps q => ⟨#[], ?_⟩⟩
    · have : b ≠ a := fun z => by subst z; rw [h] at hn; cases hn
      rw [upd_ne this]; exact hn
    · rw [upd_ne (ne q fun _ z => nomatch z)]; exact q
    · rw [upd_ne (ne q fun _ z => nomatch z)]; exact q
    · rw [upd_ne (ne q fun _ z => nomatch z), q]; simp
  have hok : HOk X.prog X.w (upd H a (.frz o (.dK kvs))) s.heap := fun b u q => by
    by_cases hb : b = a
    · subst hb
      rw [upd_same] at q; cases q
      exact ⟨e, ok⟩
    · rw [upd_ne hb] at q
      refine (I.hok b u q).stay (fun c v _ r => r) (fun c r => ?_) fun c xs r => ?_
      · rw [upd_ne (ne r fun _ z => nomatch z)]; exact r
      · rw [upd_ne (ne r fun _ z => nomatch z)]; exact r
  have := I.un (h' := s.heap) (t' := s.toks) un hok
  exact this
theorem de_dic0 : DE X Wx (.Dict [] [] pos) (eC (.dict [])) := by
  have p : PE X (.Dict [] [] pos) (fun σ H Q => ∀ p, H p = none → ∀ o, Q (.ref p) (upd (upd H p (.dK [])) p (.frz o (.dK [])))) := ⟨fun pins s σ H Q I q => by
    refine thn (pe_dnewK.run pins s σ H (fun v H' => ∃ p, v = .ref p ∧ H p = none ∧ H' = upd H p (.dK [])) I fun p hp => ⟨p, rfl, hp, rfl⟩) fun v s1 ⟨x, H1, I1, r1, p, e1, hp, e2⟩ => ?_
    subst e1 e2
    obtain ⟨o, I2⟩ := freezeK I1 upd_same
    exact ⟨_, _, I2, r1, q p hp o⟩⟩
  refine PE.conv p fun σ H Q ⟨ad, ρ, S, sg, rs, q⟩ p hp o => ?_
  have ex : Ex H (upd (upd H p (.dK [])) p (.frz o (.dK []))) := (Ex.new hp).upd2 hp
  exact q _ _ ad ex.fr (.dic upd_same .nil) (rs.ex ex)

/-! ### starred items -/
def lStar (f : EF) (l : LF) : LF := fun ρ S => ((f ρ S).bind frzW).bind fun w S1 => match w with
  | .d (.list xs) => (l ρ S1).bind fun ys S2 => .ok (xs.map Wv.d ++ ys) S2
  | .d (.tuple xs) => (l ρ S1).bind fun ys S2 => .ok (xs.map Wv.d ++ ys) S2
  | _ => .bad
end
end DL

set_option Elab.async false
set_option linter.all false
set_option maxRecDepth 100000
set_option maxHeartbeats 4000000
/-! D12: methods of texts; list(text); starred items. -/
namespace DL
open PySem PySem.Spec PyProof.Rows L2

/-! ### methods of texts, by data -/
def rMP (K : PySem.W.Frag) (g : Str → List PyData → Option PyData) : V → List V → Hp → VK → Prop := fun x vs H Q => ∃ z ds d, x = .str z ∧ RepVs K H vs ds ∧ g z ds = some d ∧ strG z = true ∧ ∀ v H', Ex H H' → Rep K H' v d → Q v H'
def MtP (X : Cx) (id : String) (g : Str → List PyData → Option PyData) : Prop := MtR X id (rMP X.K g)
def eMet (g : Str → List PyData → Option PyData) (fo : EF) (l : LF) : EF := fun ρ S => (fo ρ S).bind fun w S1 => match w with
  | .d (.str z) => (l ρ S1).bind fun ws S2 => match views S2 ws with
    | some ds => match g z ds with
      | some d => .ok (.d d) S2
      | none => .bad
    | none => .bad
  | _ => .bad
section
variable {X : Cx} {Wx : WX} {o e : Expr} {es : List Expr} {f : EF} {l : LF} {g : Str → List PyData → Option PyData} {name : Str} {id : String} {apos cpos : Pos}
theorem de_met (slot : Slot "str" name id) (hty : typeOf (.builtin id) = pure (.type "method_descriptor")) (hm : MtP X id g) (ho : DE X Wx o f) (ha : DA X Wx (e :: es) l)
    (hbase : attributeBase o name X.env (eval o X.env) = eval o X.env := by rfl)
    (hfew : ((backTo cpos (starEach (e :: es) X.env)).all (fun x => !x.1) && (backToKw cpos (keywordEach [] X.env)).all (fun x => x.1.isSome)
      && decide ((e :: es).length + ([] : List Keyword).length + (if ([] : List Keyword).isEmpty then 0 else 1) < 30)) = true := by rfl)
    (hline : (apos.endLine == cpos.line) = true := by rfl) (hs : starEach (e :: es) X.env = (false, eval e X.env) :: starEach es X.env := by rfl) (hplain : (backTo cpos (starEach es X.env)).any (·.1) = false := by rfl) :
    DE X Wx (.Call (.Attribute o name apos) (e :: es) [] cpos) (eMet g f l) :=
  PE.conv (pe_bm PySem.F.plainAttrs_str slot hty hm ho ha hbase hfew hline hs hplain) fun σ H Q ⟨ad, ρ, S, sg, rs, q⟩ => by
    refine ⟨ad, ρ, S, sg, rs, post_mono (post_bind q) ?_⟩
    rintro x H1 ⟨ad1, w, S1, fr1, r1, rs1, q1⟩
    split at q1
    · rename_i z
      obtain ⟨rfl, hz⟩ : x = .str z ∧ strG z = true := by cases r1 with | str _ h => exact ⟨rfl, h⟩
      refine ⟨rfl, ad1, ρ, S1, sg.fr fr1, rs1, post_mono (post_bind q1) ?_⟩
      rintro vs H2 ⟨ad2, ws, S2, fr2, r2, rs2, q2⟩
      cases e1 : views S2 ws with
      | none => rw [e1] at q2; exact q2.elim
      | some ds =>
        rw [e1] at q2
        dsimp only at q2
        cases e2 : g z ds with
        | none => rw [e2] at q2; exact q2.elim
        | some d =>
          rw [e2] at q2
          exact ⟨z, ds, d, rfl, views_rep rs2 r2 e1, e2, hz, fun v H' ex r => q2 v H' ad2 ex.fr r (rs2.ex ex)⟩
    · exact q1.elim
theorem de_met0 (slot : Slot "str" name id) (hty : typeOf (.builtin id) = pure (.type "method_descriptor")) (hm : MtP X id g) (ho : DE X Wx o f)
    (hbase : attributeBase o name X.env (eval o X.env) = eval o X.env := by rfl) (hline : (apos.endLine == cpos.line) = true := by rfl) :
    DE X Wx (.Call (.Attribute o name apos) [] [] cpos) (eMet g f lNil) :=
  PE.conv (pe_bm0 PySem.F.plainAttrs_str slot hty hm ho hbase hline) fun σ H Q ⟨ad, ρ, S, sg, rs, q⟩ => by
    refine ⟨ad, ρ, S, sg, rs, post_mono (post_bind q) ?_⟩
    rintro x H1 ⟨ad1, w, S1, fr1, r1, rs1, q1⟩
    split at q1
    · rename_i z
      obtain ⟨rfl, hz⟩ : x = .str z ∧ strG z = true := by cases r1 with | str _ h => exact ⟨rfl, h⟩
      refine ⟨rfl, ?_⟩
      simp only [lNil, Rs.bind, views] at q1
      cases e2 : g z [] with
      | none => rw [e2] at q1; exact q1.elim
      | some d =>
        rw [e2] at q1
        exact ⟨z, [], d, rfl, .nil, e2, hz, fun v H' ex r => q1 v H' ad1 ex.fr r (rs1.ex ex)⟩
    · exact q1.elim
end
theorem MtR.freeze {X : Cx} {id : String} {r : V → List V → Hp → VK → Prop} (h : MtR X id r) : MtR X id (fun x xs H Q => r x xs H fun v H' => ∃ a vs, v = .ref a ∧ H' a = some (.lst vs) ∧ ∀ o, Q v (upd H' a (.frz o (.lst vs)))) :=
  fun pins s σ H x xs v us Q I rx rs q => thn (h pins s σ H x xs v us _ I rx rs q) fun _ _ z => EP.freeze z
def splitG : Str → List PyData → Option PyData
  | a, [.str b] => if (b.length == 0) = false ∧ a.length + 2 ≤ sizeLine ∧ ((Txt.split a b).all strG) = true then some (.list ((Txt.split a b).map PyData.str)) else none
  | _, _ => none
theorem strsReps {K : PySem.W.Frag} {H : Hp} : ∀ {ys : List Str}, ys.all strG = true → Reps K H (ys.map V.str) (ys.map PyData.str)
  | [], _ => .nil
  | y :: ys, h => by
    rw [List.all_cons, Bool.and_eq_true] at h
    exact .cons (.str _ h.1) (strsReps h.2)
section
variable {X : Cx}
theorem mp_split : MtP X "str.split" splitG := by
  intro pins s σ H x xs v us Q I rx rs ⟨z, ds, d, ex, h, e, hz, q⟩
  subst ex
  unfold splitG at e
  split at e
  · rename_i b
    split at e
    · rename_i hc
      cases e
      obtain ⟨y, rfl, r1⟩ := repV1 h
      obtain ⟨rfl, z1⟩ := r1.str
      refine MtR.freeze mt_split pins s σ H _ _ v us Q I rx rs ⟨_, _, rfl, rfl, hc.1, hc.2.1, fun p hp => ⟨p, _, rfl, upd_same, fun o => ?_⟩⟩
      have ex : Ex H (upd (upd H p (.lst ((Txt.split z b).map V.str))) p (.frz o (.lst ((Txt.split z b).map V.str)))) := (Ex.new hp).upd2 hp
      exact q _ _ ex (.lst (.inl ⟨o, upd_same⟩) (strsReps hc.2.2))
    · cases e
  · cases e
def joinG : Str → List PyData → Option PyData
  | a, [.list l] => match strsD l with
    | some ys => if (ys.map (·.length)).sum + ys.length * a.length ≤ 16777216 ∧ strG (Txt.join a ys) = true then some (.str (Txt.join a ys)) else none
    | none => none
  | _, _ => none
theorem mp_join : MtP X "str.join" joinG := by
  intro pins s σ H x xs v us Q I rx rs ⟨z, ds, d, ex, h, e, hz, q⟩
  subst ex
  unfold joinG at e
  split at e
  · rename_i l
    cases hs : strsD l with
    | none => rw [hs] at e; cases e
    | some ys =>
      rw [hs] at e
      dsimp only at e
      split at e
      · rename_i hc
        cases e
        obtain ⟨y, rfl, r1⟩ := repV1 h
        obtain ⟨a, vs, rfl, t, rr⟩ := r1.lst
        obtain ⟨e1, e2⟩ := strs_rep rr hs
        subst e1
        exact mt_join pins s σ H _ _ v us Q I rx rs ⟨_, _, ys, rfl, rfl, .inl t, hc.1, q _ H (Ex.refl H) (.str _ hc.2)⟩
      · cases e
  · cases e
def indexG : Str → List PyData → Option PyData
  | a, [.str b] => match Builtin.Str.occurrences a b 0 a.length 1 with
    | i :: _ => some (.int (i : Nat))
    | [] => none
  | _, _ => none
theorem mp_index : MtP X "str.index" indexG := by
  intro pins s σ H x xs v us Q I rx rs ⟨z, ds, d, ex, h, e, hz, q⟩
  subst ex
  unfold indexG at e
  split at e
  · split at e
    · rename_i i r ho
      cases e
      obtain ⟨y, rfl, r1⟩ := repV1 h
      obtain ⟨rfl, z1⟩ := r1.str
      exact mt_sindex pins s σ H _ _ v us Q I rx rs ⟨_, _, i, r, rfl, rfl, ho, q _ H (Ex.refl H) (.int _)⟩
    · cases e
  · cases e
end
def strGG : List PyData → Option PyData := fun ds => match ds with
    | [.int i] => if i.natAbs.log2 < 1920 ∧ strG (toString i) = true then some (.str (toString i)) else none
    | [.str x] => some (.str x)
    | _ => none
theorem cp_str {X : Cx} : CallP X (.type "str") strGG := by
  intro pins s σ H xs us Q I r ⟨ds, d, h, e, q⟩
  unfold strGG at e
  split at e
  · split at e
    · rename_i hc
      cases e
      obtain ⟨x, rfl, r1⟩ := repV1 h
      cases r1.int
      exact call_str_int pins s σ H _ us Q I r ⟨_, rfl, hc.1, q _ H (Ex.refl H) (.str _ hc.2)⟩
    · cases e
  · cases e
    obtain ⟨x, rfl, r1⟩ := repV1 h
    obtain ⟨rfl, z⟩ := r1.str
    exact SkE.call_str_str pins s σ H _ us Q I r ⟨_, rfl, q _ H (Ex.refl H) (.str _ z)⟩
  · cases e
/-! ### starred items -/
section
variable {X : Cx} {Wx : WX} {e : Expr} {es : List Expr} {f : EF} {l : LF} {p : Pos}
theorem reps_ws {K : PySem.W.Frag} {ad : List Addr} {H : Hp} : ∀ {vs : List V} {xs : List PyData}, Reps K H vs xs → RepWs K ad H vs (xs.map Wv.d)
  | _, _, .nil => .nil
  | _, _, .cons h t => .cons h (reps_ws t)
theorem repWs_append {K : PySem.W.Frag} {ad : List Addr} {H : Hp} : ∀ {vs us : List V} {ws xs : List Wv}, RepWs K ad H vs ws → RepWs K ad H us xs → RepWs K ad H (vs ++ us) (ws ++ xs)
  | _, _, _, _, .nil, h => h
  | _, _, _, _, .cons r t, h => .cons r (repWs_append t h)
theorem da_star (ha : DE X Wx e f) (hb : DA X Wx es l) (hs : starEach (.Starred e p :: es) X.env = (true, eval e X.env) :: starEach es X.env := by rfl) : DA X Wx (.Starred e p :: es) (lStar f l) := PA.conv (StX.pa_star (de_frz ha) hb hs) fun σ H Q ⟨ad, ρ, S, sg, rs, q⟩ => by
  refine ⟨ad, ρ, S, sg, rs, post_mono (post_bind q) ?_⟩
  rintro x H1 ⟨ad1, w, S1, fr1, r1, rs1, q1⟩
  split at q1
  · rename_i xs
    cases r1 with
    | lst t rp =>
      refine ⟨_, _, rfl, .inr t.sq, ad1, ρ, S1, sg.fr fr1, rs1, post_mono (post_bind (Rel1 := RepWs X.K) q1) ?_⟩
      rintro ys H2 ⟨ad2, ws, S2, fr2, r2, rs2, q2⟩
      exact q2 _ H2 ad2 (Fr.refl _ _) (repWs_append (reps_ws (Reps.stb fr2.stb _ rp)) r2) rs2
  · rename_i xs
    cases r1 with
    | tup t rp =>
      refine ⟨_, _, rfl, .inl t, ad1, ρ, S1, sg.fr fr1, rs1, post_mono (post_bind (Rel1 := RepWs X.K) q1) ?_⟩
      rintro ys H2 ⟨ad2, ws, S2, fr2, r2, rs2, q2⟩
      exact q2 _ H2 ad2 (Fr.refl _ _) (repWs_append (reps_ws (Reps.stb fr2.stb _ rp)) r2) rs2
  · exact q1.elim

/-! ### list(a text) -/
def mSigns (l : LF) : MF := fun ρ S => (l ρ S).bind fun ws S1 => match ws with
  | [.d (.str z)] => .ok (signsD z) S1
  | _ => .bad
theorem call_signs (hc : X.calm = true) : CallR X (.type "list") (fun xs H Q => ∃ z, xs = [.str z] ∧ strG z = true ∧ ∀ p, H p = none → Q (.ref p) (upd H p (.lst (z.cps.toList.map fun c => V.str ⟨#[c]⟩)))) := by
  intro pins s σ H xs us Q I r ⟨z, e, hz, q⟩
  subst e
  obtain ⟨u, rfl, t, rfl⟩ := r.one
  refine call_list_str (hn := strG_len hz) (I.ok.hd hc) z t fun h' tk acc c hk hS ha => ?_
  have hacc : Vals (z.cps.toList.map fun c => V.str ⟨#[c]⟩) acc.toList := by
    obtain ⟨hsz, hat⟩ := ha
    have key : ∀ (cs : List Nat) (vs : List Value), cs.length = vs.length → (∀ (j : Nat) (c : Nat) (v : Value), cs[j]? = some c → vs[j]? = some v → ∃ u, v = .str ⟨#[c]⟩ u) → Vals (cs.map fun c => V.str ⟨#[c]⟩) vs := by
      intro cs
      induction cs with
      | nil => intro vs hl _; cases vs with
        | nil => exact .nil
        | cons _ _ => simp at hl
      | cons c cs ih =>
        intro vs hl h
        cases vs with
        | nil => simp at hl
        | cons v vs =>
          obtain ⟨u, e⟩ := h 0 c v rfl rfl
          exact .cons ⟨u, e⟩ (ih vs (by simpa using hl) fun j c' v' h1 h2 => h (j + 1) c' v' (by simpa using h1) (by simpa using h2))
    refine key _ _ (by simp [hsz]) fun j c v h1 h2 => ?_
    obtain ⟨c', u, e1, e2⟩ := hat j v (by rw [← Array.getElem?_toList]; exact h2)
    rw [Array.getElem?_toList, e1] at h1
    cases h1
    exact ⟨u, e2⟩
  refine ⟨.ref s.heap.objs.size, _, I.laid (t' := tk) (o := .lst (z.cps.toList.map fun c => V.str ⟨#[c]⟩)) hk (Nat.le_refl _) ⟨?_, acc.toList, c, hacc, ?_⟩, rfl, q _ I.fresh⟩
  · rw [List.length_map, Array.length_toList]; exact strG_len hz
  · exact hS
theorem dm_signs {p pos : Pos} (hc : X.calm = true) (hg : Gl X "list") (hm : X.mg "list" = none) (ha : DA X Wx [e] l)
    (he : starEach [e] X.env = (false, eval e X.env) :: starEach [] X.env := by rfl) : DM X Wx (.Call (.Name "list" p) [e] [] pos) (mSigns l) :=
  PE.conv (pe_callTy (call_signs hc) hg hm PyProof.Rows.boot_list ha (by decide) (by decide) he rfl) fun σ H Q ⟨ad, ρ, S, sg, rs, q⟩ => by
    refine ⟨ad, ρ, S, sg, rs, ?_⟩
    unfold mSigns at q
    revert q
    cases l ρ S with
    | bad => exact fun z => z
    | exc x S2 => exact fun z => z
    | ok ws S1 =>
      rintro q vs H1 ad1 fr1 r1 rs1
      simp only [Rs.bind] at q
      split at q
      · rename_i z
        cases r1 with
        | cons r rr =>
          cases rr
          cases r with
          | str _ hz =>
            refine ⟨z, rfl, hz, fun p hp => ?_⟩
            obtain ⟨h0, hn⟩ := fr1.back rs1 hp
            have ex : Ex H1 (upd H1 p (.lst (z.cps.toList.map fun c => V.str ⟨#[c]⟩))) := Ex.new hp
            refine q _ _ ad1 (fr1.trans ex.fr) ⟨p, _, rfl, h0, hn, upd_same, ?_⟩ (rs1.ex ex)
            have : ∀ cs : List Nat, (∀ c ∈ cs, c ∈ z.cps.toList) → Reps X.K (upd H1 p (.lst (z.cps.toList.map fun c => V.str ⟨#[c]⟩))) (cs.map fun c => V.str ⟨#[c]⟩) (cs.map fun c => PyData.str ⟨#[c]⟩) := by
              intro cs
              induction cs with
              | nil => exact fun _ => .nil
              | cons c cs ih => exact fun h => .cons (.str _ (sign_G hz (h c (by simp)))) (ih fun d hd => h d (by simp [hd]))
            exact this _ fun _ h => h
      · exact q.elim
end
end DL

set_option Elab.async false
set_option linter.all false
set_option maxRecDepth 100000
set_option maxHeartbeats 4000000
/-! D13: the ends: constants of the module, the law's own promise. -/
namespace DL
open PySem PySem.Spec PyProof.Rows L2
theorem Fn.mono {P : Program} {w : World} {K : PySem.W.Frag} {mg : Str → Option Value} {base : Heap} {j k : Nat} {x : Str} {n : Nat} {sem : FD} (F : Fn P w K mg base j x n sem) (h : j ≤ k) : Fn P w K mg base k x n sem := by
  obtain ⟨f, fd, ps, F1, r⟩ := F.ex
  exact ⟨f, fd, ps, F1.mono h, r⟩
theorem gv_str {K : PySem.W.Frag} {mg : Str → Option Value} {x z : Str} {t : Tok} (h : mg x = some (.str z t)) (g : strG z = true := by decide +kernel) : Gv K mg x (.str z) := ⟨_, .str z, h, ⟨t, rfl⟩, fun _ => .str z g⟩
theorem gv_int {K : PySem.W.Frag} {mg : Str → Option Value} {x : Str} {i : Int} {t : Tok} (h : mg x = some (.int i t)) : Gv K mg x (.int i) := ⟨_, .int i, h, ⟨t, rfl⟩, fun _ => .int i⟩
theorem gv_tup {K : PySem.W.Frag} {mg : Str → Option Value} {x : Str} {a : Addr} {od : Option Addr} {its : Array Value} {n : Nat} {sl : Array (Option Value)} {vs : List V} {ds : List PyData} (h : mg x = some (.ref a)) (l : K.lookup a = some ⟨.type "tuple", od, .seq its n, sl⟩)
    (hz : its.size ≤ sizeLine) (hv : Vals vs its.toList) (hr : ∀ H, Reps K H vs ds) : Gv K mg x (.tuple ds) := ⟨_, .ref a, h, rfl, fun H => .tup (.inr ⟨_, its, n, l, rfl, rfl, hz, hv⟩) (hr H)⟩
/-- what the law's def promises -/
def spLawD (K : PySem.W.Frag) : Sp := fun vs H Q _ => ∃ (a : Addr) (ns : List Int), vs = [.ref a] ∧ FzL K H a (ns.map V.int) ∧ ns.length ≤ 63 ∧ (∀ z ∈ ns, Builtin.Int.intBits z ≤ 1048576) ∧ ∀ H', Q (.bl true) H'
theorem reps_ints {K : PySem.W.Frag} {H : Hp} : ∀ ns : List Int, Reps K H (ns.map V.int) (ns.map PyData.int)
  | [] => .nil
  | n :: ns => .cons (.int n) (reps_ints ns)
theorem law_fn {P : Program} {w : World} {K : PySem.W.Frag} {mg : Str → Option Value} {base : Heap} {k : Nat} {f : Addr} {fd : FuncData} {ps : List Str} {sem : FD} (F : FnOk P w K mg base (L2.CX P w) k f fd ps (spD K mg 1 sem))
    (hl : ∀ ns : List Int, ns.length ≤ 63 → (∀ z ∈ ns, Builtin.Int.intBits z ≤ 1048576) → sem [.d (.list (ns.map PyData.int))] [] = .ok (.d (.bool true)) []) : FnOk P w K mg base (L2.CX P w) k f fd ps (spLawD K) := F.imp fun vs H Q E h => by
  obtain ⟨a, ns, rfl, hf, hn, hb, q⟩ := h
  refine ⟨rfl, [], [.d (.list (ns.map PyData.int))], [], .cons (.lst hf (reps_ints ns)) .nil, ⟨rfl, List.nodup_nil, fun k o e => by simp at e⟩, ?_⟩
  rw [hl ns hn hb]
  intro v H' ad' fr r rs
  cases r
  exact q H'
theorem only_fz {K : PySem.W.Frag} {H : Hp} {a : Addr} {xs : List V} (o : Only H) (h : SqL K H a xs) : FzL K H a xs := by
  rcases h with (h | h) | h
  · rcases o a with z | ⟨_, _, z⟩
    · rw [z] at h; cases h
    · rw [z] at h; cases h
  · exact .inl h
  · exact .inr h
theorem noCX {P : Program} {w : World} {H : Hp} {s : Shared} {e : Value} {s' : Shared} (h : L2.CX P w [] H s (fun _ _ _ => False) e s') : False := by
  obtain ⟨_, _, _, _, _, _, _, _, _, _, _, _, z⟩ := h
  exact z.elim
theorem walkD {l : PySem.W.OpenLaw} {k : Nat} {q : Program} {loose : List Str} {XP : (Str → Option Value) → Heap → Prop} {YP : World → Heap → Prop} {d : DefRec} {K : Params → PySem.W.Frag} (hn : l.most = some 63) (hdf : d.params.defaults = []) (hr : Room k callerA)
    (hY : ∀ (w : World) (h : Heap), YP w h → (K w.params).In h)
    (F : ∀ (w : World) (mg : Str → Option Value) (fa : Addr) (h : Heap), (K w.params).In h → h.Ns mainGlobals mg → mg d.name = some (.ref fa) →
      ∃ fd : FuncData, (∀ (s : Shared) (u : Value), BindsTo s fd ⟨[u], []⟩ [("script", u)]) ∧ ∀ base : Heap, (K w.params).In base → base.Ns mainGlobals mg → FnOk l.prog w (K w.params) mg base (L2.CX l.prog w) k fa fd ["script"] (spLawD (K w.params))) :
    PySem.W.WalkO q loose XP YP l.row.toRowW d [] (fun f vs => PySem.call f vs) :=
  L2.walk_ofB (n := 63) (k := k) (x := "script") (CX := fun w => L2.CX l.prog w) (sp := fun w => spLawD (K w.params)) hn (by decide) hdf hr hY F (fun _ _ a ns hl hb ho hS => ⟨a, ns, rfl, only_fz ho hS, hl, hb, fun _ => rfl⟩) fun _ _ _ _ _ z => noCX z
end DL

set_option Elab.async false
set_option linter.all false
set_option maxRecDepth 100000
set_option maxHeartbeats 4000000
/-! X1: the own __init__ of an error that says super().__init__(..). -/
namespace DL
open PySem PySem.Spec PyProof.Rows L2

/-- the frame's environment of a method with its __class__ cell -/
abbrev supEnv (qual : Str) (scope : Scope) (L f cda cc : Addr) : PySem.Env := PySem.W.ksEnv qual scope L f (.ref cda) cc
def supCx (CX : CXT) (P : Program) (w : World) (K : PySem.W.Frag) (mg : Str → Option Value) (base : Heap) (N : List Str) (qual : Str) (scope : Scope) (f cda cc : Addr) (A : Around) (outer : List PySem.Env) (s : Shared) (H : Hp) (E : XK) : Cx where
  prog := P
  w := w
  K := K
  mg := mg
  base := base
  A := A.deeper (supEnv qual scope s.heap.objs.size f cda cc)
  N := N
  s_0 := s
  H_0 := H
  env := supEnv qual scope s.heap.objs.size f cda cc
  outer := outer
  stack := supEnv qual scope s.heap.objs.size f cda cc :: outer
  ex := []
  fn := fun _ => false
  calm := true
  pn := []
  xe := fun e s' => wpAny (model P w) (A.deeper (supEnv qual scope s.heap.objs.size f cda cc)) (leaving (supEnv qual scope s.heap.objs.size f cda cc) e) (fun _ s'' => CX outer H s E e s'') (fun e' s'' => CX outer H s E e' s'') s'
/-- the names of such a method: its parameters, super, __class__ -/
structure SupScope (N ps : List Str) (sc : Scope) : Prop where
  kind : sc.kind = .function
  co : sc.isCoroutine = false
  gen : sc.isGenerator = false
  nd : N.Nodup
  pre : N = ps
  par : ∀ x ∈ ps, sc.names.lookup x = some .local
  only : ∀ y ∈ sc.names, y.2 ≠ .cell ∧ (y.2 = .free → y.1 = "__class__")
  sup : sc.names.lookup ("super" : Str) = some .globalImplicit
  cls : sc.names.lookup ("__class__" : Str) = some .free
theorem lookup_nodup {α β : Type} [BEq α] [LawfulBEq α] : ∀ {l : List (α × β)} {a : α} {b : β}, (l.map (·.1)).Nodup → (a, b) ∈ l → l.lookup a = some b
  | [], _, _, _, h => by cases h
  | (c, d) :: l, a, b, nd, h => by
    rw [List.map_cons, List.nodup_cons] at nd
    rcases List.mem_cons.mp h with e | e
    · cases e
      simp [List.lookup]
    · have hne : (a == c) = false := by
        rw [beq_eq_false_iff_ne]
        intro z
        subst z
        exact nd.1 (List.mem_map.mpr ⟨(a, b), e, rfl⟩)
      simp only [List.lookup, hne]
      exact lookup_nodup nd.2 e
theorem zip_lookup {ps : List Str} {us : List Value} {i : Nat} {x : Str} {u : Value} (nd : ps.Nodup) (hl : us.length = ps.length) (h1 : ps[i]? = some x) (h2 : us[i]? = some u) : (ps.zip us).reverse.lookup x = some u := by
  refine lookup_nodup ?_ (List.mem_reverse.mpr ?_)
  · rw [List.map_reverse, List.map_fst_zip (by omega)]
    exact (List.reverse_perm _).nodup_iff.mpr nd
  · exact List.mem_of_getElem? (i := i) (List.getElem?_zip_eq_some.mpr ⟨h1, h2⟩)
section
variable {CX : CXT} {P : Program} {w : World} {K : PySem.W.Frag} {mg : Str → Option Value} {base : Heap} {N ps : List Str} {qual : Str} {scope : Scope} {f cda cc : Addr}
theorem sup_start {A : Around} {outer : List PySem.Env} {s : Shared} {H : Hp} {E : XK} {us : List Value} {vs : List V} {h₁ : Heap} {tk : Nat} {cv : Option Value} (Sc : SupScope N ps scope) (hd : A.handled = none) (e0 : Env0 P w K mg base A outer s H) (hl : vs.length = ps.length) (r : Vals vs us)
    (hcb : ∃ o, base.get? cc = some o ∧ o.data = .cell cv) (hns : h₁.Ns s.heap.objs.size fun y => (ps.zip us).reverse.lookup y) (kp : ∀ b o, s.heap.get? b = some o → h₁.get? b = some o) :
    Inv (supCx CX P w K mg base N qual scope f cda cc A outer s H E) [] (L2.start N vs) H { s with heap := h₁, toks := tk } := by
  obtain ⟨oc, hoc, hdc⟩ := hcb
  have hN : N.length = ps.length := by rw [Sc.pre]
  have hul : us.length = ps.length := by rw [← hl]; exact r.length.symm
  have cmem : ∀ {y : Str} {c : Addr}, (supEnv qual scope s.heap.objs.size f cda cc).cells.lookup y = some c → y = "__class__" ∧ c = cc := fun {y c} e => by
    have e : ([(("__class__" : Str), cc)] : List (Str × Addr)).lookup y = some c := e
    simp only [List.lookup] at e
    split at e
    · rename_i hb
      cases e
      exact ⟨eq_of_beq hb, rfl⟩
    · cases e
  have st : ∀ {i : Nat} {v : V}, (L2.start N vs)[i]? = some (some v) → vs[i]? = some v := fun {i v} e => by
    unfold L2.start at e
    by_cases hi : i < vs.length
    · rw [List.getElem?_append_left (by simpa using hi), List.getElem?_map] at e
      cases q : vs[i]? with
      | none => rw [q] at e; cases e
      | some a => rw [q] at e; cases e; rfl
    · rw [List.getElem?_append_right (by simpa using hi), List.getElem?_replicate] at e
      split at e <;> cases e
  have inb := e0.bs cc oc hoc
  have noA : ∀ b : Addr, b ∉ (supCx CX P w K mg base N qual scope f cda cc A outer s H E).ex := fun b z => absurd (show b ∈ ([] : List Addr) from z) (by simp)
  refine ⟨⟨e0.mod, Sc.kind, rfl, rfl, Nat.le_refl _, fun y z c h1 h2 => ?_, fun y hy => ?_, fun y c z _ => ?_, fun _ => hd, Around.frames_deeper e0.frames, .inr ⟨rfl, rfl⟩, fun b z => absurd z (noA b), e0.bs, e0.bsz, fun b _ _ => noA b, fun b z => absurd z (noA b), e0.funs, e0.frf⟩,
    rfl, e0.bare, Un.kept kp, ⟨_, hns, fun i y v h1 h2 h3 => ?_⟩, fun y c e => ?_, e0.hok.fresh (Nat.le_refl _), fun y c e => ?_, fun q hq => absurd (show q ∈ ([] : List (Addr × Obj)) ++ [] from hq) (by simp), e0.hok.kept kp, ?_⟩
  · rw [(cmem h1).1, (cmem h2).1]
  · have hy : scope.names.lookup y = some .cell ∨ scope.names.lookup y = some .free := hy
    rcases hy with hx | hx
    · exact absurd rfl (Sc.only _ (PySem.mem_of_lookup hx)).1
    · have := (Sc.only _ (PySem.mem_of_lookup hx)).2 rfl
      have this : y = "__class__" := this
      subst this
      exact ⟨cc, by show ([(("__class__" : Str), cc)] : List (Str × Addr)).lookup ("__class__" : Str) = some cc; simp [List.lookup]⟩
  · have z : false = true := z
    cases z
  · have ha := st h2
    obtain ⟨u, hu, rv⟩ := r.get ha
    have hp : ps[i]? = some y := by rw [← Sc.pre]; exact h1
    exact ⟨u, rv, .inl ⟨Sc.par y (List.mem_of_getElem? hp), zip_lookup (by rw [← Sc.pre]; exact Sc.nd) hul hp hu⟩⟩
  · obtain ⟨_, rfl⟩ := cmem e
    exact ⟨cv, oc, kp _ _ inb.1, hdc⟩
  · obtain ⟨_, rfl⟩ := cmem e
    exact inb.2
  · unfold L2.start
    show List.length _ = N.length
    rw [List.length_append, List.length_map, List.length_replicate]
    omega
end
end DL

set_option Elab.async false
set_option linter.all false
set_option maxRecDepth 100000
set_option maxHeartbeats 4000000
/-! X2: super().__init__(..) as the first statement of such an __init__; the rule sup_of. -/
namespace DL
open PySem PySem.Spec PyProof.Rows L2 PySem.W PySem.Calls

/-- what the written part says for super() in the __init__ at f of the class at D, for an object of the class at C -/
structure SupK (P : Program) (K : Frag) (mg : Str → Option Value) (C D cda cc : Addr) (params : Arguments) (ar : Str) : Prop where
  head : ∃ a, (params.posonlyargs ++ params.args).head? = some a ∧ a.arg = ar
  code : ∃ ccl cdd vs ccs file tf, K.lookup cda = some ⟨ccl, cdd, .fields vs, ccs⟩ ∧ vs[2]? = some (.str file tf) ∧ ((P.main.file : Str) == file) = true
  cell : ∃ cl cld csl, K.lookup cc = some ⟨cl, cld, .cell (some (.ref D)), csl⟩
  cD : ∃ cdD, clsIn K D = some cdD
  sub : mroIn K C (.ref D) = some true
  opq : nsIn K cStatics "thirdparty.any" = some none
  sup : ks_superIn K C D "__init__" = some (some (.builtin "ValueError.__init__"))
  isB : subIn K (.ref C) (.type "ValueError") = some true
  top : (P.main.scope.names.lookup ("super" : Str)).isSome = false
  exC : OexC K C
  mgS : mg "super" = none
theorem clsIn_at {K : Frag} {h : Heap} {D : Addr} {cd : ClassData} (X : K.In h) (hD : clsIn K D = some cd) : ∃ oD, h.get? D = some oD ∧ oD.data = .cls cd := by
  unfold clsIn at hD
  split at hD
  · rename_i c d cd' sl ho
    cases hD
    exact ⟨_, X _ _ ho, rfl⟩
  · cases hD
section
variable {CX : CXT} {P : Program} {w : World} {K : PySem.W.Frag} {mg : Str → Option Value} {base : Heap} {N ps : List Str} {name qual : Str} {params : Arguments} {scope : Scope} {dV kV doc pm ct oc : Value} {an od : Option Addr} {osl : Array (Option Value)} {f cda cc C D a : Addr} {e : Expr} {es : List Expr} {rest body : List Stmt} {p0 p1 p2 p3 p4 : Pos} {ta : TA} {ar : Str}
/-- the method-wrapper called -/
theorem bw_call {X : Cx} {pins : List (Addr × Obj)} {σ : L2.St} {H : Hp} {s : Shared} {u : Addr} {us : List Value} {Q : Value → Shared → Prop} {E : Value → Shared → Prop} (T : OexC X.K C) (I : Inv X pins σ H s) (ea : H a = some (exo a C none)) (hu : s.heap.get? u = some (kxs_mw "ValueError.__init__" a)) (hl : us.length ≤ sizeLine)
    (h : ∀ s', Inv X pins σ H s' → Q .none s') : wpAny (model X.prog X.w) X.A (call (.ref u) us) Q E s := by
  obtain ⟨nm, q, N, bs, bm, sn, sub, ab, col, dd, k0, k1, k2, k3, k5, hC, hbm⟩ := T.cls
  obtain ⟨t1, ho⟩ := exo_at I.hok ea
  have hCC := I.kIn _ _ hC
  obtain ⟨hh, g, d, tk, os⟩ := s
  refine wpAny_call (codeAny_of_tree ?_)
  show wpAny _ X.A.in1 (callAny (.ref u) ⟨us, []⟩) _ _ _
  simp only [callAny]
  refine wpAny_bind (wpAny_load hu ?_)
  simp only [kxs_mw, show (Value.type "method-wrapper" == Value.type "method" || Value.type "method-wrapper" == Value.type "builtin_function_or_method" || Value.type "method-wrapper" == Value.type "method-wrapper") = true by decide, if_true]
  refine KFB.if_so (by decide) ?_
  refine wpAny_bind (check_bound_init F.excBase_ValueError.toExcCallFacts hCC ho rfl ?_)
  refine wpAny_bind (wpAny_pure (wpAny_pure ?_))
  refine ⟨plainId_quiet F.excBase_ValueError.init.plain _, codeAny_builtin F.excBase_ValueError.initEntry ?_⟩
  refine exc_init_tree (cls := .ref C) (t0 := t1) (dv := none) (c2 := .none) (c3 := .none) (b4 := .bool false) ho hl fun h' k hx _ => ?_
  have J := I.write (t' := tk) (x := a) (e := a) (o := exo a C none) (by rw [ea]; exact True.intro) (.inl rfl) k ⟨_, hx⟩ (exo_ok hx)
  have eu : upd H a (exo a C none) = H := by
    funext b
    by_cases hb : b = a
    · rw [hb, upd_same, ea]
    · rw [upd_ne hb]
  rw [eu] at J
  exact h _ J
theorem bw_with {M : Model} {A : Around} {s : Shared} {E : Value → Shared → Prop} {pos : Pos} {env : PySem.Env} {e : Expr} {rest : List Expr} {u x : Addr} {i : String} {Q : Value → Shared → Prop}
    (h : wpAny M A (spliced (backTo pos (starEach (e :: rest) env))) (fun vs s₁ => KxsAt i u x s₁.heap ∧ wpAny M A (call (.ref u) vs) Q E s₁) E s)
    (he : starEach (e :: rest) env = (false, eval e env) :: starEach rest env) (hplain : (backTo pos (starEach rest env)).any (·.1) = false) :
    wpAny M A (callWith pos (.ref u) [] (backTo pos (starEach (e :: rest) env)) []) Q E s := by
  rw [he] at h ⊢
  refine kxs_callWith (i := i) (x := x) (by show (false || (backTo pos (starEach rest env)).any (·.1)) = false; rw [hplain]; rfl) ?_
  exact evalArgs_plain h
theorem sup_first {pl : Sem Bool} {A : Around} {outer : List PySem.Env} {s0 : Shared} {H0 : Hp} {E0 : XK} {σ : L2.St} {H : Hp} {s : Shared} {Q : Flow → Shared → Prop} {R : Hp → Prop} (S : SupScope N ps scope)
    (lk : K.lookup f = some ⟨oc, od, .func (ksFn name qual params body scope dV kV doc pm an (.ref cda) ct cc), osl⟩) (F : SupK P K mg C D cda cc params ar) (h0 : N[0]? = some ar) (hcd : (ar == ("__debug__" : Str)) = false)
    (I : Inv (supCx CX P w K mg base N qual scope f cda cc A outer s0 H0 E0) [] σ H s) (hσ : σ[0]? = some (some (.ref a))) (ea : H a = some (exo a C none)) (ha : PA (supCx CX P w K mg base N qual scope f cda cc A outer s0 H0 E0) (e :: es) ta)
    (h : ta σ H fun ws H1 => ws.length ≤ 1000 ∧ H1 a = some (exo a C none) ∧ R H1) (hq : ∀ s' H1, Inv (supCx CX P w K mg base N qual scope f cda cc A outer s0 H0 E0) [] σ H1 s' → R H1 → Q .next s')
    (hplain : (backTo p3 (starEach es (supEnv qual scope s0.heap.objs.size f cda cc))).any (·.1) = false)
    (he : starEach (e :: es) (supEnv qual scope s0.heap.objs.size f cda cc) = (false, eval e (supEnv qual scope s0.heap.objs.size f cda cc)) :: starEach es (supEnv qual scope s0.heap.objs.size f cda cc))
    (hc : eval (.Call (.Attribute (.Call (.Name "super" p0) [] [] p1) "__init__" p2) (e :: es) [] p3) (supEnv qual scope s0.heap.objs.size f cda cc) = (do
      let ov ← attributeBase (.Call (.Name "super" p0) [] [] p1) "__init__" (supEnv qual scope s0.heap.objs.size f cda cc) (eval (.Call (.Name "super" p0) [] [] p1) (supEnv qual scope s0.heap.objs.size f cda cc))
      standAt p2.atName
      let (f1, first) ← holding [ov] (getMethod ov "__init__" pl)
      callWith p3 f1 first (backTo p3 (starEach (e :: es) (supEnv qual scope s0.heap.objs.size f cda cc))) []))
    (hi : interactive (supEnv qual scope s0.heap.objs.size f cda cc) = false)
    (hs : swapsWith (.Call (.Attribute (.Call (.Name "super" p0) [] [] p1) "__init__" p2) (e :: es) [] p3) none p4.line (supEnv qual scope s0.heap.objs.size f cda cc) = pure false) :
    _root_.PySem.wpAt (model P w) (A.deeper (supEnv qual scope s0.heap.objs.size f cda cc)) (.func body (supEnv qual scope s0.heap.objs.size f cda cc)) (exec (.Expr (.Call (.Attribute (.Call (.Name "super" p0) [] [] p1) "__init__" p2) (e :: es) [] p3) p4) (supEnv qual scope s0.heap.objs.size f cda cc)) Q
      (supCx CX P w K mg base N qual scope f cda cc A outer s0 H0 E0).xe s := by
  obtain ⟨hd1, hhead, harg⟩ := F.head
  obtain ⟨ccl, cdd, cvs, ccs, file, tf, hcode, hvs, hfile⟩ := F.code
  obtain ⟨cl, cld, csl, hcell⟩ := F.cell
  obtain ⟨cdD, hD⟩ := F.cD
  have X : K.In s.heap := I.kIn
  obtain ⟨oD, hD1, hD2⟩ := clsIn_at X hD
  obtain ⟨t1, ho⟩ := exo_at I.hok ea
  have hhs : ks_superIn K C D "__init__" = _ := F.sup
  obtain ⟨cdC, hC⟩ : ∃ cdC, clsIn K C = some cdC := by
    cases hc : clsIn K C with
    | none => unfold ks_superIn at hhs; rw [hc] at hhs; cases hhs
    | some cd => exact ⟨cd, rfl⟩
  have hsup : alongIn K "__init__" ((cdC.mro.dropWhile (· != .ref D)).drop 1) = some (some (.builtin "ValueError.__init__")) := by
    unfold ks_superIn at hhs
    rw [hC] at hhs
    exact hhs
  have haC : a ≠ C := by
    obtain ⟨nm, q, N', bs, bm, sn, sub, ab, col, dd, k0, k1, k2, k3, k5, hCl, hbm⟩ := F.exC.cls
    rintro rfl
    have := (I.bs _ _ (I.ok.mod.kin _ _ hCl)).2
    rw [ea] at this
    cases this
  refine ks_wpAt_Expr_any ?_ hi hs
  refine ks_wpAt_MethodCall (pl := pl) ?_ hc
  refine ks_wpAt_super_base (env := supEnv qual scope s0.heap.objs.size f cda cc) S.sup S.cls (by decide) rfl (X _ _ lk) rfl hhead rfl (X _ _ hcode) rfl hvs hfile F.top ?_
  have hlg : wpAny (model P w) (A.deeper (supEnv qual scope s0.heap.objs.size f cda cc)) (loadGlobal (supEnv qual scope s0.heap.objs.size f cda cc) "super") (fun v s' => v = .type "super" ∧ s' = s) (fun _ _ => False) s := by
    obtain ⟨mb, h1, h2⟩ := I.mod.blt
    exact Calls.loadGlobal_builtin (by show s.heap.Ns mainGlobals _; exact I.mod.glob.keeps I.bk) F.mgS (by show s.heap.Ns builtinsNs _; exact h1.keeps I.bk) ((h2 ("super" : Str) (by decide)).trans PyProof.Rows.Boot.«super») ⟨rfl, rfl⟩
  refine ks_loadName_global S.kind S.sup (wpAny_mono hlg (fun v s' hv => ?_) fun _ _ z => z.elim)
  obtain ⟨rfl, hv⟩ := hv
  rw [hv]
  clear hv s'
  refine ⟨rfl, ?_⟩
  refine wpAny_loadName_free S.kind S.cls (by show ([(("__class__" : Str), cc)] : List (Str × Addr)).lookup ("__class__" : Str) = some cc; simp [List.lookup]) ⟨_, X _ _ hcell, rfl⟩ ?_
  obtain ⟨m, hn, hl⟩ := I.loc
  have hloc : scope.names.lookup ar = some .local := S.par ar (by rw [← S.pre]; exact List.mem_of_getElem? h0)
  obtain ⟨u, r, l⟩ := hl 0 ar (.ref a) h0 hσ (.inl hloc)
  obtain rfl : u = Value.ref a := r
  rcases l with ⟨hk, hm⟩ | ⟨hk, c, hc, hcell'⟩
  rotate_left
  · rcases hk with hk | hk
    · rw [show scope.names.lookup ar = _ from hk] at hloc; cases hloc
    · rw [show scope.names.lookup ar = _ from hk] at hloc; cases hloc
  subst harg
  refine wpAny_loadName_local S.kind hloc hn hm ?_
  refine ks_wpAny_isType_cls hD1 hD2 ⟨rfl, ?_⟩
  obtain ⟨hh, g, d, t, os⟩ := s
  refine ks_wpAny_call_super hD1 hD2 ho rfl (fun c e => by cases e) (looks_mroIn X F.sub) (fun h' hso k => ?_)
  have I2 := I.kept (t' := t) k
  have X2 : K.In h' := I2.kIn
  have ho2 := k _ _ ho
  refine kxs_getMethod kxs_ValueError hso (looks_opaque X2 F.opq) (l₀ := cdC.mro) ?_ rfl X2 hsup ?_ haC (by decide) ?_
  · exact fun A Q E s k q => wpAny_bind ((looks_clsIn X2 hC) A _ E s k (wpAny_pure q))
  · have II : InstAt h' a { cls := .ref C, dict := none, data := .fields #[.ref t1, .none, .none, .none, .bool false, .none] } C none := ⟨ho2, rfl, rfl, trivial⟩
    exact II.type.andThen (looks_subIn X2 F.isB)
  have k3 : ∀ b o, h'.get? b = some o → (h'.push (kxs_mw "ValueError.__init__" a)).get? b = some o := fun b o e => Heap.get?_push_of_some _ e
  have I3 := I2.kept (t' := t + 1) k3
  have hu : (h'.push (kxs_mw "ValueError.__init__" a)).get? h'.objs.size = some (kxs_mw "ValueError.__init__" a) := Heap.get?_push_at rfl rfl
  have I4 := I3.pins_of (pins' := [(h'.objs.size, kxs_mw "ValueError.__init__" a)]) (fun p hp => by
    obtain rfl : p = _ := List.mem_singleton.mp hp
    refine ⟨hu, I2.hok.fresh (Nat.le_refl _), ?_, ?_, fun v z => by cases z⟩
    · exact Nat.ne_of_gt I2.lt
    · exact I2.nofs (Nat.le_refl _))
  refine bw_with (i := "ValueError.__init__") (x := a) ?_ he hplain
  refine thn (ha.run p3 _ _ σ H _ I4 h) fun us s1 ⟨ws, H1, I5, r1, hl, ea1, q⟩ => ?_
  have hp := (I5.pin (h'.objs.size, kxs_mw "ValueError.__init__" a) (List.mem_append_right _ (List.mem_singleton.mpr rfl))).1
  refine ⟨hp, ?_⟩
  refine bw_call F.exC I5 ea1 hp (by rw [← r1.length, sizeLine_eq]; omega) fun s' J => ?_
  exact hq s' H1 (J.pins_of fun p hp => absurd hp (by simp)) q
end
end DL

set_option Elab.async false
set_option linter.all false
set_option maxRecDepth 100000
set_option maxHeartbeats 4000000
/-! X3: THE RULE sup_of: the __init__ of an own error, its first statement super().__init__(..). -/
namespace DL
open PySem PySem.Spec PyProof.Rows L2 PySem.W PySem.Calls
theorem sup_of {CX : CXT} {P : Program} {w : World} {K : PySem.W.Frag} {mg : Str → Option Value} {base : Heap} {k : Nat} {f cda cc D : Addr} {name qual ar : Str} {params : Arguments} {e : Expr} {es : List Expr} {rest : List Stmt} {p0 p1 p2 p3 p4 : Pos} {scope : Scope} {dV kV doc pm ct oc : Value} {an od : Option Addr}
    {osl : Array (Option Value)} {N ps : List Str} {sp : Sp} {pl : Addr → Sem Bool}
    (lk : K.lookup f = some ⟨oc, od, .func (ksFn name qual params (.Expr (.Call (.Attribute (.Call (.Name "super" p0) [] [] p1) "__init__" p2) (e :: es) [] p3) p4 :: rest) scope dV kV doc pm an (.ref cda) ct cc), osl⟩)
    (hcd : codeIn K (.ref cda) qual = true) (S : SupScope N ps scope) (h0 : N[0]? = some ar) (hdb : (ar == ("__debug__" : Str)) = false)
    (len : ∀ vs H Q E, sp vs H Q E → vs.length = ps.length)
    (hp : ∀ L : Addr, (backTo p3 (starEach es (supEnv qual scope L f cda cc))).any (·.1) = false)
    (he : ∀ L : Addr, starEach (e :: es) (supEnv qual scope L f cda cc) = (false, eval e (supEnv qual scope L f cda cc)) :: starEach es (supEnv qual scope L f cda cc))
    (hc : ∀ L : Addr, eval (.Call (.Attribute (.Call (.Name "super" p0) [] [] p1) "__init__" p2) (e :: es) [] p3) (supEnv qual scope L f cda cc) = (do
      let ov ← attributeBase (.Call (.Name "super" p0) [] [] p1) "__init__" (supEnv qual scope L f cda cc) (eval (.Call (.Name "super" p0) [] [] p1) (supEnv qual scope L f cda cc))
      standAt p2.atName
      let (f1, first) ← holding [ov] (getMethod ov "__init__" (pl L))
      callWith p3 f1 first (backTo p3 (starEach (e :: es) (supEnv qual scope L f cda cc))) []))
    (hi : ∀ L : Addr, interactive (supEnv qual scope L f cda cc) = false)
    (hs : ∀ L : Addr, swapsWith (.Call (.Attribute (.Call (.Name "super" p0) [] [] p1) "__init__" p2) (e :: es) [] p3) none p4.line (supEnv qual scope L f cda cc) = pure false)
    (hbody : ∀ (A : Around) (outer : List PySem.Env) (s : Shared) (H : Hp) (vs : List V) (Q : VK) (E : XK), Room k (A.deeper (supEnv qual scope s.heap.objs.size f cda cc)) → sp vs H Q E →
      ∃ (a C : Addr) (ys : List V) (ta : TA) (t : TS), vs = .ref a :: ys ∧ SupK P K mg C D cda cc params ar ∧ H a = some (exo a C none) ∧ PA (supCx CX P w K mg base N qual scope f cda cc A outer s H E) (e :: es) ta ∧
        PSs (supCx CX P w K mg base N qual scope f cda cc A outer s H E) rest t ∧
        ta (L2.start N vs) H fun ws H1 => ws.length ≤ 1000 ∧ H1 a = some (exo a C none) ∧ t { nx := fun _ H' => Q .non H', rt := Q } (L2.start N vs) H1) :
    FnOk P w K mg base CX (k + 1) f (ksFn name qual params (.Expr (.Call (.Attribute (.Call (.Name "super" p0) [] [] p1) "__init__" p2) (e :: es) [] p3) p4 :: rest) scope dV kV doc pm an (.ref cda) ct cc) ps sp := by
  refine ⟨len, fun A outer s H args us vs Q E hr e0 hb r hsp => ?_⟩
  have hl := len _ _ _ _ hsp
  have KX : K.In s.heap := e0.mod.kin.keeps fun b o e => (e0.bs b o e).1
  have lim : s.heap.NoLimit := e0.mod.nolimit.keeps fun b o e => (e0.bs b o e).1
  obtain ⟨a, C, ys, ta, t, ev, F, ea, ha, ht, hq⟩ := hbody A outer s H vs Q E (hr.deeper _) hsp
  have hcb : ∃ o, base.get? cc = some o ∧ o.data = .cell (some (.ref D)) := by
    obtain ⟨cl, cld, csl, hcell⟩ := F.cell
    exact ⟨_, e0.mod.kin _ _ hcell, rfl⟩
  refine ks_codeAny_call_defAt (fd := ksFn name qual params (.Expr (.Call (.Attribute (.Call (.Name "super" p0) [] [] p1) "__init__" p2) (e :: es) [] p3) p4 :: rest) scope dV kV doc pm an (.ref cda) ct cc) hr.depth (KX _ _ lk) rfl lim (PySem.W.codeRec_of KX hcd) rfl hb (fun x hx => (S.only x hx).1)
    (fun y hy => S.par y.1 (List.of_mem_zip hy).1) (fun h₁ hns kp => ?_) S.co S.gen S.kind
  have I : Inv (supCx CX P w K mg base N qual scope f cda cc A outer s H E) [] (L2.start N vs) H { s with heap := h₁, toks := s.toks + (ps.zip us).length } := sup_start S hr.hd e0 hl r hcb hns kp
  have fin : ∀ {σ' : L2.St} {H' : Hp} {v : V} {u : Value} {s' : Shared}, Inv (supCx CX P w K mg base N qual scope f cda cc A outer s H E) [] σ' H' s' → L2.RelV v u → Q v H' → CE outer P w H s Q u s' :=
    fun {σ' H' v u s'} J rv q => ⟨v, H', J.os, J.bare, J.base, J.hok, rv, q⟩
  have hσ : (L2.start N vs)[0]? = some (some (.ref a)) := by
    rw [ev]
    rfl
  refine ks_wpAt_execs_cons (sup_first (R := fun H1 => t { nx := fun _ H' => Q .non H', rt := Q } (L2.start N vs) H1) S lk F h0 hdb I hσ ea ha hq (fun s' H1 J q => ?_) (hp _) (he _) (hc _) (hi _) (hs _))
  refine wpAt_of_wpAny (wpAny_mono (ht.run [] s' (L2.start N vs) H1 _ J q) (fun fl s'' hs => ?_) fun _ _ z => z)
  cases fl with
  | ret u =>
    obtain ⟨v, σ', H', J, rv, q⟩ := hs
    exact fin J rv q
  | next =>
    obtain ⟨σ', H', J, q⟩ := hs
    exact fin (v := V.non) (u := Value.none) J rfl q
  | brk =>
    obtain ⟨_, _, _, q⟩ := hs
    exact False.elim q
  | cont =>
    obtain ⟨_, _, _, q⟩ := hs
    exact False.elim q
end DL

set_option Elab.async false
set_option linter.all false
set_option maxRecDepth 100000
set_option maxHeartbeats 4000000
/-! X4: the __init__ of an own error with one field or two; what it keeps. -/
namespace DL
open PySem PySem.Spec PyProof.Rows L2 PySem.W PySem.Calls
/-- what the __init__ of the class at C keeps, under the names fs -/
def spInit (C : Addr) (fs : List Str) : Sp := fun vs H Q _ => ∃ a ys, vs = .ref a :: ys ∧ ys.length = fs.length ∧ H a = some (exo a C none) ∧ ∀ dx, H dx = none → dx ≠ a → Q .non (upd (upd H dx (exd dx (fs.zip ys).reverse)) a (exo a C (some dx)))
theorem upd_upd_swap {H : Hp} {dx a : Addr} {o1 o2 o3 : HO} (ne : dx ≠ a) : upd (upd (upd H dx o1) a o2) dx o3 = upd (upd H dx o3) a o2 := by
  funext b
  by_cases h1 : b = dx
  · subst h1
    rw [upd_same, upd_ne ne, upd_same]
  · rw [upd_ne h1]
    by_cases h2 : b = a
    · subst h2
      rw [upd_same, upd_same]
    · rw [upd_ne h2, upd_ne h2, upd_ne h1, upd_ne h1]
section
variable {P : Program} {w : World} {K : PySem.W.Frag} {mg : Str → Option Value} {base : Heap} {k : Nat} {f cda cc C D : Addr} {qual x y fl gl : Str} {st : Stmt} {p0 p1 p2 p3 p4 pa pb pc pd pe pf pg ph pi pj : Pos} {dV kV doc pm ct oc : Value} {an od : Option Addr} {osl : Array (Option Value)} {pl : Addr → Sem Bool}
theorem init1 (lk : K.lookup f = some ⟨oc, od, .func (ksFn "__init__" qual (defArgs st) (defBody st) (defScope st) dV kV doc pm an (.ref cda) ct cc), osl⟩) (hcd : codeIn K (.ref cda) qual = true)
    (hbd : defBody st = [.Expr (.Call (.Attribute (.Call (.Name "super" p0) [] [] p1) "__init__" p2) [.Name x pa] [] p3) p4, .Assign [.Attribute (.Name "self" pb) fl pc] (.Name x pd) pe])
    (S : SupScope ["self", x] ["self", x] (defScope st)) (F : SupK P K mg C D cda cc (defArgs st) "self") (hno : findIn K (.ref C) fl = some none)
    (hx1 : (x == ("__debug__" : Str)) = false) (hx2 : (x == ("__classdict__" : Str)) = false)
    (hc : ∀ L : Addr, eval (.Call (.Attribute (.Call (.Name "super" p0) [] [] p1) "__init__" p2) [.Name x pa] [] p3) (supEnv qual (defScope st) L f cda cc) = (do
      let ov ← attributeBase (.Call (.Name "super" p0) [] [] p1) "__init__" (supEnv qual (defScope st) L f cda cc) (eval (.Call (.Name "super" p0) [] [] p1) (supEnv qual (defScope st) L f cda cc))
      standAt p2.atName
      let (f1, first) ← holding [ov] (getMethod ov "__init__" (pl L))
      callWith p3 f1 first (backTo p3 (starEach [.Name x pa] (supEnv qual (defScope st) L f cda cc))) [])) :
    FnOk P w K mg base (L2.CX P w) (k + 1) f (ksFn "__init__" qual (defArgs st) (defBody st) (defScope st) dV kV doc pm an (.ref cda) ct cc) ["self", x] (spInit C [fl]) := by
  rw [hbd] at lk ⊢
  refine sup_of (D := D) (ar := "self") lk hcd S rfl (by decide) (fun vs H Q E ⟨a, ys, e, hl, _⟩ => by rw [e]; simpa using hl) (fun _ => rfl) (fun _ => rfl) hc (fun _ => by simp [interactive, S.kind]) (fun _ => rfl) ?_
  rintro A outer s H vs Q E hr ⟨a, ys, rfl, hl, ea, hq⟩
  match ys, hl with
  | [y1], _ =>
    refine ⟨a, C, [y1], _, _, rfl, F, ea, pa_cons (pe_var (i := 1) rfl (.inl (S.par x (by simp))) hx1 hx2) pa_nil, pss_one (ps_ost (pe_var (i := 0) rfl (.inl (S.par "self" (by simp)))) (pe_var (i := 1) rfl (.inl (S.par x (by simp))) hx1 hx2)), ?_⟩
    refine ⟨y1, rfl, ?_⟩
    refine ⟨by simp, ea, ?_⟩
    refine ⟨y1, rfl, .ref a, rfl, a, C, rfl, F.exC, hno, .inl ⟨ea, fun dx n ne => ?_⟩⟩
    exact hq dx n ne
theorem init2 (lk : K.lookup f = some ⟨oc, od, .func (ksFn "__init__" qual (defArgs st) (defBody st) (defScope st) dV kV doc pm an (.ref cda) ct cc), osl⟩) (hcd : codeIn K (.ref cda) qual = true)
    (hbd : defBody st = [.Expr (.Call (.Attribute (.Call (.Name "super" p0) [] [] p1) "__init__" p2) [.Name x pa, .Name y pf] [] p3) p4, .Assign [.Attribute (.Name "self" pb) fl pc] (.Name x pd) pe, .Assign [.Attribute (.Name "self" pg) gl ph] (.Name y pi) pj])
    (S : SupScope ["self", x, y] ["self", x, y] (defScope st)) (F : SupK P K mg C D cda cc (defArgs st) "self") (hno : findIn K (.ref C) fl = some none) (hno2 : findIn K (.ref C) gl = some none)
    (hx1 : (x == ("__debug__" : Str)) = false) (hx2 : (x == ("__classdict__" : Str)) = false) (hy1 : (y == ("__debug__" : Str)) = false) (hy2 : (y == ("__classdict__" : Str)) = false)
    (hc : ∀ L : Addr, eval (.Call (.Attribute (.Call (.Name "super" p0) [] [] p1) "__init__" p2) [.Name x pa, .Name y pf] [] p3) (supEnv qual (defScope st) L f cda cc) = (do
      let ov ← attributeBase (.Call (.Name "super" p0) [] [] p1) "__init__" (supEnv qual (defScope st) L f cda cc) (eval (.Call (.Name "super" p0) [] [] p1) (supEnv qual (defScope st) L f cda cc))
      standAt p2.atName
      let (f1, first) ← holding [ov] (getMethod ov "__init__" (pl L))
      callWith p3 f1 first (backTo p3 (starEach [.Name x pa, .Name y pf] (supEnv qual (defScope st) L f cda cc))) [])) :
    FnOk P w K mg base (L2.CX P w) (k + 1) f (ksFn "__init__" qual (defArgs st) (defBody st) (defScope st) dV kV doc pm an (.ref cda) ct cc) ["self", x, y] (spInit C [fl, gl]) := by
  rw [hbd] at lk ⊢
  refine sup_of (D := D) (ar := "self") lk hcd S rfl (by decide) (fun vs H Q E ⟨a, ys, e, hl, _⟩ => by rw [e]; simpa using hl) (fun _ => rfl) (fun _ => rfl) hc (fun _ => by simp [interactive, S.kind]) (fun _ => rfl) ?_
  rintro A outer s H vs Q E hr ⟨a, ys, rfl, hl, ea, hq⟩
  match ys, hl with
  | [y1, y2], _ =>
    refine ⟨a, C, [y1, y2], _, _, rfl, F, ea, pa_cons (pe_var (i := 1) rfl (.inl (S.par x (by simp))) hx1 hx2) (pa_cons (pe_var (i := 2) rfl (.inl (S.par y (by simp))) hy1 hy2) pa_nil),
      pss_cons (ps_ost (pe_var (i := 0) rfl (.inl (S.par "self" (by simp)))) (pe_var (i := 1) rfl (.inl (S.par x (by simp))) hx1 hx2)) (pss_one (ps_ost (pe_var (i := 0) rfl (.inl (S.par "self" (by simp)))) (pe_var (i := 2) rfl (.inl (S.par y (by simp))) hy1 hy2))), ?_⟩
    refine ⟨y1, rfl, y2, rfl, ?_⟩
    refine ⟨by simp, ea, ?_⟩
    refine ⟨y1, rfl, .ref a, rfl, a, C, rfl, F.exC, hno, .inl ⟨ea, fun dx n ne => ?_⟩⟩
    refine ⟨y2, rfl, .ref a, rfl, a, C, rfl, F.exC, hno2, .inr ⟨dx, [(fl, y1)], upd_same, by rw [upd_ne ne, upd_same], by simp, ?_⟩⟩
    have := hq dx n ne
    rw [upd_upd_swap ne]
    exact this
end
end DL

set_option Elab.async false
set_option linter.all false
set_option maxRecDepth 100000
set_option maxHeartbeats 4000000
/-! X5: raise X(..), X an own error. -/
namespace DL
open PySem PySem.Spec PyProof.Rows L2
def allD : List Wv → Option (List PyData)
  | [] => some []
  | .d x :: r => (allD r).map (x :: ·)
  | _ :: _ => none
theorem allD_reps {K : PySem.W.Frag} {ad : List Addr} {H : Hp} : ∀ {ws : List Wv} {vs : List V} {ds : List PyData}, RepWs K ad H vs ws → allD ws = some ds → Reps K H vs ds
  | [], _, _, .nil, e => by
    cases e
    exact .nil
  | .d x :: r, _, ds, .cons h t, e => by
    simp only [allD] at e
    cases q : allD r with
    | none => rw [q] at e; cases e
    | some l =>
      rw [q] at e
      cases e
      exact .cons h (allD_reps t q)
  | .own k :: r, _, ds, .cons h t, e => by cases e
theorem Paired.app {α β : Type} {R : α → β → Prop} : ∀ {l l' : List α} {m m' : List β}, Paired R l m → Paired R l' m' → Paired R (l ++ l') (m ++ m')
  | _, _, _, _, .nil, h => h
  | _, _, _, _, .cons h t, h' => .cons h (Paired.app t h')
theorem Paired.rev {α β : Type} {R : α → β → Prop} : ∀ {l : List α} {m : List β}, Paired R l m → Paired R l.reverse m.reverse
  | _, _, .nil => .nil
  | _, _, .cons h t => by
    rw [List.reverse_cons, List.reverse_cons]
    exact Paired.app (Paired.rev t) (.cons h .nil)
theorem zip_paired {K : PySem.W.Frag} {H : Hp} : ∀ {fs : List Str} {ys : List V} {ds : List PyData}, Reps K H ys ds → Paired (fun (p : Str × V) (q : Str × PyData) => p.1 = q.1 ∧ Rep K H p.2 q.2) (fs.zip ys) (fs.zip ds)
  | [], _, _, _ => .nil
  | f :: fs, _, _, .nil => .nil
  | f :: fs, _, _, .cons h t => .cons ⟨rfl, h⟩ (zip_paired t)
/-- an own error of the text: what it keeps, under the names fs -/
structure Er (P : Program) (w : World) (K : PySem.W.Frag) (mg : Str → Option Value) (base : Heap) (k : Nat) (x : Str) (fs : List Str) : Prop where
  ex : ∃ C fI fd ps, mg x = some (.ref C) ∧ OexC K C ∧ PySem.W.findIn K (.ref C) "__init__" = some (some (.ref fI)) ∧ PySem.W.typeIn K (.ref fI) = some (.type "function") ∧ FnOk P w K mg base (L2.CX P w) k fI fd ps (spInit C fs) ∧ Binds K fd ps []
  few : fs.length ≤ 1000
def sRaise (x : Str) (fs : List Str) (l : LF) : SF := fun ρ S => bindS (l ρ S) ρ fun ws S1 => match allD ws with
  | some ds => if ds.length = fs.length then .exc ⟨x, (fs.zip ds).reverse⟩ ρ S1 else .bad
  | none => .bad
theorem noPass {X : Cx} : Passes (L2.CX X.prog X.w) X (fun _ _ _ => False) := fun pins σ H s e s' I h => by
  obtain ⟨_, _, _, _, _, _, _, _, _, _, _, _, z⟩ := h
  exact z.elim
theorem ds_raise {X : Cx} {Wx : WX} {k : Nat} {x : Str} {fs : List Str} {e : Expr} {es : List Expr} {l : LF} {p pos pos' : Pos} (F : Er X.prog X.w X.K X.mg X.base k x fs) (hc : X.calm = true) (tk : Takes X Wx) (hr : Room (k + 1) X.A) (hg : Gl X x) (ha : DA X Wx (e :: es) l)
    (hdb : (x == ("__debug__" : Str)) = false := by decide) (he : starEach (e :: es) X.env = (false, eval e X.env) :: starEach es X.env := by rfl) (hpl : (backTo pos (starEach es X.env)).any (·.1) = false := by rfl) :
    DS X Wx (.Raise (some (.Call (.Name x p) (e :: es) [] pos)) none pos') (sRaise x fs l) := by
  obtain ⟨⟨C, fI, fd, ps, hm, T, iC, tI, F1, hb⟩, few⟩ := F
  refine PS.conv (ps_raise hc tk (pmk_oex T iC tI F1 hr hb .nil noPass hg hm ha hdb he hpl)) fun D σ H ⟨ad, ρ, S, sg, rs, q⟩ => ?_
  refine ⟨ad, ρ, S, sg, rs, post_mono (bindS_post sg q) ?_⟩
  rintro vs H1 ⟨ad1, ws, S1, fr, rel, rs1, q1⟩
  revert q1
  cases hd : allD ws with
  | none => exact fun z => z.elim
  | some ds =>
    intro q1
    dsimp only at q1
    split at q1
    · rename_i hl
      have rr := allD_reps rel hd
      have hvl := rr.length
      refine ⟨by omega, fun a na => ?_⟩
      refine ⟨a, vs, by simp, by omega, upd_same, fun dx n ne => ⟨rfl, dx, (fs.zip vs).reverse, upd_same, by rw [upd_ne ne, upd_same], by rw [upd_ne ne] at n; exact n, ?_⟩⟩
      have n1 : H1 dx = none := by rw [upd_ne ne] at n; exact n
      have eH : upd (L2.del (upd (upd (upd H1 a (exo a C none)) dx (exd dx (fs.zip vs).reverse)) a (exo a C (some dx))) a) dx (.xd (fs.zip vs).reverse) = upd H1 dx (.xd (fs.zip vs).reverse) := by
        funext b
        by_cases h1 : b = dx
        · subst h1
          rw [upd_same, upd_same]
        · rw [upd_ne h1, upd_ne h1]
          by_cases h2 : b = a
          · subst h2
            rw [L2.del_same, na]
          · rw [L2.del_ne h2, upd_ne h2, upd_ne h1, upd_ne h2]
      rw [eH]
      have ex : Ex H1 (upd H1 dx (.xd (fs.zip vs).reverse)) := Ex.new n1
      exact q1 (.ref C) (some dx) σ _ ad1 ex.fr ((sg.fr fr).fr ex.fr) ⟨C, hm, rfl, .inr ⟨dx, _, rfl, upd_same, Paired.rev (zip_paired (Reps.stb ex.stb ds rr))⟩⟩ (rs1.ex ex)
    · exact q1.elim
end DL

set_option Elab.async false
set_option linter.all false
set_option maxRecDepth 100000
set_option maxHeartbeats 4000000
/-! X6: x(lambda: e), x a def that calls what it got within a try. -/
namespace DL
open PySem PySem.Spec PyProof.Rows L2 LamX
section
variable {X : Cx} {pins : List (Addr × Obj)} {σ : L2.St} {H : Hp} {s : Shared}
/-- the lambda is made; all but the table stays -/
theorem lam_makeD {c P : Addr} {params : Arguments} {body : Expr} {scope : Scope} {pos : Pos} {E : Value → Shared → Prop} {Q : Value → Shared → Prop} (I : Inv X pins σ H s) (TB : TabB X.base X.mg c P) (hcode : X.env.code = .ref c)
    (hT : TabS H P (X.env.qual ++ "<lambda>")) (hdef : defaultsOf params X.env = ([], [])) (hfree : ∀ y ∈ scope.names, y.2 = .free → ∃ c, X.env.cells.lookup y.1 = some c)
    (h : ∀ (f c' : Addr) (pm ctv : Value) (H1 : Hp) (s' : Shared), Inv X pins σ H1 s' → (∀ b o, b ≠ P → H b = some o → H1 b = some o) → TabS H1 P (X.env.qual ++ "<lambda>") →
      s'.heap.get? f = some (PySem.W.kla_obj "<lambda>" (X.env.qual ++ "<lambda>") params body scope (cloFrom X.env.cells scope.names []) pm c' ctv) → H1 f = none → f ∉ frs X.stack → H1 c' = some (CodeO c' (X.env.qual ++ "<lambda>")) → Q (.ref f) s') :
    wpAny (model X.prog X.w) X.A (eval (.Lambda params body scope pos) X.env) Q E s := by
  obtain ⟨ps, hP, ht, ha⟩ := hT
  refine PySem.W.kla_eval hdef ?_
  have bP : s.heap.BuiltinsAt X.mg P := TB.bm.keeps I.bk
  have hP' : s.heap.get? P = some { cls := .none, data := .fields ps } := I.hok P _ hP
  have nofr : ∀ f, s.heap.objs.size ≤ f → f ∉ frs X.stack := fun f hf z => by
    rcases List.mem_cons.mp (I.stkSub _ z) with e | e
    · have h1 := I.lt
      rw [← e] at h1
      exact Nat.lt_irrefl _ (Nat.lt_of_lt_of_le h1 hf)
    · exact I.nofs hf e
  cases hc : codeAmong pos ps.toList with
  | none =>
    refine PySem.W.kla_makeFunction (mg := X.mg) (c := c) (P := P) (ps := ps) (closure_ok hfree) I.ok.glob (I.mod.glob.keeps I.bk) hcode (TB.code.keeps I.bk) hP' ht hc TB.gP bP fun c' ctv h' tk hx hge hlt hrec htb => ?_
    obtain ⟨c2, oc, vs, t, e2, hoc, hd, hv⟩ := hrec
    cases e2
    have nC : H c' = none := I.hok.fresh hge
    have hsz : s.heap.objs.size ≤ h'.objs.size := Nat.le_trans hge (Nat.le_of_lt hlt)
    have I1 := inv_table (t' := tk) (more := #[rawInt pos.line, rawInt pos.col, .ref c']) (h' := h'.push (PySem.W.kla_obj "<lambda>" (X.env.qual ++ "<lambda>") params body scope (cloFrom X.env.cells scope.names []) ((X.mg "__name__").getD .none) c' ctv)) I hP
      (fun b o hb e => Heap.get?_push_of_some _ (hx b o hb e)) (Heap.get?_push_of_some _ htb) hge ⟨oc, vs, t, Heap.get?_push_of_some _ hoc, hd, hv⟩
    have st : ∀ b o, b ≠ P → H b = some o → upd (upd H P (.tbl (ps ++ #[rawInt pos.line, rawInt pos.col, .ref c']))) c' (CodeO c' (X.env.qual ++ "<lambda>")) b = some o := fun b o hb e => by
      rw [upd_ne (ne_of_none e nC), upd_ne hb]
      exact e
    have eL : (ps ++ #[rawInt pos.line, rawInt pos.col, .ref c']).toList = ps.toList ++ [rawInt pos.line, rawInt pos.col, .ref c'] := by simp
    have neP : ∀ c0, H c0 = some (CodeO c0 (X.env.qual ++ "<lambda>")) → c0 ≠ P := fun c0 e z => by
      rw [z, hP] at e
      exact codeO_ne ps (Option.some.inj e).symm
    refine h h'.objs.size c' ((X.mg "__name__").getD .none) ctv _ _ I1 st ?_ (Heap.get?_push_size _ rfl) ?_ (nofr _ hsz) upd_same
    · refine ⟨_, by rw [upd_ne (ne_of_none hP nC), upd_same], by rw [eL]; exact PySem.TriplesOk_snoc _ _ _ _ ht, fun p' cv hcv => ?_⟩
      rw [eL] at hcv
      rcases among_app _ ht hcv with z | z
      · obtain ⟨c0, e1, e2⟩ := ha p' cv z
        exact ⟨c0, e1, st _ _ (neP c0 e2) e2⟩
      · exact ⟨c', z, upd_same⟩
    · have n1 : h'.objs.size ≠ c' := Nat.ne_of_gt hlt
      have n2 : h'.objs.size ≠ P := Nat.ne_of_gt (Nat.lt_of_lt_of_le (Heap.lt_size hP') hsz)
      rw [upd_ne n1, upd_ne n2]
      exact I.hok.fresh hsz
  | some cv =>
    obtain ⟨c', e, hco⟩ := ha pos cv hc
    subst e
    refine PySem.W.kla_makeFunctionHit (mg := X.mg) (c := c) (P := P) (ps := ps) (closure_ok hfree) I.ok.glob (I.mod.glob.keeps I.bk) hcode (TB.code.keeps I.bk) hP' ht hc bP fun ctv h' tk hx hsz => ?_
    have I1 : Inv X pins σ H { s with heap := h'.push (PySem.W.kla_obj "<lambda>" (X.env.qual ++ "<lambda>") params body scope (cloFrom X.env.cells scope.names []) ((X.mg "__name__").getD .none) c' ctv), toks := tk } := I.kept fun b o e => Heap.get?_push_of_some _ (hx b o e)
    exact h h'.objs.size c' ((X.mg "__name__").getD .none) ctv H _ I1 (fun _ _ _ e => e) ⟨ps, hP, ht, ha⟩ (Heap.get?_push_size _ rfl) (I.hok.fresh hsz) (nofr _ hsz) hco
/-- behind the making: the store stands -/
theorem fr_table {K : PySem.W.Frag} {ad : List Addr} {H1 : Hp} {S : Sto} {P : Addr} {q : Str} {k : Nat} (rs : RS K ad H S) (hk : S[k]? = some (.tab P q)) (st : ∀ b o, b ≠ P → H b = some o → H1 b = some o) (t1 : TabS H1 P q) : Fr ad H ad H1 ∧ RS K ad H1 S := by
  obtain ⟨a, hka, ea, hT⟩ := rs.ob k _ hk
  subst ea
  obtain ⟨ps, hP, _, _⟩ := hT
  have ne : ∀ b u, H b = some u → (∀ ps, u ≠ .tbl ps) → b ≠ a := fun b u e q z => by
    rw [z, hP] at e
    exact q ps (Option.some.inj e).symm
  have sb : Stb H H1 := fun b o hi e => st b o (ne b o e fun ps z => by rw [z] at hi; exact hi) e
  refine ⟨⟨⟨[], by simp⟩, fun b o e hb => .of (st b o (fun z => hb (z ▸ List.mem_of_getElem? hka)) e), fun _ h h' => absurd h h', sb⟩, rs.len, rs.nd, fun (j : Nat) (o : MO) e => ?_⟩
  obtain ⟨b, e1, e2⟩ := rs.ob j o e
  refine ⟨b, e1, ?_⟩
  cases o with
  | lst l =>
    obtain ⟨vs, h1, h2⟩ := e2
    exact ⟨vs, st _ _ (ne _ _ h1 fun ps z => by cases z) h1, Reps.stb sb l h2⟩
  | frz l =>
    obtain ⟨vs, o1, h1, h2⟩ := e2
    exact ⟨vs, o1, st _ _ (ne _ _ h1 fun ps z => by cases z) h1, Reps.stb sb l h2⟩
  | tab P' q' =>
    obtain ⟨eb, hT'⟩ := e2
    subst eb
    refine ⟨rfl, ?_⟩
    by_cases hb : b = a
    · subst hb
      have hj := nodup_at rs.nd hka e1
      subst hj
      rw [hk] at e
      cases e
      exact t1
    · obtain ⟨qs, h1, h2, h3⟩ := hT'
      refine ⟨qs, st _ _ hb h1, h2, fun pos cv hc => ?_⟩
      obtain ⟨c0, e1, e2⟩ := h3 pos cv hc
      exact ⟨c0, e1, sb _ _ trivial e2⟩
end
end DL

set_option Elab.async false
set_option linter.all false
set_option maxRecDepth 100000
set_option maxHeartbeats 4000000
/-! X7: x(lambda: e). -/
namespace DL
open PySem PySem.Spec PyProof.Rows L2 LamX
/-- the context of the def that gets the lambda -/
abbrev hCx (X : Cx) (Ng : List Str) (x : Str) (sg : Scope) (g : Addr) (cdg : Value) (s : Shared) (H : Hp) : Cx := cxOf C8.CX0 X.prog X.w X.K X.mg X.base Ng x sg g cdg X.A X.stack s H C8.E0
section
variable {X : Cx} {pins : List (Addr × Obj)} {σ : L2.St} {H : Hp} {s : Shared}
/-- the lambda is called, in the slots σ0 of the def that got it -/
theorem pe_actD {Ng : List Str} {qg : Str} {sg : Scope} {g f c' : Addr} {cdg pm ctv : Value} {params : Arguments} {body : Expr} {scope : Scope} {k i : Nat} {a : Str} {pn : List (Addr × Obj)} {xe : Value → Shared → Prop} {W : WX} {E : XK} {tb : TE} {p1 p2 : Pos} {σ0 : L2.St}
    (I : Inv X pins σ H s) (L : LamS X.env.scope scope) (hf : s.heap.get? f = some (PySem.W.kla_obj "<lambda>" (X.env.qual ++ "<lambda>") params body scope (cloFrom X.env.cells scope.names []) pm c' ctv)) (hfn : H f = none) (hfr : f ∉ frs X.stack)
    (hbind : bindArgs (PySem.W.kla_fn "<lambda>" (X.env.qual ++ "<lambda>") params body scope (cloFrom X.env.cells scope.names []) pm (.ref c') ctv) ⟨[], []⟩ = pure [])
    (tk : Takes ((hCx X Ng qg sg g cdg s H).tr pn xe) W) (hW : ∀ cls d H', E cls d H' → W cls d σ0 H') (hr : Room (k + 1) (X.A.deeper (envOfC qg sg s.heap.objs.size g cdg)))
    (hbody : ∀ (A : Around) (outer : List PySem.Env) (s : Shared) (H : Hp), Room k (A.deeper (lamEnv X scope s.heap.objs.size f c')) → PE (lamCx X A outer s H E scope f c') body tb)
    (hN : Ng[i]? = some a) (hv : Vis sg a) (hd : (a == ("__debug__" : Str)) = false := by decide) (hcd : (a == ("__classdict__" : Str)) = false := by decide) :
    PE ((hCx X Ng qg sg g cdg s H).tr pn xe) (.Call (.Name a p1) [] [] p2) (fun σZ HZ Q => σZ = σ0 ∧ σZ[i]? = some (some (.ref f)) ∧ HZ c' = some (CodeO c' (X.env.qual ++ "<lambda>")) ∧ tb σ HZ Q) := by
  refine ⟨fun pinsZ sZ σZ HZ Q IZ h => ?_⟩
  obtain ⟨e0, hs, hc, ht⟩ := h
  subst e0
  refine wpAny_Call_Name_kw (thn ((pe_var (pos := p1) (i := i) hN hv hd hcd).run pinsZ sZ σZ HZ (fun v H1 => v = .ref f ∧ H1 = HZ) IZ ⟨.ref f, hs, rfl, rfl⟩) fun u s1 ⟨v, H1, I1, r1, q1⟩ => ?_)
  obtain ⟨ev, eH⟩ := q1
  subst ev
  rw [eH] at I1
  obtain rfl : u = Value.ref f := r1
  have of1 : s1.heap.get? f = some (PySem.W.kla_obj "<lambda>" (X.env.qual ++ "<lambda>") params body scope (cloFrom X.env.cells scope.names []) pm c' ctv) := I1.base.keep f _ hf hfn hfr (fun z => nomatch (show f ∈ ([] : List Addr) from z))
  refine PySem.W.callWith_F0 ⟨_, _, _, _, of1⟩ ?_
  obtain ⟨⟨oc, vs, t, hoc, hdc, hvc⟩, _, _⟩ := I1.hok c' _ hc
  have rc : codeAny (model X.prog X.w) (X.A.deeper (envOfC qg sg s.heap.objs.size g cdg)) (.call (.ref f) ⟨[], []⟩) (CR (L2.CX X.prog X.w) (envOfC qg sg s.heap.objs.size g cdg :: X.stack) X.prog X.w HZ s1 Q E) s1 := by
    refine PySem.W.kla_callFunE hr.depth of1 rfl L.co L.gen rfl ⟨c', oc, vs, t, rfl, hoc, hdc, hvc⟩ ?_
    rw [hbind]
    refine wpAny_pure (wpAny_newFunctionEnv (fun y hy => (L.own y hy).2) (fun y hy => absurd hy (by simp)) (fun h₁ hns hsb => ⟨I1.nolimit.fresh _ hsb, ?_⟩) L.kind)
    have J : Inv (lamCx X (X.A.deeper (envOfC qg sg s.heap.objs.size g cdg)) (envOfC qg sg s.heap.objs.size g cdg :: X.stack) s1 HZ E scope f c') [] σ HZ { s1 with heap := h₁, toks := s1.toks + ([] : List (Str × Value)).length } :=
      lam_start2 I L I1.env0 hr.hd I1.base hns fun b o e => hsb.extBut b o (Nat.ne_of_lt (Heap.lt_size e)) (Heap.get?_push_of_some _ e)
    refine PySem.W.kla_codeExpr (wpAny_mono ((hbody _ _ s1 HZ (hr.deeper _)).run [] _ _ HZ Q J ht) (fun v s' hq => ?_) fun e s' hq => hq)
    obtain ⟨w', H', J', rv, q⟩ := hq
    exact ⟨w', H', J'.os, J'.bare, J'.base, J'.hok, rv, q⟩
  refine wpAny_call (codeAny_mono rc fun r s' hq => ?_)
  cases r with
  | error e => exact tk e s' (XE.of_call I1 hW hq)
  | ok fl =>
    cases fl with
    | ret u => exact I1.after hq
    | next => exact False.elim hq
    | brk => exact False.elim hq
    | cont => exact False.elim hq
end
abbrev TTh := (Sto → Rs Wv) → Sto → Rs Wv
/-- the def x (its one parameter a) makes TT of what it got -/
def GivesD (X : Cx) (Ng : List Str) (x : Str) (sg : Scope) (g : Addr) (cdg : Value) (bg : List Stmt) (a : Str) (q : Str) (TT : TTh) : Prop :=
  ∀ (f c' : Addr) (s : Shared) (H : Hp) (Q : VK) (ad : List Addr) (S : Sto) (th : Sto → Rs Wv) (tl : XK → Hp → VK → Prop), RS X.K ad H S →
    (∀ (W : WX) (pn : List (Addr × Obj)) (xe : Value → Shared → Prop) (E : XK) (p1 p2 : Pos), Takes ((hCx X Ng x sg g cdg s H).tr pn xe) W → (∀ cls d H', E cls d H' → W cls d (L2.start Ng [.ref f]) H') →
      PE ((hCx X Ng x sg g cdg s H).tr pn xe) (.Call (.Name a p1) [] [] p2) (fun σZ HZ Q => σZ = L2.start Ng [.ref f] ∧ σZ[0]? = some (some (.ref f)) ∧ HZ c' = some (CodeO c' q) ∧ tl E HZ Q)) →
    H c' = some (CodeO c' q) → (∀ E Q', post X.K X.mg (fun cls d _ H' => E cls d H') [] ad H (RepW X.K) (th S) Q' → tl E H Q') → post X.K X.mg W0 [] ad H (RepW X.K) (TT th S) Q →
    ∃ t, PSs (hCx X Ng x sg g cdg s H).nox bg t ∧ t { nx := fun _ H' => Q .non H', rt := Q } (L2.start Ng [.ref f]) H
def hasTab (S : Sto) (P : Addr) (q : Str) : Bool := S.any fun o => match o with
  | .tab P' q' => decide (P' = P) && decide (q' = q)
  | _ => false
theorem hasTab_at {S : Sto} {P : Addr} {q : Str} (h : hasTab S P q = true) : ∃ k : Nat, S[k]? = some (MO.tab P q) := by
  unfold hasTab at h
  obtain ⟨o, ho, h⟩ := List.any_eq_true.mp h
  cases o with
  | tab P' q' =>
    simp at h
    obtain ⟨k, hk, e⟩ := List.mem_iff_getElem.mp ho
    exact ⟨k, by rw [List.getElem?_eq_getElem hk, e, h.1, h.2]⟩
  | lst l => simp at h
  | frz l => simp at h
def eLam (P : Addr) (q : Str) (TT : TTh) (fl : EF) : EF := fun ρ S => if hasTab S P q = true then match TT (fun S' => fl ρ S') S with
  | .ok w S' => .ok w S'
  | _ => .bad else .bad
section
variable {X : Cx} {Wx : WX}
theorem de_lam {TT : TTh} {x a q : Str} {g c P : Addr} {k : Nat} {pg : Arguments} {bg : List Stmt} {sg : Scope} {dV kV doc pm cdv ct oc : Value} {an od : Option Addr} {osl : Array (Option Value)} {Ng : List Str}
    {params : Arguments} {body : Expr} {scope : Scope} {fl : EF} {p lpos pos : Pos} (hg : Gl X x) (hm : X.mg x = some (.ref g)) (hk : PySem.W.keepIn X.K (.ref g) = true)
    (lk : X.K.lookup g = some ⟨oc, od, .func (PySem.W.fnOf x x pg bg sg dV kV doc pm an cdv ct), osl⟩) (hcg : PySem.W.codeIn X.K cdv x = true) (hb : L2.Binds X.K (PySem.W.fnOf x x pg bg sg dV kV doc pm an cdv ct) [a] []) (Sg : FnScope Ng [a] sg) (hNg : Ng[0]? = some a) (hva : Vis sg a)
    (hq : X.env.qual ++ "<lambda>" = q) (hG : GivesD X Ng x sg g cdv bg a q TT)
    (TB : TabB X.base X.mg c P) (hcode : X.env.code = .ref c) (hr : Room (k + 2) X.A) (L : LamS X.env.scope scope) (hdef : defaultsOf params X.env = ([], []))
    (hbind : ∀ (q : Str) (cl : List (Str × Addr)) (pm cv ctv : Value), bindArgs (PySem.W.kla_fn "<lambda>" q params body scope cl pm cv ctv) ⟨[], []⟩ = pure [])
    (hbody : ∀ (A : Around) (outer : List PySem.Env) (s : Shared) (H : Hp) (E : XK) (f c' : Addr), Room k (A.deeper (lamEnv X scope s.heap.objs.size f c')) → DE (lamCx X A outer s H E scope f c') (fun cls d _ H => E cls d H) body fl)
    (hdb : (x == ("__debug__" : Str)) = false := by decide) (hd : (a == ("__debug__" : Str)) = false := by decide) (hcd : (a == ("__classdict__" : Str)) = false := by decide) :
    DE X Wx (.Call (.Name x p) [.Lambda params body scope lpos] [] pos) (eLam P q TT fl) := by
  subst hq
  refine ⟨fun pins s σ H Q I ⟨ad, ρ, S, sg', rs, qq⟩ => ?_⟩
  unfold eLam at qq
  split at qq
  · rename_i ht
    obtain ⟨j, hj⟩ := hasTab_at ht
    obtain ⟨P', hka, eP, hT⟩ := rs.ob j _ hj
    refine wpAny_Call_Name_kw (ld_glob I hg hm ?_ hdb)
    refine PySem.W.callWith_K (h₀ := X.base) I.ok.mod.kin hk ?_ (by rfl) (by rfl)
    show wpAny _ _ (spliced ((false, eval (.Lambda params body scope lpos) X.env) :: backTo pos (starEach [] X.env))) _ _ s
    refine Calls.spliced_cons (lam_makeD I TB hcode hT hdef (L.has I.ok) fun f c' pm' ctv H1 s' I1 st T1 hf hfn hfr hco => ?_)
    obtain ⟨fr1, rs1⟩ := fr_table rs hj st T1
    refine Calls.spliced_nil ⟨I1.kIn, ?_⟩
    have rc : codeAny (model X.prog X.w) X.A (.call (.ref g) ⟨[.ref f], []⟩) (CR C8.CX0 X.stack X.prog X.w H1 s' Q C8.E0) s' := by
      refine run_ofS (N := Ng) (ps := [a]) (us := [.ref f]) (vs := [.ref f]) lk hcg Sg hr I1.env0 (hb s' [.ref f] I1.kIn rfl) (.cons rfl .nil) rfl fun hr' => ?_
      obtain ⟨t', ht', hq'⟩ := hG f c' s' H1 Q ad S (fun S' => fl ρ S') (fun E HZ Q' => tD X.K X.mg (fun cls d _ H => E cls d H) fl σ HZ Q') rs1
        (fun W pn xe E p1 p2 tk hW => pe_actD (i := 0) I1 L hf hfn hfr (hbind _ _ _ _ _) tk hW hr' (fun A outer s H hr2 => hbody A outer s H E f c' hr2) hNg hva hd hcd) hco
        (fun E Q' hp => ⟨ad, ρ, S, sg'.fr fr1, rs1, by
          revert hp
          cases fl ρ S <;> exact fun z => z⟩) (by
          revert qq
          cases TT (fun S' => fl ρ S') S with
          | bad => exact fun z => z
          | exc x S' => exact fun z => z.elim
          | ok w S' => exact fun z v H' ad' fr r rs' => z v H' ad' (fr1.trans fr) r rs')
      exact ⟨t', ht'.nox, hq'⟩
    refine wpAny_call (codeAny_mono rc fun r s2 hq => ?_)
    cases r with
    | error e => exact (show False from hq).elim
    | ok fl =>
      cases fl with
      | ret u => exact I1.after hq
      | next => exact False.elim hq
      | brk => exact False.elim hq
      | cont => exact False.elim hq
  · exact qq.elim
end
end DL

set_option Elab.async false
set_option linter.all false
set_option maxRecDepth 100000
set_option maxHeartbeats 4000000
/-! X8: try: return ('told', act()) except C as e: return ('w', e.f). -/
namespace DL
open PySem PySem.Spec PyProof.Rows L2 LamX
theorem lookup_paired {K : PySem.W.Frag} {H : Hp} {f : Str} {d : PyData} : ∀ {fs : List (Str × V)} {xs : List (Str × PyData)}, Paired (fun (p : Str × V) (q : Str × PyData) => p.1 = q.1 ∧ Rep K H p.2 q.2) fs xs → xs.lookup f = some d → ∃ v, fs.lookup f = some v ∧ Rep K H v d
  | _, _, .nil, e => by cases e
  | (g, v) :: fs, (g', y) :: xs, .cons h t, e => by
    obtain ⟨h1, h2⟩ := h
    have h1 : g = g' := h1
    subst h1
    simp only [List.lookup] at e ⊢
    split at e
    · cases e
      exact ⟨_, rfl, h2⟩
    · exact lookup_paired t e
/-- told: ('w1', what it gave), or ('w2', the field of the error that is heard) -/
def tt1 (w1 C w2 f : Str) : TTh := fun th S => match th S with
  | .bad => .bad
  | .ok w S1 => match w with
    | .d x => .ok (.d (.tuple [.str w1, x])) S1
    | _ => .bad
  | .exc x S1 => if x.c = C then match x.fs.lookup f with
    | some d => .ok (.d (.tuple [.str w2, d])) S1
    | none => .bad
    else .bad
section
variable {X : Cx}
theorem gives1 {x a n e q w1 w2 fl : Str} {sg : Scope} {g CS : Addr} {cdg : Value} {j1 j2 : Nat} {x1 x2} {p1 p2 p3 p4 p5 p6 p7 p8 p9 p10 p11 p12 p13 : Pos} (hnd : [a, n].Nodup) (hge : sg.names.lookup e = some .globalImplicit) (hme : X.mg e = some (.ref CS)) (hde : (e == ("__debug__" : Str)) = false) (hn : sg.names.lookup n = some .local)
    (hn1 : (n == ("__debug__" : Str)) = false) (hn2 : (n == ("__classdict__" : Str)) = false) (T : XfC X.K CS) (hno : PySem.W.findIn X.K (.ref CS) fl = some none) (hx : PySem.W.exmOne X.K (.ref CS) (.ref CS) = some true) (g1 : strG w1 = true) (g2 : strG w2 = true) :
    GivesD X [a, n] x sg g cdg [.Try [.Return (some (.Tuple [.Constant (.str w1) j1 p1, .Call (.Name a p2) [] [] p3] x1 p4)) p5] [.ExceptHandler (some (.Name e p6)) (some n) [.Return (some (.Tuple [.Constant (.str w2) j2 p7, .Attribute (.Name n p8) fl p9] x2 p10)) p11] p12] [] [] p13] a q (tt1 w1 e w2 fl) := by
  intro f c' s H Q ad S th tl rs act hc htl hq
  have hgl : Gl (hCx X [a, n] x sg g cdg s H).nox e := hge
  refine ⟨_, pss_one (ps_try_as (X := (hCx X [a, n] x sg g cdg s H).nox) (c := .ref CS) (i := 1) (Wout := W0)
      (tb := fun W D σ H => ∃ Ech : XK, (∀ cls d H', Ech cls d H' → W cls d (L2.start [a, n] [V.ref f]) H') ∧ σ = L2.start [a, n] [V.ref f] ∧ H c' = some (CodeO c' q) ∧ tl Ech H fun v H1 => [V.str w1, v].length ≤ sizeLine ∧ ∀ p, H1 p = none → D.rt (.ref p) (upd H1 p (.tup [.str w1, v])))
      rfl rfl hnd rfl hn ⟨hgl, hde, .inl hme⟩ LamX.takes0 (fun W pn xe tk _ => ?_) (fun a oe cls d pn hz hf => pss_one (ps_ret (pe_tup (pa_cons pe_str (pa_cons (pe_xf T hno hz hf (pe_var (i := 1) rfl (.inl hn) hn1 hn2)) pa_nil)))))), ?_⟩
  · refine ⟨fun pins s' σ H' D I h' => ?_⟩
    obtain ⟨Ech, hW, h1, h2, h3⟩ := h'
    have hp := act W pn xe Ech p2 p3 tk hW
    have hr := pss_one (ps_ret (pos := p5) (pe_tup (x1 := x1) (pos := p4) (pa_cons (pe_str (x := w1) (j := j1) (pos := p1)) (pa_cons hp pa_nil))))
    exact hr.run pins s' σ H' D I ⟨h1, by rw [h1]; rfl, h2, h3⟩
  · have hsz : ∀ u v : V, [u, v].length ≤ sizeLine := fun u v => by show 2 ≤ sizeLine; decide
    refine ⟨_, fun cls d H' h => h, rfl, hc, htl _ _ ?_⟩
    revert hq
    unfold tt1
    cases th S with
    | bad => exact fun z => z
    | ok w S1 =>
      cases w with
      | own k => exact fun z => z.elim
      | fn _ _ _ => exact fun z => z.elim
      | d y =>
        intro hq v H' ad' fr r rs'
        refine ⟨hsz _ _, fun p hp => ?_⟩
        have ex : Ex H' (upd H' p (.tup [.str w1, v])) := Ex.new hp
        exact hq _ _ ad' (fr.trans ex.fr) (.tup (SqT.of upd_same) (.cons (.str _ g1) (.cons (Rep.stb ex.stb _ r) .nil))) (rs'.ex ex)
    | exc y S1 =>
      intro hq cls d H' ad' fr xr rs'
      dsimp only at hq
      split at hq
      · rename_i hy
        obtain ⟨C, hm, rfl, hf⟩ := xr
        rw [hy, hme] at hm
        cases hm
        refine ⟨true, hx, fun _ a' na => ?_, fun z => by cases z⟩
        cases hl : y.fs.lookup fl with
        | none => rw [hl] at hq; exact hq.elim
        | some dv =>
          rw [hl] at hq
          rcases hf with hf | ⟨dd, fs, ed, hdd, hp⟩
          · rw [hf] at hl
            cases hl
          · obtain ⟨v, e1, e2⟩ := lookup_paired hp hl
            refine ⟨.ref a', rfl, rfl, rfl, dd, fs, v, ed, hdd, e1, hsz _ _, fun p hp' => ?_⟩
            have ex : Ex H' (upd H' p (.tup [.str w2, v])) := Ex.new hp'
            exact hq _ _ ad' (fr.trans ex.fr) (.tup (SqT.of upd_same) (.cons (.str _ g2) (.cons (Rep.stb ex.stb _ e2) .nil))) (rs'.ex ex)
      · exact hq.elim
end
end DL

set_option Elab.async false
set_option linter.all false
set_option maxRecDepth 100000
set_option maxHeartbeats 4000000
/-! X9: the end of a law with lambdas. -/
namespace DL
open PySem PySem.Spec PyProof.Rows L2 LamX
theorem un_freeze {fs : List Addr} {H : Hp} {h : Heap} {a : Addr} {vs : List V} {o : Obj} (e : H a = some (.lst vs)) : Un fs [] H (upd H a (.frz o (.lst vs))) h h := by
  have ne : ∀ {b : Addr} {u : HO}, H b = some u → (∀ xs, u ≠ .lst xs) → b ≠ a := fun {b u} hb hn z => by
    subst z
    rw [e] at hb
    cases hb
    exact hn _ rfl
  refine ⟨fun b o q _ _ _ => q, fun b o q _ _ _ => ⟨o.slots, q⟩, fun b o q hn _ => ?_, fun b o q _ => ⟨o, q⟩, fun b xs q => ?_, fun b o u q => ?_, fun b ps q => ⟨#[], ?_⟩⟩
  · have : b ≠ a := fun z => by subst z; rw [e] at hn; cases hn
    rw [upd_ne this]; exact hn
  · rw [upd_ne (ne q fun _ z => nomatch z)]; exact q
  · rw [upd_ne (ne q fun _ z => nomatch z)]; exact q
  · rw [upd_ne (ne q fun _ z => nomatch z), q]; simp
theorem hok_freeze {P : Program} {w : World} {H : Hp} {h : Heap} {a : Addr} {vs : List V} (ok : HOk P w H h) (e : H a = some (.lst vs)) : ∃ o, HOk P w (upd H a (.frz o (.lst vs))) h := by
  obtain ⟨z, its, n, rv, e2⟩ := id (ok a _ e)
  refine ⟨{ cls := .type "list", data := .seq its.toArray n }, fun b u q => ?_⟩
  by_cases hb : b = a
  · subst hb
    rw [upd_same] at q
    cases q
    exact ⟨e2, z, its, n, rv, e2⟩
  · rw [upd_ne hb] at q
    refine (ok b u q).stay (fun _ _ _ q => q) (fun c hc => ?_) fun c xs hc => ?_
    · have : c ≠ a := fun z => by rw [z, e] at hc; cases hc
      rw [upd_ne this]; exact hc
    · have : c ≠ a := fun z => by rw [z, e] at hc; cases hc
      rw [upd_ne this]; exact hc
/-- a changing list is locked ahead of the def -/
theorem fn_freeze {P : Program} {w : World} {K : PySem.W.Frag} {mg : Str → Option Value} {base : Heap} {k : Nat} {f : Addr} {fd : FuncData} {ps : List Str} {sp sp' : Sp} (F : FnOk P w K mg base (L2.CX P w) k f fd ps sp)
    (h : ∀ vs H Q E, sp' vs H Q E → sp vs H Q (fun _ _ _ => False) ∨ ∃ a xs, H a = some (.lst xs) ∧ vs.length = ps.length ∧ ∀ o, sp vs (upd H a (.frz o (.lst xs))) Q (fun _ _ _ => False)) : FnOk P w K mg base (L2.CX P w) k f fd ps sp' := by
  refine ⟨fun vs H Q E hs => ?_, fun A outer s H args us vs Q E hr e0 hb r hs => ?_⟩
  · rcases h vs H Q E hs with h | ⟨_, _, _, hl, _⟩
    · exact F.len _ _ _ _ h
    · exact hl
  · have noX : ∀ {H : Hp} {e : Value} {s' : Shared}, L2.CX P w outer H s (fun _ _ _ => False) e s' → False := fun ⟨_, _, _, _, _, _, _, _, _, _, _, _, z⟩ => z
    rcases h vs H Q E hs with h | ⟨a, xs, ha, hl, h⟩
    · refine codeAny_mono (F.run A outer s H args us vs Q _ hr e0 hb r h) fun res s' hq => ?_
      cases res with
      | error e => exact (noX hq).elim
      | ok fl => cases fl <;> exact hq
    · obtain ⟨o, hok⟩ := hok_freeze e0.hok ha
      have e1 : Env0 P w K mg base A outer s (upd H a (.frz o (.lst xs))) := ⟨e0.frames, e0.mod, fun b ob e => by
          obtain ⟨h1, h2⟩ := e0.bs b ob e
          refine ⟨h1, ?_⟩
          rw [upd_ne (fun z => by rw [z, ha] at h2; cases h2)]
          exact h2, e0.bsz, e0.funs, fun b hb => by
          have h2 := e0.frf b hb
          rw [upd_ne (fun z => by rw [z, ha] at h2; cases h2)]
          exact h2, hok, e0.bare⟩
      refine codeAny_mono (F.run A outer s _ args us vs Q _ hr e1 hb r (h o)) fun res s' hq => ?_
      cases res with
      | error e => exact (noX hq).elim
      | ok fl =>
        cases fl with
        | ret u =>
          obtain ⟨v, H', os, bare, un, hok', r', q⟩ := hq
          exact ⟨v, H', os, bare, (un_freeze ha).trans un, hok', r', q⟩
        | next => exact hq
        | brk => exact hq
        | cont => exact hq
def spLawT (K : PySem.W.Frag) (P : Addr) : Sp := fun vs H Q _ => ∃ (a : Addr) (ns : List Int), vs = [.ref a] ∧ SqL K H a (ns.map V.int) ∧ H P = some (.tbl #[]) ∧ ns.length ≤ 63 ∧ (∀ z ∈ ns, Builtin.Int.intBits z ≤ 1048576) ∧ ∀ H', Q (.bl true) H'
theorem law_fnT {Pr : Program} {w : World} {K : PySem.W.Frag} {mg : Str → Option Value} {base : Heap} {k : Nat} {f P : Addr} {qn : Str} {fd : FuncData} {ps : List Str} {sem : FD} (h1 : ps.length = 1) (F : FnOk Pr w K mg base (L2.CX Pr w) k f fd ps (spD K mg 1 sem))
    (hl : ∀ ns : List Int, ns.length ≤ 63 → (∀ z ∈ ns, Builtin.Int.intBits z ≤ 1048576) → sem [.d (.list (ns.map PyData.int))] [.tab P qn] = .ok (.d (.bool true)) [.tab P qn]) : FnOk Pr w K mg base (L2.CX Pr w) k f fd ps (spLawT K P) := by
  refine fn_freeze F fun vs H Q E h => ?_
  obtain ⟨a, ns, rfl, hf, hP, hn, hb, q⟩ := h
  have go : ∀ H' : Hp, FzL K H' a (ns.map V.int) → H' P = some (.tbl #[]) → spD K mg 1 sem [.ref a] H' Q (fun _ _ _ => False) := fun H' hf' hP' => by
    refine ⟨rfl, [P], [.d (.list (ns.map PyData.int))], [.tab P qn], .cons (.lst hf' (reps_ints ns)) .nil, ⟨rfl, by simp, fun (j : Nat) (o : MO) e => ?_⟩, ?_⟩
    · have hj : j = 0 := by
        have := (List.getElem?_eq_some_iff.mp e).1
        simp at this
        exact this
      subst hj
      simp at e
      subst e
      exact ⟨P, rfl, rfl, TabS.nil hP'⟩
    · rw [hl ns hn hb]
      intro v H'' ad' fr r rs
      cases r
      exact q H''
  rcases hf with (hf | ⟨o, hf⟩) | hf
  · refine .inr ⟨a, _, hf, by rw [h1]; rfl, fun o => go _ (.inl ⟨o, upd_same⟩) ?_⟩
    rw [upd_ne (fun z => by rw [z, hf] at hP; cases hP)]
    exact hP
  · exact .inl (go H (.inl ⟨o, hf⟩) hP)
  · exact .inl (go H (.inr hf) hP)
theorem walkDT {l : PySem.W.OpenLaw} {k : Nat} {q : Program} {loose : List Str} {XP : (Str → Option Value) → Heap → Prop} {YP : World → Heap → Prop} {d : DefRec} {K : Params → PySem.W.Frag} {c P : Addr} (hn : l.most = some 63) (hdf : d.params.defaults = []) (hr : Room k callerA)
    (hY : ∀ (w : World) (h : Heap), YP w h → (K w.params).In h) (hrec : (PyProof.Rows.recsOf q).find? (fun e => e.name == d.name) = some d) (htab : ∀ w : World, PySem.W.tabIn (K w.params) d.name = some (c, P)) (hno : ∀ w : World, (K w.params).lookup P = none)
    (F : ∀ (w : World) (mg : Str → Option Value) (fa : Addr) (h : Heap), (K w.params).In h → h.Ns mainGlobals mg → mg d.name = some (.ref fa) →
      ∃ fd : FuncData, (∀ (s : Shared) (u : Value), BindsTo s fd ⟨[u], []⟩ [("script", u)]) ∧ ∀ base : Heap, (K w.params).In base → base.Ns mainGlobals mg → TabB base mg c P → FnOk l.prog w (K w.params) mg base (L2.CX l.prog w) k fa fd ["script"] (spLawT (K w.params) P)) :
    PySem.W.WalkO q loose XP YP l.row.toRowW d [] (fun f vs => PySem.call f vs) := by
  refine Att.attach_callB hn hdf fun w s₀ s₁ mg mb fa o pm cd doc a vs ns G Y ho hd hcd hmg hobj hints hlen hbits hg => ?_
  have KX := hY w _ Y
  obtain ⟨fd, hb, hF⟩ := F w mg fa _ KX G.T.g hmg
  obtain ⟨C, hT⟩ := PySem.W.tab_of G.T KX hrec (htab w)
  refine law_callTs (cs := [(c, P)]) KX G.T.g G.T.b G.T.builtins G.T.nolimit hg (fun p hp => ?_) (fun p hp => ?_) (fun p hp => ?_) G.T.bmain hobj hints (Nat.le_trans hlen (by decide)) hr (fun base h1 h2 h3 => hF base h1 h2 (h3 _ (List.mem_singleton.mpr rfl))) hb
    (fun H hH hS => ⟨a, ns, rfl, hS, hH _ (List.mem_singleton.mpr rfl), hlen, hbits, fun _ => rfl⟩) fun H e s' z => noCX z
  · obtain rfl := List.mem_singleton.mp hp
    exact hT
  · obtain rfl := List.mem_singleton.mp hp
    exact hno w
  · obtain rfl := List.mem_singleton.mp hp
    exact C
end DL

set_option Elab.async false
set_option linter.all false
set_option maxRecDepth 100000
set_option maxHeartbeats 4000000
/-! X10: own errors and lambdas' defs, from the facts of the written part. -/
namespace DL
open PySem PySem.Spec PyProof.Rows L2 LamX PySem.W
/-- the code object at cda is of the program's own file -/
def fileIn (P : Program) (K : Frag) (cda : Addr) : Bool := match K.lookup cda with
  | some ⟨_, _, .fields vs, _⟩ => match (vs[2]? : Option Value) with
    | some (.str file _) => ((P.main.file : Str) == file)
    | _ => false
  | _ => false
theorem fileIn_of {P : Program} {K : Frag} {cda : Addr} (h : fileIn P K cda = true) : ∃ ccl cdd vs ccs file tf, K.lookup cda = some ⟨ccl, cdd, .fields vs, ccs⟩ ∧ vs[2]? = some (.str file tf) ∧ ((P.main.file : Str) == file) = true := by
  unfold fileIn at h
  split at h
  · rename_i c d vs sl ho
    split at h
    · rename_i file tf hv
      exact ⟨c, d, vs, sl, file, tf, ho, hv, h⟩
    · cases h
  · cases h
def isCls (K : Frag) (D : Addr) : Bool := (clsIn K D).isSome
def clsBody : Stmt → List Stmt
  | .ClassDef (body := b) .. => b
  | _ => []
def mem (st : Stmt) (j : Nat) : Stmt := (clsBody st).getD j (.Pass ⟨0, 0, 0, 0⟩)
theorem Er.mono {P : Program} {w : World} {K : Frag} {mg : Str → Option Value} {base : Heap} {j k : Nat} {x : Str} {fs : List Str} (F : Er P w K mg base j x fs) (h : j ≤ k) : Er P w K mg base k x fs := by
  obtain ⟨⟨C, fI, fd, ps, a, b, c, d, e, f⟩, few⟩ := F
  exact ⟨⟨C, fI, fd, ps, a, b, c, d, e.mono h, f⟩, few⟩
/-- the class at C, its __init__ at f -/
structure ErC (P : Program) (K : Frag) (mg : Str → Option Value) (x : Str) (C f cda cc : Addr) : Prop where
  hm : mg x = some (.ref C)
  ox : OexC K C
  iC : findIn K (.ref C) "__init__" = some (some (.ref f))
  tI : typeIn K (.ref f) = some (.type "function")
  file : fileIn P K cda = true
  cell : ∃ cl cld csl, K.lookup cc = some ⟨cl, cld, .cell (some (.ref C)), csl⟩
  isC : isCls K C = true
  sub : mroIn K C (.ref C) = some true
  opq : nsIn K cStatics "thirdparty.any" = some none
  sup : ks_superIn K C C "__init__" = some (some (.builtin "ValueError.__init__"))
  isB : subIn K (.ref C) (.type "ValueError") = some true
  top : (P.main.scope.names.lookup ("super" : Str)).isSome = false
  mgS : mg "super" = none
section
variable {P : Program} {w : World} {K : Frag} {mg : Str → Option Value} {base : Heap} {f cda cc C : Addr} {x qual a1 a2 fl gl : Str} {st : Stmt} {p0 p1 p2 p3 p4 pa pb pc pd pe pf pg ph pi pj : Pos} {dV kV doc pm ct oc : Value} {an od : Option Addr} {osl : Array (Option Value)} {pl : Addr → Sem Bool}
theorem ErC.supK (E : ErC P K mg x C f cda cc) {ar : Str} (hh : ∃ a, ((defArgs st).posonlyargs ++ (defArgs st).args).head? = some a ∧ a.arg = ar) : SupK P K mg C C cda cc (defArgs st) ar :=
  ⟨hh, fileIn_of E.file, E.cell, Option.isSome_iff_exists.mp E.isC, E.sub, E.opq, E.sup, E.isB, E.top, E.ox, E.mgS⟩
theorem er1 (E : ErC P K mg x C f cda cc) (lk : K.lookup f = some ⟨oc, od, .func (ksFn "__init__" qual (defArgs st) (defBody st) (defScope st) dV kV doc pm an (.ref cda) ct cc), osl⟩) (hcd : codeIn K (.ref cda) qual = true) (hno : findIn K (.ref C) fl = some none)
    (hbd : defBody st = [.Expr (.Call (.Attribute (.Call (.Name "super" p0) [] [] p1) "__init__" p2) [.Name a1 pa] [] p3) p4, .Assign [.Attribute (.Name "self" pb) fl pc] (.Name a1 pd) pe])
    (S : SupScope ["self", a1] ["self", a1] (defScope st)) (hh : ∃ a, ((defArgs st).posonlyargs ++ (defArgs st).args).head? = some a ∧ a.arg = "self") (hx1 : (a1 == ("__debug__" : Str)) = false) (hx2 : (a1 == ("__classdict__" : Str)) = false)
    (hb : ∀ us : List Value, us.length = 2 → bindArgs (ksFn "__init__" qual (defArgs st) (defBody st) (defScope st) dV kV doc pm an (.ref cda) ct cc) ⟨us, []⟩ = pure ((["self", a1] : List Str).zip us))
    (hc : ∀ L : Addr, eval (.Call (.Attribute (.Call (.Name "super" p0) [] [] p1) "__init__" p2) [.Name a1 pa] [] p3) (supEnv qual (defScope st) L f cda cc) = (do
      let ov ← attributeBase (.Call (.Name "super" p0) [] [] p1) "__init__" (supEnv qual (defScope st) L f cda cc) (eval (.Call (.Name "super" p0) [] [] p1) (supEnv qual (defScope st) L f cda cc))
      standAt p2.atName
      let (f1, first) ← holding [ov] (getMethod ov "__init__" (pl L))
      callWith p3 f1 first (backTo p3 (starEach [.Name a1 pa] (supEnv qual (defScope st) L f cda cc))) [])) : Er P w K mg base 1 x [fl] :=
  ⟨⟨C, f, _, _, E.hm, E.ox, E.iC, E.tI, init1 (k := 0) lk hcd hbd S (E.supK hh) hno hx1 hx2 hc, Binds.all hb⟩, by simp⟩
theorem er2 (E : ErC P K mg x C f cda cc) (lk : K.lookup f = some ⟨oc, od, .func (ksFn "__init__" qual (defArgs st) (defBody st) (defScope st) dV kV doc pm an (.ref cda) ct cc), osl⟩) (hcd : codeIn K (.ref cda) qual = true) (hno : findIn K (.ref C) fl = some none) (hno2 : findIn K (.ref C) gl = some none)
    (hbd : defBody st = [.Expr (.Call (.Attribute (.Call (.Name "super" p0) [] [] p1) "__init__" p2) [.Name a1 pa, .Name a2 pf] [] p3) p4, .Assign [.Attribute (.Name "self" pb) fl pc] (.Name a1 pd) pe, .Assign [.Attribute (.Name "self" pg) gl ph] (.Name a2 pi) pj])
    (S : SupScope ["self", a1, a2] ["self", a1, a2] (defScope st)) (hh : ∃ a, ((defArgs st).posonlyargs ++ (defArgs st).args).head? = some a ∧ a.arg = "self") (hx1 : (a1 == ("__debug__" : Str)) = false) (hx2 : (a1 == ("__classdict__" : Str)) = false) (hy1 : (a2 == ("__debug__" : Str)) = false) (hy2 : (a2 == ("__classdict__" : Str)) = false)
    (hb : ∀ us : List Value, us.length = 3 → bindArgs (ksFn "__init__" qual (defArgs st) (defBody st) (defScope st) dV kV doc pm an (.ref cda) ct cc) ⟨us, []⟩ = pure ((["self", a1, a2] : List Str).zip us))
    (hc : ∀ L : Addr, eval (.Call (.Attribute (.Call (.Name "super" p0) [] [] p1) "__init__" p2) [.Name a1 pa, .Name a2 pf] [] p3) (supEnv qual (defScope st) L f cda cc) = (do
      let ov ← attributeBase (.Call (.Name "super" p0) [] [] p1) "__init__" (supEnv qual (defScope st) L f cda cc) (eval (.Call (.Name "super" p0) [] [] p1) (supEnv qual (defScope st) L f cda cc))
      standAt p2.atName
      let (f1, first) ← holding [ov] (getMethod ov "__init__" (pl L))
      callWith p3 f1 first (backTo p3 (starEach [.Name a1 pa, .Name a2 pf] (supEnv qual (defScope st) L f cda cc))) [])) : Er P w K mg base 1 x [fl, gl] :=
  ⟨⟨C, f, _, _, E.hm, E.ox, E.iC, E.tI, init2 (k := 0) lk hcd hbd S (E.supK hh) hno hno2 hx1 hx2 hy1 hy2 hc, Binds.all hb⟩, by simp⟩
end
/-- a def of the law that calls what it got -/
structure Lf (K : Frag) (mg : Str → Option Value) (x : Str) (TT : TTh) : Prop where
  ex : ∃ (g : Addr) (pg : Arguments) (bg : List Stmt) (sg : Scope) (dV kV doc pm cdv ct oc : Value) (an od : Option Addr) (osl : Array (Option Value)) (Ng : List Str) (a : Str), mg x = some (.ref g) ∧ keepIn K (.ref g) = true ∧
    K.lookup g = some ⟨oc, od, .func (fnOf x x pg bg sg dV kV doc pm an cdv ct), osl⟩ ∧ codeIn K cdv x = true ∧ L2.Binds K (fnOf x x pg bg sg dV kV doc pm an cdv ct) [a] [] ∧ FnScope Ng [a] sg ∧ Ng[0]? = some a ∧ Vis sg a ∧ (a == ("__debug__" : Str)) = false ∧ (a == ("__classdict__" : Str)) = false ∧
    ∀ (X : Cx) (q : Str), X.K = K → X.mg = mg → GivesD X Ng x sg g cdv bg a q TT
theorem de_lamF {X : Cx} {Wx : WX} {TT : TTh} {x q : Str} {c P : Addr} {k : Nat} {params : Arguments} {body : Expr} {scope : Scope} {fl : EF} {p lpos pos : Pos} (F : Lf X.K X.mg x TT) (hg : Gl X x) (hq : X.env.qual ++ "<lambda>" = q)
    (TB : TabB X.base X.mg c P) (hcode : X.env.code = .ref c) (hr : Room (k + 2) X.A) (L : LamS X.env.scope scope) (hdef : defaultsOf params X.env = ([], []))
    (hbind : ∀ (q : Str) (cl : List (Str × Addr)) (pm cv ctv : Value), bindArgs (PySem.W.kla_fn "<lambda>" q params body scope cl pm cv ctv) ⟨[], []⟩ = pure [])
    (hbody : ∀ (A : Around) (outer : List PySem.Env) (s : Shared) (H : Hp) (E : XK) (f c' : Addr), Room k (A.deeper (lamEnv X scope s.heap.objs.size f c')) → DE (lamCx X A outer s H E scope f c') (fun cls d _ H => E cls d H) body fl)
    (hdb : (x == ("__debug__" : Str)) = false := by decide) : DE X Wx (.Call (.Name x p) [.Lambda params body scope lpos] [] pos) (eLam P q TT fl) := by
  obtain ⟨g, pg, bg, sg, dV, kV, doc, pm, cdv, ct, oc, an, od, osl, Ng, a, hm, hk, lk, hcg, hb, Sg, hNg, hva, hd, hcd, hG⟩ := F.ex
  exact de_lam hg hm hk lk hcg hb Sg hNg hva hq (hG X _ rfl rfl) TB hcode hr L hdef hbind hbody hdb hd hcd
/-- a def whose code object is known -/
theorem Fn.okC {P : Program} {w : World} {K : Frag} {mg : Str → Option Value} {base : Heap} {x qual : Str} {st : Stmt} {f : Addr} {N ps : List Str} {k : Nat} {body : SF} {dV kV doc pm cdv ct oc : Value} {an od : Option Addr} {osl : Array (Option Value)}
    (lk : K.lookup f = some ⟨oc, od, .func (fnOf x qual (defArgs st) (defBody st) (defScope st) dV kV doc pm an cdv ct), osl⟩) (hcd : codeIn K cdv qual = true) (Sc : FnScope N ps (defScope st))
    (hbody : ∀ (A : Around) (outer : List PySem.Env) (s : Shared) (H : Hp) (E : XK), Room k (A.deeper (envOfC qual (defScope st) s.heap.objs.size f cdv)) →
      DSs (cxOf (L2.CX P w) P w K mg base N qual (defScope st) f cdv A outer s H E) (fun cls d _ H => E cls d H) (defBody st) body) :
    FnOk P w K mg base (L2.CX P w) (k + 1) f (fnOf x qual (defArgs st) (defBody st) (defScope st) dV kV doc pm an cdv ct) ps (spD K mg ps.length (runDef N.length ps.length body)) := by
  refine fn_of lk hcd Sc (fun vs H Q E h => h.1) (fun A outer s H vs Q E hr h => ?_)
  obtain ⟨hl, ad, ws, S, r, rs, q⟩ := h
  refine ⟨_, hbody A outer s H E hr, ad, _, S, sig_start r hl (by have := congrArg List.length Sc.pre; rw [List.length_take] at this; omega), rs, ?_⟩
  unfold runDef at q
  revert q
  cases body (ws.map some ++ List.replicate (N.length - ps.length) none) S with
  | bad => exact fun z => z
  | exc x ρ' S' => exact fun q cls d σ' H' ad' fr sg xr rs' => q cls d H' ad fr.cut xr (rs.cut fr rs')
  | fl g S' =>
    cases g with
    | nx ρ' => exact fun q σ' H' ad' fr sg rs' => exit_post rs fr (w := .d .none) .non rs' q
    | rt w => exact fun q v H' ad' fr rv rs' => exit_post rs fr rv rs' q
    | bk ρ' => exact fun q => q.elim
    | ct ρ' => exact fun q => q.elim
end DL

set_option Elab.async false
set_option linter.all false
set_option maxRecDepth 100000
set_option maxHeartbeats 4000000
namespace DL
open PySem PySem.Spec PyProof.Rows L2
def top (i : Nat) : Stmt := PySem.Challenge.pw_basketfair_k35_fractions.main.body.getD i (.Pass ⟨0, 0, 0, 0⟩)
theorem boot_abs : bootBuiltins "abs" = some (.builtin "abs") := by decide +kernel
theorem boot_all : bootBuiltins "all" = some (.builtin "all") := by decide +kernel
theorem boot_bool : bootBuiltins "bool" = some (.type "bool") := by decide +kernel
theorem boot_int : bootBuiltins "int" = some (.type "int") := by decide +kernel
theorem boot_isinstance : bootBuiltins "isinstance" = some (.builtin "isinstance") := by decide +kernel
theorem boot_len : bootBuiltins "len" = some (.builtin "len") := by decide +kernel
theorem boot_list : bootBuiltins "list" = some (.type "list") := by decide +kernel
theorem boot_range : bootBuiltins "range" = some (.type "range") := by decide +kernel
theorem boot_str : bootBuiltins "str" = some (.type "str") := by decide +kernel
theorem boot_tuple : bootBuiltins "tuple" = some (.type "tuple") := by decide +kernel
theorem boot_zip : bootBuiltins "zip" = some (.type "zip") := by decide +kernel
def k_ZERO : PyData := (.tuple [(.int 0), (.int 1)])
def lamQ : Str := "law.<locals>.<lambda>"
def tt__law_refused : TTh := tt1 "told" "Refused" "refused" "why"
theorem sc_is_integer : FnScope ["thing"] ["thing"] (defScope (top 5)) := ⟨rfl, rfl, rfl, by decide +kernel, rfl, by decide +kernel, by decide +kernel⟩
noncomputable def b_is_integer : SF := (sRet (eAnd (eIsi ["int"] (eVar 0)) (eNot (eIsi ["bool"] (eVar 0)))))
noncomputable def f_is_integer : FD := runDef 1 1 (b_is_integer)
theorem sc_divisor : FnScope ["one", "other"] ["one", "other"] (defScope (top 8)) := ⟨rfl, rfl, rfl, by decide +kernel, rfl, by decide +kernel, by decide +kernel⟩
noncomputable def b_divisor : SF := (sSeq (sPar 0 1 (eB absG (lCons (eVar 0) lNil)) (eB absG (lCons (eVar 1) lNil))) (sSeq (sWhile (tCmpB gtD (eVar 1) (eC (.int 0))) (sPar 0 1 (eVar 1) (eBin modD (eVar 0) (eVar 1)))) (sRet (eVar 0))))
noncomputable def f_divisor : FD := runDef 2 2 (b_divisor)
theorem sc_fraction : FnScope ["over", "under", "most"] ["over", "under"] (defScope (top 9)) := ⟨rfl, rfl, rfl, by decide +kernel, rfl, by decide +kernel, by decide +kernel⟩
noncomputable def b_fraction : SF := (sSeq (sIf (tCmpB eqD (eVar 1) (eC (.int 0))) (sRaise "Refused" ["why"] (lCons (eC (.str (PySem.Str.ofString "zero"))) lNil)) sNil) (sSeq (sSet 2 (eIf (tCmpB gtD (eVar 1) (eC (.int 0))) (eCall 2 f_divisor (lCons (eVar 0) (lCons (eVar 1) lNil))) (eBin subD (eC (.int 0)) (eCall 2 f_divisor (lCons (eVar 0) (lCons (eVar 1) lNil)))))) (sRet (eTup (lCons (eBin fdivD (eVar 0) (eVar 2)) (lCons (eBin fdivD (eVar 1) (eVar 2)) lNil))))))
noncomputable def f_fraction : FD := runDef 3 2 (b_fraction)
theorem sc_is_fraction : FnScope ["thing", "part"] ["thing"] (defScope (top 10)) := ⟨rfl, rfl, rfl, by decide +kernel, rfl, by decide +kernel, by decide +kernel⟩
noncomputable def b_is_fraction : SF := (sSeq (sIf (tOrB (tNotB (tTru (eIsi ["tuple"] (eVar 0)))) (tOrB (tCmpB neD (eB lenG (lCons (eVar 0) lNil)) (eC (.int 2))) (tNotB (tTru (eB allG (lCons (eFz (mLc (iVal (eVar 0)) (gNm 1) bYes (eCall 1 f_is_integer (lCons (eVar 1) lNil)) [1])) lNil)))))) (sRet (eC (.bool false))) sNil) (sRet (eAnd (eBin gtD (eBin ixD (eVar 0) (eC (.int 1))) (eC (.int 0))) (eBin eqD (eCall 2 f_divisor (lCons (eBin ixD (eVar 0) (eC (.int 0))) (lCons (eBin ixD (eVar 0) (eC (.int 1))) lNil))) (eC (.int 1))))))
noncomputable def f_is_fraction : FD := runDef 2 1 (b_is_fraction)
theorem sc_whole : FnScope ["number"] ["number"] (defScope (top 11)) := ⟨rfl, rfl, rfl, by decide +kernel, rfl, by decide +kernel, by decide +kernel⟩
noncomputable def b_whole : SF := (sRet (eTup (lCons (eVar 0) (lCons (eC (.int 1)) lNil))))
noncomputable def f_whole : FD := runDef 1 1 (b_whole)
theorem sc_plus : FnScope ["one", "other"] ["one", "other"] (defScope (top 12)) := ⟨rfl, rfl, rfl, by decide +kernel, rfl, by decide +kernel, by decide +kernel⟩
noncomputable def b_plus : SF := (sRet (eCall 2 f_fraction (lCons (eBin addD (eBin mulD (eBin ixD (eVar 0) (eC (.int 0))) (eBin ixD (eVar 1) (eC (.int 1)))) (eBin mulD (eBin ixD (eVar 1) (eC (.int 0))) (eBin ixD (eVar 0) (eC (.int 1))))) (lCons (eBin mulD (eBin ixD (eVar 0) (eC (.int 1))) (eBin ixD (eVar 1) (eC (.int 1)))) lNil))))
noncomputable def f_plus : FD := runDef 2 2 (b_plus)
theorem sc_minus : FnScope ["one", "other"] ["one", "other"] (defScope (top 13)) := ⟨rfl, rfl, rfl, by decide +kernel, rfl, by decide +kernel, by decide +kernel⟩
noncomputable def b_minus : SF := (sRet (eCall 2 f_fraction (lCons (eBin subD (eBin mulD (eBin ixD (eVar 0) (eC (.int 0))) (eBin ixD (eVar 1) (eC (.int 1)))) (eBin mulD (eBin ixD (eVar 1) (eC (.int 0))) (eBin ixD (eVar 0) (eC (.int 1))))) (lCons (eBin mulD (eBin ixD (eVar 0) (eC (.int 1))) (eBin ixD (eVar 1) (eC (.int 1)))) lNil))))
noncomputable def f_minus : FD := runDef 2 2 (b_minus)
theorem sc_multiplied : FnScope ["one", "other"] ["one", "other"] (defScope (top 14)) := ⟨rfl, rfl, rfl, by decide +kernel, rfl, by decide +kernel, by decide +kernel⟩
noncomputable def b_multiplied : SF := (sRet (eCall 2 f_fraction (lCons (eBin mulD (eBin ixD (eVar 0) (eC (.int 0))) (eBin ixD (eVar 1) (eC (.int 0)))) (lCons (eBin mulD (eBin ixD (eVar 0) (eC (.int 1))) (eBin ixD (eVar 1) (eC (.int 1)))) lNil))))
noncomputable def f_multiplied : FD := runDef 2 2 (b_multiplied)
theorem sc_ratio : FnScope ["one", "other"] ["one", "other"] (defScope (top 15)) := ⟨rfl, rfl, rfl, by decide +kernel, rfl, by decide +kernel, by decide +kernel⟩
noncomputable def b_ratio : SF := (sRet (eCall 2 f_fraction (lCons (eBin mulD (eBin ixD (eVar 0) (eC (.int 0))) (eBin ixD (eVar 1) (eC (.int 1)))) (lCons (eBin mulD (eBin ixD (eVar 0) (eC (.int 1))) (eBin ixD (eVar 1) (eC (.int 0)))) lNil))))
noncomputable def f_ratio : FD := runDef 2 2 (b_ratio)
theorem sc_is_less : FnScope ["one", "other"] ["one", "other"] (defScope (top 16)) := ⟨rfl, rfl, rfl, by decide +kernel, rfl, by decide +kernel, by decide +kernel⟩
noncomputable def b_is_less : SF := (sRet (eBin ltD (eBin mulD (eBin ixD (eVar 0) (eC (.int 0))) (eBin ixD (eVar 1) (eC (.int 1)))) (eBin mulD (eBin ixD (eVar 1) (eC (.int 0))) (eBin ixD (eVar 0) (eC (.int 1))))))
noncomputable def f_is_less : FD := runDef 2 2 (b_is_less)
theorem sc_floor_of : FnScope ["one"] ["one"] (defScope (top 17)) := ⟨rfl, rfl, rfl, by decide +kernel, rfl, by decide +kernel, by decide +kernel⟩
noncomputable def b_floor_of : SF := (sRet (eBin fdivD (eBin ixD (eVar 0) (eC (.int 0))) (eBin ixD (eVar 0) (eC (.int 1)))))
noncomputable def f_floor_of : FD := runDef 1 1 (b_floor_of)
theorem sc_total : FnScope ["fractions", "found", "one"] ["fractions"] (defScope (top 18)) := ⟨rfl, rfl, rfl, by decide +kernel, rfl, by decide +kernel, by decide +kernel⟩
noncomputable def b_total : SF := (sSeq (sSet 1 (eC k_ZERO)) (sSeq (sFor (iVal (eVar 0)) (gNm 2) (sSet 1 (eCall 2 f_plus (lCons (eVar 1) (lCons (eVar 2) lNil))))) (sRet (eVar 1))))
noncomputable def f_total : FD := runDef 3 1 (b_total)
theorem sc_weighed : FnScope ["numbers", "fractions", "number", "one"] ["numbers", "fractions"] (defScope (top 19)) := ⟨rfl, rfl, rfl, by decide +kernel, rfl, by decide +kernel, by decide +kernel⟩
noncomputable def b_weighed : SF := (sRet (eCall 1 f_total (lCons (eFz (mLc (iZip (lCons (eVar 0) (lCons (eVar 1) lNil))) (gTp 2 (gsCons (gNm 2) (gsCons (gNm 3) gsNil))) bYes (eCall 2 f_multiplied (lCons (eCall 1 f_whole (lCons (eVar 2) lNil)) (lCons (eVar 3) lNil))) [2, 3])) lNil)))
noncomputable def f_weighed : FD := runDef 4 2 (b_weighed)
theorem sc__law_bag : FnScope ["script", "cell"] ["script"] (defScope (top 21)) := ⟨rfl, rfl, rfl, by decide +kernel, rfl, by decide +kernel, by decide +kernel⟩
noncomputable def b__law_bag : SF := (sRet (eOwn (mLst (lCons (eC (.int 0)) (lCons (eC (.int 1234567891)) (lCons (eC (.int 0)) (lCons (eFz (mLc (iVal (eSl (eVar 0) oNon (oSom (eC (.int 63))))) (gNm 1) bYes (eB absG (lCons (eVar 1) lNil)) [1])) lNil)))))))
noncomputable def f__law_bag : FD := runDef 2 1 (b__law_bag)
theorem sc__law_take : FnScope ["bag", "many", "cell", "stirred", "value", "begin", "second"] ["bag", "many"] (defScope (top 22)) := ⟨rfl, rfl, rfl, by decide +kernel, rfl, by decide +kernel, by decide +kernel⟩
noncomputable def b__law_take : SF := (sSeq (sIf (tCmpB eqD (eBin ixD (eVar 0) (eC (.int 0))) (eC (.int 0))) (sSeq (sSet 2 (eBin ixD (eBin addD (eSl (eBin ixD (eVar 0) (eC (.int 3))) (oSom (eBin ixD (eVar 0) (eC (.int 2)))) oNon) (eFz (mLst (lCons (eC (.int 0)) lNil)))) (eC (.int 0)))) (sSeq (sAugI iaddD (eVar 0) (eC (.int 2)) (eC (.int 1))) (sSeq (sIf (tCmpB geD (eVar 2) (eBin powD (eC (.int 10)) (eC (.int 18)))) (sPut (eVar 0) (eC (.int 0)) (eVar 2)) sNil) (sSeq (sSet 3 (eBin addD (eBin addD (eBin mulD (eBin ixD (eVar 0) (eC (.int 1))) (eC (.int 48271))) (eBin modD (eB intG (lCons (eVar 2) lNil)) (eC (.int 2147483647)))) (eBin mulD (eC (.int 7919)) (eBin ixD (eVar 0) (eC (.int 2)))))) (sPut (eVar 0) (eC (.int 1)) (eBin modD (eB intG (lCons (eVar 3) lNil)) (eC (.int 2147483647)))))))) sNil) (sSeq (sIf (tCmpB gtD (eBin ixD (eVar 0) (eC (.int 0))) (eC (.int 0))) (sSeq (sSet 4 (eBin modD (eB intG (lCons (eBin ixD (eVar 0) (eC (.int 0))) lNil)) (eVar 1))) (sSeq (sPut (eVar 0) (eC (.int 0)) (eBin fdivD (eB intG (lCons (eBin ixD (eVar 0) (eC (.int 0))) lNil)) (eVar 1))) (sRet (eVar 4)))) sNil) (sSeq (sSet 5 (eBin modD (eB intG (lCons (eBin mulD (eBin addD (eBin ixD (eVar 0) (eC (.int 1))) (eC (.int 1))) (eC (.int 39373))) lNil)) (eC (.int 1000000007)))) (sSeq (sSet 6 (eBin modD (eB intG (lCons (eBin mulD (eBin modD (eB intG (lCons (eBin mulD (eVar 5) (eVar 5)) lNil)) (eC (.int 998244353))) (eC (.int 30011))) lNil)) (eC (.int 998244353)))) (sRet (eBin modD (eB intG (lCons (eBin fdivD (eVar 6) (eC (.int 7))) lNil)) (eVar 1)))))))
noncomputable def f__law_take : FD := runDef 7 2 (b__law_take)
theorem sc__law_some : FnScope ["bag", "things"] ["bag", "things"] (defScope (top 23)) := ⟨rfl, rfl, rfl, by decide +kernel, rfl, by decide +kernel, by decide +kernel⟩
noncomputable def b__law_some : SF := (sRet (eBin ixD (eVar 1) (eCall 2 f__law_take (lCons (eVar 0) (lCons (eB lenG (lCons (eVar 1) lNil)) lNil)))))
noncomputable def f__law_some : FD := runDef 2 2 (b__law_some)
theorem sc__law_alike : FnScope ["found", "due", "pairs", "at", "one", "other"] ["found", "due"] (defScope (top 24)) := ⟨rfl, rfl, rfl, by decide +kernel, rfl, by decide +kernel, by decide +kernel⟩
noncomputable def b__law_alike : SF := (sSeq (sPar 2 3 (eOwn (mLst (lCons (eTup (lCons (eVar 0) (lCons (eVar 1) lNil))) lNil))) (eC (.int 0))) (sSeq (sWhile (tCmpB ltD (eVar 3) (eB lenG (lCons (eVar 2) lNil))) (sSeq (sAsg (eBin ixD (eVar 2) (eVar 3)) (gTp 2 (gsCons (gNm 4) (gsCons (gNm 5) gsNil)))) (sSeq (sAug 3 iaddD (eC (.int 1))) (sSeq (sIf (tOrB (tCmpB neD (eIsi ["bool"] (eVar 4)) (eIsi ["bool"] (eVar 5))) (tCmpB neD (eIsi ["str"] (eVar 4)) (eIsi ["str"] (eVar 5)))) (sRet (eC (.bool false))) sNil) (sSeq (sIf (tCmpB neD (eIsi ["tuple", "list"] (eVar 4)) (eIsi ["tuple", "list"] (eVar 5))) (sRet (eC (.bool false))) sNil) (sIf (tTru (eIsi ["tuple", "list"] (eVar 4))) (sSeq (sIf (tOrB (tCmpB neD (eIsi ["tuple"] (eVar 4)) (eIsi ["tuple"] (eVar 5))) (tCmpB neD (eB lenG (lCons (eVar 4) lNil)) (eB lenG (lCons (eVar 5) lNil)))) (sRet (eC (.bool false))) sNil) (sExpr (eExt (eVar 2) (mZip (lCons (eVar 4) (lCons (eVar 5) lNil)))))) (sIf (tCmpB neD (eVar 4) (eVar 5)) (sRet (eC (.bool false))) sNil))))))) (sRet (eC (.bool true)))))
noncomputable def f__law_alike : FD := runDef 6 2 (b__law_alike)
theorem sc__law_is_int : FnScope ["thing"] ["thing"] (defScope (top 25)) := ⟨rfl, rfl, rfl, by decide +kernel, rfl, by decide +kernel, by decide +kernel⟩
noncomputable def b__law_is_int : SF := (sRet (eAnd (eIsi ["int"] (eVar 0)) (eNot (eIsi ["bool"] (eVar 0)))))
noncomputable def f__law_is_int : FD := runDef 1 1 (b__law_is_int)
theorem sc__law_common : FnScope ["one", "other"] ["one", "other"] (defScope (top 26)) := ⟨rfl, rfl, rfl, by decide +kernel, rfl, by decide +kernel, by decide +kernel⟩
noncomputable def b__law_common : SF := (sSeq (sWhile (tCmpB gtD (eVar 1) (eC (.int 0))) (sPar 0 1 (eVar 1) (eBin modD (eB intG (lCons (eVar 0) lNil)) (eVar 1)))) (sRet (eVar 0)))
noncomputable def f__law_common : FD := runDef 2 2 (b__law_common)
theorem sc__law_fraction : FnScope ["one", "other", "shared"] ["one", "other"] (defScope (top 27)) := ⟨rfl, rfl, rfl, by decide +kernel, rfl, by decide +kernel, by decide +kernel⟩
noncomputable def b__law_fraction : SF := (sSeq (sIf (tCmpB ltD (eVar 1) (eC (.int 0))) (sPar 0 1 (eB negG (lCons (eVar 0) lNil)) (eB negG (lCons (eVar 1) lNil))) sNil) (sSeq (sSet 2 (eCall 2 f__law_common (lCons (eB absG (lCons (eVar 0) lNil)) (lCons (eVar 1) lNil)))) (sRet (eTup (lCons (eBin fdivD (eVar 0) (eVar 2)) (lCons (eBin fdivD (eVar 1) (eVar 2)) lNil))))))
noncomputable def f__law_fraction : FD := runDef 3 2 (b__law_fraction)
theorem sc__law_fraction_plus : FnScope ["one", "other"] ["one", "other"] (defScope (top 28)) := ⟨rfl, rfl, rfl, by decide +kernel, rfl, by decide +kernel, by decide +kernel⟩
noncomputable def b__law_fraction_plus : SF := (sRet (eCall 2 f__law_fraction (lCons (eBin addD (eBin mulD (eBin ixD (eVar 0) (eC (.int 0))) (eBin ixD (eVar 1) (eC (.int 1)))) (eBin mulD (eBin ixD (eVar 1) (eC (.int 0))) (eBin ixD (eVar 0) (eC (.int 1))))) (lCons (eBin mulD (eBin ixD (eVar 0) (eC (.int 1))) (eBin ixD (eVar 1) (eC (.int 1)))) lNil))))
noncomputable def f__law_fraction_plus : FD := runDef 2 2 (b__law_fraction_plus)
theorem sc__law_fraction_times : FnScope ["one", "other"] ["one", "other"] (defScope (top 29)) := ⟨rfl, rfl, rfl, by decide +kernel, rfl, by decide +kernel, by decide +kernel⟩
noncomputable def b__law_fraction_times : SF := (sRet (eCall 2 f__law_fraction (lCons (eBin mulD (eBin ixD (eVar 0) (eC (.int 0))) (eBin ixD (eVar 1) (eC (.int 0)))) (lCons (eBin mulD (eBin ixD (eVar 0) (eC (.int 1))) (eBin ixD (eVar 1) (eC (.int 1)))) lNil))))
noncomputable def f__law_fraction_times : FD := runDef 2 2 (b__law_fraction_times)
theorem sc__law_is_fraction_less : FnScope ["one", "other"] ["one", "other"] (defScope (top 30)) := ⟨rfl, rfl, rfl, by decide +kernel, rfl, by decide +kernel, by decide +kernel⟩
noncomputable def b__law_is_fraction_less : SF := (sRet (eBin ltD (eBin mulD (eBin ixD (eVar 0) (eC (.int 0))) (eBin ixD (eVar 1) (eC (.int 1)))) (eBin mulD (eBin ixD (eVar 1) (eC (.int 0))) (eBin ixD (eVar 0) (eC (.int 1))))))
noncomputable def f__law_is_fraction_less : FD := runDef 2 2 (b__law_is_fraction_less)
theorem sc__law_weighed : FnScope ["numbers", "fractions", "found", "number", "one"] ["numbers", "fractions"] (defScope (top 31)) := ⟨rfl, rfl, rfl, by decide +kernel, rfl, by decide +kernel, by decide +kernel⟩
noncomputable def b__law_weighed : SF := (sSeq (sSet 2 (eTup (lCons (eC (.int 0)) (lCons (eC (.int 1)) lNil)))) (sSeq (sFor (iZip (lCons (eVar 0) (lCons (eVar 1) lNil))) (gTp 2 (gsCons (gNm 3) (gsCons (gNm 4) gsNil))) (sSet 2 (eCall 2 f__law_fraction_plus (lCons (eVar 2) (lCons (eCall 2 f__law_fraction (lCons (eBin mulD (eVar 3) (eBin ixD (eVar 4) (eC (.int 0)))) (lCons (eBin ixD (eVar 4) (eC (.int 1))) lNil))) lNil))))) (sRet (eVar 2))))
noncomputable def f__law_weighed : FD := runDef 5 2 (b__law_weighed)
theorem sc__law_is_fraction : FnScope ["thing"] ["thing"] (defScope (top 32)) := ⟨rfl, rfl, rfl, by decide +kernel, rfl, by decide +kernel, by decide +kernel⟩
noncomputable def b__law_is_fraction : SF := (sSeq (sIf (tOrB (tNotB (tTru (eIsi ["tuple"] (eVar 0)))) (tOrB (tCmpB neD (eB lenG (lCons (eVar 0) lNil)) (eC (.int 2))) (tOrB (tNotB (tTru (eCall 1 f__law_is_int (lCons (eBin ixD (eVar 0) (eC (.int 0))) lNil)))) (tOrB (tNotB (tTru (eCall 1 f__law_is_int (lCons (eBin ixD (eVar 0) (eC (.int 1))) lNil)))) (tCmpB ltD (eBin ixD (eVar 0) (eC (.int 1))) (eC (.int 1))))))) (sRet (eC (.bool false))) sNil) (sRet (eBin eqD (eCall 2 f__law_common (lCons (eB absG (lCons (eBin ixD (eVar 0) (eC (.int 0))) lNil)) (lCons (eBin ixD (eVar 0) (eC (.int 1))) lNil))) (eC (.int 1)))))
noncomputable def f__law_is_fraction : FD := runDef 1 1 (b__law_is_fraction)
theorem sc__law_odd : FnScope ["bag"] ["bag"] (defScope (top 33)) := ⟨rfl, rfl, rfl, by decide +kernel, rfl, by decide +kernel, by decide +kernel⟩
noncomputable def b__law_odd : SF := (sRet (eCall 2 f__law_some (lCons (eVar 0) (lCons (eFz (mLst (lCons (eC .none) (lCons (eC (.bool true)) (lCons (eC (.int 7)) (lCons (eC (.str (PySem.Str.ofString "least"))) (lCons (eTup lNil) (lCons (eTup (lCons (eTup lNil) lNil)) (lCons (eFz (mLst lNil)) (lCons (eC (.dict [])) (lCons (eTup (lCons (eC (.str (PySem.Str.ofString "a"))) (lCons (eC (.int 1)) lNil))) (lCons (eTup (lCons (eC (.int 0)) (lCons (eC (.int 0)) lNil))) (lCons (eBin powD (eC (.int 10)) (eC (.int 25))) (lCons (eTup (lCons (eC (.int 1)) (lCons (eB negG (lCons (eC (.int 1)) lNil)) lNil))) (lCons (eTup (lCons (eC (.int 2)) (lCons (eC (.int 4)) lNil))) lNil))))))))))))))) lNil))))
noncomputable def f__law_odd : FD := runDef 1 1 (b__law_odd)
theorem sc_law : FnScope ["script", "bag", "turn", "size", "numbers", "unders", "made", "one", "other", "opposite", "due", "told", "least", "whole_v", "thing", "again", "top", "under"] ["script"] (defScope (top 35)) := ⟨rfl, rfl, rfl, by decide +kernel, rfl, by decide +kernel, by decide +kernel⟩
noncomputable def b_law (tP : Addr) : SF := (sSeq (sSet 1 (eCall 1 f__law_bag (lCons (eVar 0) lNil))) (sSeq (sFor (iRange1 (lCons (eC (.int 12)) lNil)) (gNm 2) (sSeq (sSet 3 (eCall 2 f__law_some (lCons (eVar 1) (lCons (eFz (mLst (lCons (eC (.int 4)) (lCons (eC (.int 30)) (lCons (eBin powD (eC (.int 10)) (eC (.int 12))) lNil))))) lNil)))) (sSeq (sSet 4 (eFz (mLc (iRange1 (lCons (eC (.int 4)) lNil)) (gNm 15) bYes (eBin subD (eCall 2 f__law_take (lCons (eVar 1) (lCons (eBin addD (eBin mulD (eC (.int 2)) (eVar 3)) (eC (.int 1))) lNil))) (eVar 3)) [15]))) (sSeq (sSet 5 (eFz (mLc (iRange1 (lCons (eC (.int 4)) lNil)) (gNm 15) bYes (eBin addD (eC (.int 1)) (eCall 2 f__law_take (lCons (eVar 1) (lCons (eVar 3) lNil)))) [15]))) (sSeq (sSet 6 (eFz (mLc (iZip (lCons (eVar 4) (lCons (eVar 5) lNil))) (gTp 2 (gsCons (gNm 16) (gsCons (gNm 17) gsNil))) bYes (eCall 2 f__law_fraction (lCons (eVar 16) (lCons (eVar 17) lNil))) [16, 17]))) (sSeq (sAsg (eSl (eVar 6) oNon (oSom (eC (.int 2)))) (gTp 2 (gsCons (gNm 7) (gsCons (gNm 8) gsNil)))) (sSeq (sIf (tNotB (tTru (eCall 2 f__law_alike (lCons (eFz (mLst (lCons (eCall 2 f_fraction (lCons (eBin ixD (eVar 4) (eC (.int 0))) (lCons (eBin ixD (eVar 5) (eC (.int 0))) lNil))) (lCons (eCall 2 f_fraction (lCons (eBin ixD (eVar 4) (eC (.int 0))) (lCons (eBin subD (eC (.int 0)) (eBin ixD (eVar 5) (eC (.int 0)))) lNil))) lNil)))) (lCons (eFz (mLst (lCons (eVar 7) (lCons (eTup (lCons (eBin subD (eC (.int 0)) (eBin ixD (eVar 7) (eC (.int 0)))) (lCons (eBin ixD (eVar 7) (eC (.int 1))) lNil))) lNil)))) lNil))))) (sRet (eC (.bool false))) sNil) (sSeq (sSet 9 (eTup (lCons (eBin subD (eC (.int 0)) (eBin ixD (eVar 8) (eC (.int 0)))) (lCons (eBin ixD (eVar 8) (eC (.int 1))) lNil)))) (sSeq (sSet 10 (eFz (mLst (lCons (eCall 2 f__law_fraction_plus (lCons (eVar 7) (lCons (eVar 8) lNil))) (lCons (eCall 2 f__law_fraction_plus (lCons (eVar 7) (lCons (eVar 9) lNil))) (lCons (eCall 2 f__law_fraction_times (lCons (eVar 7) (lCons (eVar 8) lNil))) lNil)))))) (sSeq (sIf (tNotB (tTru (eCall 2 f__law_alike (lCons (eFz (mLst (lCons (eCall 2 f_plus (lCons (eVar 7) (lCons (eVar 8) lNil))) (lCons (eCall 2 f_minus (lCons (eVar 7) (lCons (eVar 8) lNil))) (lCons (eCall 2 f_multiplied (lCons (eVar 7) (lCons (eVar 8) lNil))) lNil))))) (lCons (eVar 10) lNil))))) (sRet (eC (.bool false))) sNil) (sSeq (sSet 11 (eLam tP lamQ tt__law_refused (eCall 2 f_ratio (lCons (eVar 7) (lCons (eVar 8) lNil))))) (sSeq (sIf (tNotB (tTru (eCall 2 f__law_alike (lCons (eVar 11) (lCons (eIf (tCmpB neD (eBin ixD (eVar 8) (eC (.int 0))) (eC (.int 0))) (eTup (lCons (eC (.str (PySem.Str.ofString "told"))) (lCons (eCall 2 f__law_fraction (lCons (eBin mulD (eBin ixD (eVar 7) (eC (.int 0))) (eBin ixD (eVar 8) (eC (.int 1)))) (lCons (eBin mulD (eBin ixD (eVar 7) (eC (.int 1))) (eBin ixD (eVar 8) (eC (.int 0)))) lNil))) lNil))) (eTup (lCons (eC (.str (PySem.Str.ofString "refused"))) (lCons (eC (.str (PySem.Str.ofString "zero"))) lNil)))) lNil))))) (sRet (eC (.bool false))) sNil) (sSeq (sIf (tCmpB neD (eLam tP lamQ tt__law_refused (eCall 2 f_fraction (lCons (eBin ixD (eVar 4) (eC (.int 2))) (lCons (eC (.int 0)) lNil)))) (eTup (lCons (eC (.str (PySem.Str.ofString "refused"))) (lCons (eC (.str (PySem.Str.ofString "zero"))) lNil)))) (sRet (eC (.bool false))) sNil) (sSeq (sSet 12 (eCall 1 f_floor_of (lCons (eVar 7) lNil))) (sSeq (sIf (tOrB (tNotB (tTru (eCall 1 f__law_is_int (lCons (eVar 12) lNil)))) (tNotB (tChB leD ltD (eBin mulD (eVar 12) (eBin ixD (eVar 7) (eC (.int 1)))) (eBin ixD (eVar 7) (eC (.int 0))) (eBin mulD (eBin addD (eVar 12) (eC (.int 1))) (eBin ixD (eVar 7) (eC (.int 1))))))) (sRet (eC (.bool false))) sNil) (sSeq (sIf (tNotB (tTru (eCall 2 f__law_alike (lCons (eFz (mLst (lCons (eCall 2 f_is_less (lCons (eVar 7) (lCons (eVar 8) lNil))) (lCons (eCall 2 f_is_less (lCons (eVar 7) (lCons (eVar 7) lNil))) lNil)))) (lCons (eFz (mLst (lCons (eCall 2 f__law_is_fraction_less (lCons (eVar 7) (lCons (eVar 8) lNil))) (lCons (eC (.bool false)) lNil)))) lNil))))) (sRet (eC (.bool false))) sNil) (sSeq (sSet 13 (eCall 2 f__law_weighed (lCons (eFz (mRep (mLst (lCons (eC (.int 1)) lNil)) (eC (.int 4)))) (lCons (eVar 6) lNil)))) (sSeq (sIf (tNotB (tTru (eCall 2 f__law_alike (lCons (eFz (mLst (lCons (eCall 1 f_total (lCons (eB tupG (lCons (eVar 6) lNil)) lNil)) (lCons (eCall 1 f_total (lCons (eTup lNil) lNil)) (lCons (eCall 2 f_weighed (lCons (eB tupG (lCons (eVar 4) lNil)) (lCons (eB tupG (lCons (eVar 6) lNil)) lNil))) lNil))))) (lCons (eFz (mLst (lCons (eVar 13) (lCons (eTup (lCons (eC (.int 0)) (lCons (eC (.int 1)) lNil))) (lCons (eCall 2 f__law_weighed (lCons (eVar 4) (lCons (eVar 6) lNil))) lNil))))) lNil))))) (sRet (eC (.bool false))) sNil) (sFor (iVal (eBin addD (eVar 6) (eFz (mLst (lCons (eTup (lCons (eBin ixD (eVar 4) (eC (.int 0))) (lCons (eBin ixD (eVar 5) (eC (.int 0))) lNil))) (lCons (eTup (lCons (eC (.int 2)) (lCons (eC (.int 4)) lNil))) (lCons (eTup (lCons (eC (.int 0)) (lCons (eC (.int 3)) lNil))) (lCons (eTup (lCons (eC (.int 1)) (lCons (eC (.int 0)) lNil))) (lCons (eTup (lCons (eC (.int 1)) (lCons (eB negG (lCons (eC (.int 2)) lNil)) lNil))) (lCons (eTup (lCons (eC (.bool true)) (lCons (eC (.int 2)) lNil))) (lCons (eFz (mLst (lCons (eC (.int 1)) (lCons (eC (.int 2)) lNil)))) (lCons (eTup (lCons (eC (.int 1)) (lCons (eC (.int 2)) (lCons (eC (.int 3)) lNil)))) (lCons (eCall 1 f__law_odd (lCons (eVar 1) lNil)) lNil))))))))))))) (gNm 14) (sIf (tNotB (tTru (eCall 2 f__law_alike (lCons (eCall 1 f_is_fraction (lCons (eVar 14) lNil)) (lCons (eCall 1 f__law_is_fraction (lCons (eVar 14) lNil)) lNil))))) (sRet (eC (.bool false))) sNil)))))))))))))))))))) (sRet (eC (.bool true)))))
noncomputable def f_law (tP : Addr) : FD := runDef 18 1 (b_law tP)
structure Txt (P : Program) (w : World) (K : PySem.W.Frag) (mg : Str → Option Value) : Prop where
  b_abs : mg "abs" = none
  b_all : mg "all" = none
  b_bool : mg "bool" = none
  b_int : mg "int" = none
  b_isinstance : mg "isinstance" = none
  b_len : mg "len" = none
  b_list : mg "list" = none
  b_range : mg "range" = none
  b_str : mg "str" = none
  b_tuple : mg "tuple" = none
  b_zip : mg "zip" = none
  g_ZERO : Gv K mg "ZERO" k_ZERO
  l__law_refused : Lf K mg "_law_refused" tt__law_refused
section
variable {P : Program} {w : World} {K : PySem.W.Frag} {mg : Str → Option Value} {base : Heap}
theorem fn_is_integer (T : Txt P w K mg)  {f : Addr} {fd : FuncData} (F : Fun K "is_integer" "is_integer" (top 5) f fd) (hm : mg "is_integer" = some (.ref f)) (hb : Binds K fd ["thing"] []) : Fn P w K mg base 1 "is_integer" 1 f_is_integer :=
  Fn.mk' F sc_is_integer hm hb fun cdv A outer s H E hr => by
    have hu : (A.deeper (envOfC "is_integer" (defScope (top 5)) s.heap.objs.size f cdv)).units + 64 < cLine := hr.units
    have tk : Takes (cxOf (L2.CX P w) P w K mg base ["thing"] "is_integer" (defScope (top 5)) f cdv A outer s H E) (fun cls d _ H => E cls d H) := takes_of rfl rfl rfl rfl
    exact (ds_one (ds_ret (de_and (de_isi rfl T.b_isinstance (de_var (pv 0)) (by decide) (pe_ty rfl T.b_int boot_int)) (de_one (de_not (de_isi rfl T.b_isinstance (de_var (pv 0)) (by decide) (pe_ty rfl T.b_bool boot_bool)))))))
theorem fn_divisor (T : Txt P w K mg)  {f : Addr} {fd : FuncData} (F : Fun K "divisor" "divisor" (top 8) f fd) (hm : mg "divisor" = some (.ref f)) (hb : Binds K fd ["one", "other"] []) : Fn P w K mg base 1 "divisor" 2 f_divisor :=
  Fn.mk' F sc_divisor hm hb fun cdv A outer s H E hr => by
    have hu : (A.deeper (envOfC "divisor" (defScope (top 8)) s.heap.objs.size f cdv)).units + 64 < cLine := hr.units
    have tk : Takes (cxOf (L2.CX P w) P w K mg base ["one", "other"] "divisor" (defScope (top 8)) f cdv A outer s H E) (fun cls d _ H => E cls d H) := takes_of rfl rfl rfl rfl
    exact (ds_cons (ds_par (i := 0) (j := 1) rfl sc_divisor.nd rfl rfl (by decide) rfl rfl (de_blt cp_abs rfl T.b_abs boot_abs (da_cons (de_var (pv 0)) da_nil)) (de_blt cp_abs rfl T.b_abs boot_abs (da_cons (de_var (pv 1)) da_nil))) (ds_cons (ds_while (passes_of rfl) (dt_cmp op_gtD (de_var (pv 1)) de_int) (ds_one (ds_par (i := 0) (j := 1) rfl sc_divisor.nd rfl rfl (by decide) rfl rfl (de_var (pv 1)) (de_bin op_modD (de_var (pv 0)) (de_var (pv 1)))))) (ds_one (ds_ret (de_var (pv 0))))))
theorem fn_fraction (T : Txt P w K mg) (E_Refused : Er P w K mg base 1 "Refused" ["why"]) (F_divisor : Fn P w K mg base 1 "divisor" 2 f_divisor) {f : Addr} {fd : FuncData} (F : Fun K "fraction" "fraction" (top 9) f fd) (hm : mg "fraction" = some (.ref f)) (hb : Binds K fd ["over", "under"] []) : Fn P w K mg base 3 "fraction" 2 f_fraction :=
  Fn.mk' F sc_fraction hm hb fun cdv A outer s H E hr => by
    have hu : (A.deeper (envOfC "fraction" (defScope (top 9)) s.heap.objs.size f cdv)).units + 64 < cLine := hr.units
    have tk : Takes (cxOf (L2.CX P w) P w K mg base ["over", "under", "most"] "fraction" (defScope (top 9)) f cdv A outer s H E) (fun cls d _ H => E cls d H) := takes_of rfl rfl rfl rfl
    exact (ds_cons (ds_if (dt_cmp (op_eqDD hu) (de_var (pv 1)) de_int) (ds_one (ds_raise (E_Refused.mono (by decide : 1 ≤ 1)) rfl tk hr rfl (da_cons de_str da_nil))) ds_nil) (ds_cons (ds_set sc_fraction.nd (i := 2) rfl (by first | exact .inl rfl | exact .inr rfl) (de_if (dt_cmp op_gtD (de_var (pv 1)) de_int) (de_call (F_divisor.mono (by decide : 1 ≤ 2)) hr tk rfl (da_cons (de_var (pv 0)) (da_cons (de_var (pv 1)) da_nil))) (de_bin op_subD de_int (de_call (F_divisor.mono (by decide : 1 ≤ 2)) hr tk rfl (da_cons (de_var (pv 0)) (da_cons (de_var (pv 1)) da_nil)))))) (ds_one (ds_ret (de_tup (da_cons (de_bin op_fdivD (de_var (pv 0)) (de_var (pv 2))) (da_cons (de_bin op_fdivD (de_var (pv 1)) (de_var (pv 2))) da_nil)))))))
theorem fn_is_fraction (T : Txt P w K mg) (F_divisor : Fn P w K mg base 1 "divisor" 2 f_divisor) (F_is_integer : Fn P w K mg base 1 "is_integer" 1 f_is_integer) {f : Addr} {fd : FuncData} (F : Fun K "is_fraction" "is_fraction" (top 10) f fd) (hm : mg "is_fraction" = some (.ref f)) (hb : Binds K fd ["thing"] []) : Fn P w K mg base 2 "is_fraction" 1 f_is_fraction :=
  Fn.mk' F sc_is_fraction hm hb fun cdv A outer s H E hr => by
    have hu : (A.deeper (envOfC "is_fraction" (defScope (top 10)) s.heap.objs.size f cdv)).units + 64 < cLine := hr.units
    have tk : Takes (cxOf (L2.CX P w) P w K mg base ["thing", "part"] "is_fraction" (defScope (top 10)) f cdv A outer s H E) (fun cls d _ H => E cls d H) := takes_of rfl rfl rfl rfl
    exact (ds_cons (ds_if (PW.pt (dw_or (dt_not (dt_tru (de_isi rfl T.b_isinstance (de_var (pv 0)) (by decide) (pe_ty rfl T.b_tuple boot_tuple)))) (dw_or (dt_cmp (op_neDD hu) (de_blt cp_len rfl T.b_len boot_len (da_cons (de_var (pv 0)) da_nil)) de_int) (dw_or1 (dt_not (dt_tru (de_blt (cp_all rfl) rfl T.b_all boot_all (da_cons (de_fz (dm_lc rfl sc_is_fraction.nd (di_val (de_var (pv 0))) (own := [("part", 1)]) (blkOk_by (by kernel_rfl)) (by decide) (fun _ _ _ _ _ => (dg_name (pg_name sc_is_fraction.nd (i := 1) rfl (by first | exact .inl rfl | exact .inr rfl)))) (fun _ _ _ _ _ => dts_nil) (fun _ _ _ _ _ => (de_call (F_is_integer.mono (by decide : 1 ≤ 1)) hr takes0 rfl (da_cons (de_var (pv 1)) da_nil))))) da_nil)))))))) (ds_one (ds_ret de_bl)) ds_nil) (ds_one (ds_ret (de_and (de_cmp op_gtD (de_ix (de_var (pv 0)) de_int) de_int) (de_one (de_cmp (op_eqDD hu) (de_call (F_divisor.mono (by decide : 1 ≤ 1)) hr tk rfl (da_cons (de_ix (de_var (pv 0)) de_int) (da_cons (de_ix (de_var (pv 0)) de_int) da_nil))) de_int))))))
theorem fn_whole (T : Txt P w K mg)  {f : Addr} {fd : FuncData} (F : Fun K "whole" "whole" (top 11) f fd) (hm : mg "whole" = some (.ref f)) (hb : Binds K fd ["number"] []) : Fn P w K mg base 1 "whole" 1 f_whole :=
  Fn.mk' F sc_whole hm hb fun cdv A outer s H E hr => by
    have hu : (A.deeper (envOfC "whole" (defScope (top 11)) s.heap.objs.size f cdv)).units + 64 < cLine := hr.units
    have tk : Takes (cxOf (L2.CX P w) P w K mg base ["number"] "whole" (defScope (top 11)) f cdv A outer s H E) (fun cls d _ H => E cls d H) := takes_of rfl rfl rfl rfl
    exact (ds_one (ds_ret (de_tup (da_cons (de_var (pv 0)) (da_cons de_int da_nil)))))
theorem fn_plus (T : Txt P w K mg) (F_fraction : Fn P w K mg base 3 "fraction" 2 f_fraction) {f : Addr} {fd : FuncData} (F : Fun K "plus" "plus" (top 12) f fd) (hm : mg "plus" = some (.ref f)) (hb : Binds K fd ["one", "other"] []) : Fn P w K mg base 4 "plus" 2 f_plus :=
  Fn.mk' F sc_plus hm hb fun cdv A outer s H E hr => by
    have hu : (A.deeper (envOfC "plus" (defScope (top 12)) s.heap.objs.size f cdv)).units + 64 < cLine := hr.units
    have tk : Takes (cxOf (L2.CX P w) P w K mg base ["one", "other"] "plus" (defScope (top 12)) f cdv A outer s H E) (fun cls d _ H => E cls d H) := takes_of rfl rfl rfl rfl
    exact (ds_one (ds_ret (de_call (F_fraction.mono (by decide : 3 ≤ 3)) hr tk rfl (da_cons (de_bin op_addD (de_bin op_mulD (de_ix (de_var (pv 0)) de_int) (de_ix (de_var (pv 1)) de_int)) (de_bin op_mulD (de_ix (de_var (pv 1)) de_int) (de_ix (de_var (pv 0)) de_int))) (da_cons (de_bin op_mulD (de_ix (de_var (pv 0)) de_int) (de_ix (de_var (pv 1)) de_int)) da_nil)))))
theorem fn_minus (T : Txt P w K mg) (F_fraction : Fn P w K mg base 3 "fraction" 2 f_fraction) {f : Addr} {fd : FuncData} (F : Fun K "minus" "minus" (top 13) f fd) (hm : mg "minus" = some (.ref f)) (hb : Binds K fd ["one", "other"] []) : Fn P w K mg base 4 "minus" 2 f_minus :=
  Fn.mk' F sc_minus hm hb fun cdv A outer s H E hr => by
    have hu : (A.deeper (envOfC "minus" (defScope (top 13)) s.heap.objs.size f cdv)).units + 64 < cLine := hr.units
    have tk : Takes (cxOf (L2.CX P w) P w K mg base ["one", "other"] "minus" (defScope (top 13)) f cdv A outer s H E) (fun cls d _ H => E cls d H) := takes_of rfl rfl rfl rfl
    exact (ds_one (ds_ret (de_call (F_fraction.mono (by decide : 3 ≤ 3)) hr tk rfl (da_cons (de_bin op_subD (de_bin op_mulD (de_ix (de_var (pv 0)) de_int) (de_ix (de_var (pv 1)) de_int)) (de_bin op_mulD (de_ix (de_var (pv 1)) de_int) (de_ix (de_var (pv 0)) de_int))) (da_cons (de_bin op_mulD (de_ix (de_var (pv 0)) de_int) (de_ix (de_var (pv 1)) de_int)) da_nil)))))
theorem fn_multiplied (T : Txt P w K mg) (F_fraction : Fn P w K mg base 3 "fraction" 2 f_fraction) {f : Addr} {fd : FuncData} (F : Fun K "multiplied" "multiplied" (top 14) f fd) (hm : mg "multiplied" = some (.ref f)) (hb : Binds K fd ["one", "other"] []) : Fn P w K mg base 4 "multiplied" 2 f_multiplied :=
  Fn.mk' F sc_multiplied hm hb fun cdv A outer s H E hr => by
    have hu : (A.deeper (envOfC "multiplied" (defScope (top 14)) s.heap.objs.size f cdv)).units + 64 < cLine := hr.units
    have tk : Takes (cxOf (L2.CX P w) P w K mg base ["one", "other"] "multiplied" (defScope (top 14)) f cdv A outer s H E) (fun cls d _ H => E cls d H) := takes_of rfl rfl rfl rfl
    exact (ds_one (ds_ret (de_call (F_fraction.mono (by decide : 3 ≤ 3)) hr tk rfl (da_cons (de_bin op_mulD (de_ix (de_var (pv 0)) de_int) (de_ix (de_var (pv 1)) de_int)) (da_cons (de_bin op_mulD (de_ix (de_var (pv 0)) de_int) (de_ix (de_var (pv 1)) de_int)) da_nil)))))
theorem fn_ratio (T : Txt P w K mg) (F_fraction : Fn P w K mg base 3 "fraction" 2 f_fraction) {f : Addr} {fd : FuncData} (F : Fun K "ratio" "ratio" (top 15) f fd) (hm : mg "ratio" = some (.ref f)) (hb : Binds K fd ["one", "other"] []) : Fn P w K mg base 4 "ratio" 2 f_ratio :=
  Fn.mk' F sc_ratio hm hb fun cdv A outer s H E hr => by
    have hu : (A.deeper (envOfC "ratio" (defScope (top 15)) s.heap.objs.size f cdv)).units + 64 < cLine := hr.units
    have tk : Takes (cxOf (L2.CX P w) P w K mg base ["one", "other"] "ratio" (defScope (top 15)) f cdv A outer s H E) (fun cls d _ H => E cls d H) := takes_of rfl rfl rfl rfl
    exact (ds_one (ds_ret (de_call (F_fraction.mono (by decide : 3 ≤ 3)) hr tk rfl (da_cons (de_bin op_mulD (de_ix (de_var (pv 0)) de_int) (de_ix (de_var (pv 1)) de_int)) (da_cons (de_bin op_mulD (de_ix (de_var (pv 0)) de_int) (de_ix (de_var (pv 1)) de_int)) da_nil)))))
theorem fn_is_less (T : Txt P w K mg)  {f : Addr} {fd : FuncData} (F : Fun K "is_less" "is_less" (top 16) f fd) (hm : mg "is_less" = some (.ref f)) (hb : Binds K fd ["one", "other"] []) : Fn P w K mg base 1 "is_less" 2 f_is_less :=
  Fn.mk' F sc_is_less hm hb fun cdv A outer s H E hr => by
    have hu : (A.deeper (envOfC "is_less" (defScope (top 16)) s.heap.objs.size f cdv)).units + 64 < cLine := hr.units
    have tk : Takes (cxOf (L2.CX P w) P w K mg base ["one", "other"] "is_less" (defScope (top 16)) f cdv A outer s H E) (fun cls d _ H => E cls d H) := takes_of rfl rfl rfl rfl
    exact (ds_one (ds_ret (de_cmp op_ltD (de_bin op_mulD (de_ix (de_var (pv 0)) de_int) (de_ix (de_var (pv 1)) de_int)) (de_bin op_mulD (de_ix (de_var (pv 1)) de_int) (de_ix (de_var (pv 0)) de_int)))))
theorem fn_floor_of (T : Txt P w K mg)  {f : Addr} {fd : FuncData} (F : Fun K "floor_of" "floor_of" (top 17) f fd) (hm : mg "floor_of" = some (.ref f)) (hb : Binds K fd ["one"] []) : Fn P w K mg base 1 "floor_of" 1 f_floor_of :=
  Fn.mk' F sc_floor_of hm hb fun cdv A outer s H E hr => by
    have hu : (A.deeper (envOfC "floor_of" (defScope (top 17)) s.heap.objs.size f cdv)).units + 64 < cLine := hr.units
    have tk : Takes (cxOf (L2.CX P w) P w K mg base ["one"] "floor_of" (defScope (top 17)) f cdv A outer s H E) (fun cls d _ H => E cls d H) := takes_of rfl rfl rfl rfl
    exact (ds_one (ds_ret (de_bin op_fdivD (de_ix (de_var (pv 0)) de_int) (de_ix (de_var (pv 0)) de_int))))
theorem fn_total (T : Txt P w K mg) (F_plus : Fn P w K mg base 4 "plus" 2 f_plus) {f : Addr} {fd : FuncData} (F : Fun K "total" "total" (top 18) f fd) (hm : mg "total" = some (.ref f)) (hb : Binds K fd ["fractions"] []) : Fn P w K mg base 5 "total" 1 f_total :=
  Fn.mk' F sc_total hm hb fun cdv A outer s H E hr => by
    have hu : (A.deeper (envOfC "total" (defScope (top 18)) s.heap.objs.size f cdv)).units + 64 < cLine := hr.units
    have tk : Takes (cxOf (L2.CX P w) P w K mg base ["fractions", "found", "one"] "total" (defScope (top 18)) f cdv A outer s H E) (fun cls d _ H => E cls d H) := takes_of rfl rfl rfl rfl
    exact (ds_cons (ds_set sc_total.nd (i := 1) rfl (by first | exact .inl rfl | exact .inr rfl) (de_glob T.g_ZERO rfl)) (ds_cons (ds_for (passes_of rfl) rfl (di_val (de_var (pv 0))) (dg_name (pg_name sc_total.nd (i := 2) rfl (by first | exact .inl rfl | exact .inr rfl))) (ds_one (ds_set sc_total.nd (i := 1) rfl (by first | exact .inl rfl | exact .inr rfl) (de_call (F_plus.mono (by decide : 4 ≤ 4)) hr tk rfl (da_cons (de_var (pv 1)) (da_cons (de_var (pv 2)) da_nil)))))) (ds_one (ds_ret (de_var (pv 1))))))
theorem fn_weighed (T : Txt P w K mg) (F_multiplied : Fn P w K mg base 4 "multiplied" 2 f_multiplied) (F_total : Fn P w K mg base 5 "total" 1 f_total) (F_whole : Fn P w K mg base 1 "whole" 1 f_whole) {f : Addr} {fd : FuncData} (F : Fun K "weighed" "weighed" (top 19) f fd) (hm : mg "weighed" = some (.ref f)) (hb : Binds K fd ["numbers", "fractions"] []) : Fn P w K mg base 6 "weighed" 2 f_weighed :=
  Fn.mk' F sc_weighed hm hb fun cdv A outer s H E hr => by
    have hu : (A.deeper (envOfC "weighed" (defScope (top 19)) s.heap.objs.size f cdv)).units + 64 < cLine := hr.units
    have tk : Takes (cxOf (L2.CX P w) P w K mg base ["numbers", "fractions", "number", "one"] "weighed" (defScope (top 19)) f cdv A outer s H E) (fun cls d _ H => E cls d H) := takes_of rfl rfl rfl rfl
    exact (ds_one (ds_ret (de_call (F_total.mono (by decide : 5 ≤ 5)) hr tk rfl (da_cons (de_fz (dm_lc rfl sc_weighed.nd (di_zip rfl T.b_zip (da_cons (de_var (pv 0)) (da_cons (de_var (pv 1)) da_nil))) (own := [("number", 2), ("one", 3)]) (blkOk_by (by kernel_rfl)) (by decide) (fun _ _ _ _ _ => (dg_tup rfl (dgs_cons (dg_name (pg_name sc_weighed.nd (i := 2) rfl (by first | exact .inl rfl | exact .inr rfl))) (dgs_cons (dg_name (pg_name sc_weighed.nd (i := 3) rfl (by first | exact .inl rfl | exact .inr rfl))) dgs_nil)))) (fun _ _ _ _ _ => dts_nil) (fun _ _ _ _ _ => (de_call (F_multiplied.mono (by decide : 4 ≤ 5)) hr takes0 rfl (da_cons (de_call (F_whole.mono (by decide : 1 ≤ 5)) hr takes0 rfl (da_cons (de_var (pv 2)) da_nil)) (da_cons (de_var (pv 3)) da_nil)))))) da_nil))))
theorem fn__law_bag (T : Txt P w K mg)  {f : Addr} {fd : FuncData} (F : Fun K "_law_bag" "_law_bag" (top 21) f fd) (hm : mg "_law_bag" = some (.ref f)) (hb : Binds K fd ["script"] []) : Fn P w K mg base 1 "_law_bag" 1 f__law_bag :=
  Fn.mk' F sc__law_bag hm hb fun cdv A outer s H E hr => by
    have hu : (A.deeper (envOfC "_law_bag" (defScope (top 21)) s.heap.objs.size f cdv)).units + 64 < cLine := hr.units
    have tk : Takes (cxOf (L2.CX P w) P w K mg base ["script", "cell"] "_law_bag" (defScope (top 21)) f cdv A outer s H E) (fun cls d _ H => E cls d H) := takes_of rfl rfl rfl rfl
    exact (ds_one (ds_ret (de_own (dm_lst (da_cons de_int (da_cons de_int (da_cons de_int (da_cons (de_fz (dm_lc rfl sc__law_bag.nd (di_val (de_sl (de_var (pv 0)) do_non (do_som de_int))) (own := [("cell", 1)]) (blkOk_by (by kernel_rfl)) (by decide) (fun _ _ _ _ _ => (dg_name (pg_name sc__law_bag.nd (i := 1) rfl (by first | exact .inl rfl | exact .inr rfl)))) (fun _ _ _ _ _ => dts_nil) (fun _ _ _ _ _ => (de_blt cp_abs rfl T.b_abs boot_abs (da_cons (de_var (pv 1)) da_nil))))) da_nil))))))))
theorem fn__law_take (T : Txt P w K mg)  {f : Addr} {fd : FuncData} (F : Fun K "_law_take" "_law_take" (top 22) f fd) (hm : mg "_law_take" = some (.ref f)) (hb : Binds K fd ["bag", "many"] []) : Fn P w K mg base 1 "_law_take" 2 f__law_take :=
  Fn.mk' F sc__law_take hm hb fun cdv A outer s H E hr => by
    have hu : (A.deeper (envOfC "_law_take" (defScope (top 22)) s.heap.objs.size f cdv)).units + 64 < cLine := hr.units
    have tk : Takes (cxOf (L2.CX P w) P w K mg base ["bag", "many", "cell", "stirred", "value", "begin", "second"] "_law_take" (defScope (top 22)) f cdv A outer s H E) (fun cls d _ H => E cls d H) := takes_of rfl rfl rfl rfl
    exact (ds_cons (ds_if (dt_cmp (op_eqDD hu) (de_ix (de_var (pv 0)) de_int) de_int) (ds_cons (ds_set sc__law_take.nd (i := 2) rfl (by first | exact .inl rfl | exact .inr rfl) (de_ix (de_bin op_addD (de_sl (de_ix (de_var (pv 0)) de_int) (do_som (de_ix (de_var (pv 0)) de_int)) do_non) (de_fz (dm_lst (da_cons de_int da_nil)))) de_int)) (ds_cons (ds_augI (de_var (pv 0)) de_int de_int ipd_iadd) (ds_cons (ds_if (dt_cmp op_geD (de_var (pv 2)) (de_bin op_powD de_int de_int)) (ds_one (ds_put (de_var (pv 0)) de_int (de_var (pv 2)))) ds_nil) (ds_cons (ds_set sc__law_take.nd (i := 3) rfl (by first | exact .inl rfl | exact .inr rfl) (de_bin op_addD (de_bin op_addD (de_bin op_mulD (de_ix (de_var (pv 0)) de_int) de_int) (de_bin op_modD (de_bty cp_int rfl T.b_int boot_int (da_cons (de_var (pv 2)) da_nil)) de_int)) (de_bin op_mulD de_int (de_ix (de_var (pv 0)) de_int)))) (ds_one (ds_put (de_var (pv 0)) de_int (de_bin op_modD (de_bty cp_int rfl T.b_int boot_int (da_cons (de_var (pv 3)) da_nil)) de_int))))))) ds_nil) (ds_cons (ds_if (dt_cmp op_gtD (de_ix (de_var (pv 0)) de_int) de_int) (ds_cons (ds_set sc__law_take.nd (i := 4) rfl (by first | exact .inl rfl | exact .inr rfl) (de_bin op_modD (de_bty cp_int rfl T.b_int boot_int (da_cons (de_ix (de_var (pv 0)) de_int) da_nil)) (de_var (pv 1)))) (ds_cons (ds_put (de_var (pv 0)) de_int (de_bin op_fdivD (de_bty cp_int rfl T.b_int boot_int (da_cons (de_ix (de_var (pv 0)) de_int) da_nil)) (de_var (pv 1)))) (ds_one (ds_ret (de_var (pv 4)))))) ds_nil) (ds_cons (ds_set sc__law_take.nd (i := 5) rfl (by first | exact .inl rfl | exact .inr rfl) (de_bin op_modD (de_bty cp_int rfl T.b_int boot_int (da_cons (de_bin op_mulD (de_bin op_addD (de_ix (de_var (pv 0)) de_int) de_int) de_int) da_nil)) de_int)) (ds_cons (ds_set sc__law_take.nd (i := 6) rfl (by first | exact .inl rfl | exact .inr rfl) (de_bin op_modD (de_bty cp_int rfl T.b_int boot_int (da_cons (de_bin op_mulD (de_bin op_modD (de_bty cp_int rfl T.b_int boot_int (da_cons (de_bin op_mulD (de_var (pv 5)) (de_var (pv 5))) da_nil)) de_int) de_int) da_nil)) de_int)) (ds_one (ds_ret (de_bin op_modD (de_bty cp_int rfl T.b_int boot_int (da_cons (de_bin op_fdivD (de_var (pv 6)) de_int) da_nil)) (de_var (pv 1)))))))))
theorem fn__law_some (T : Txt P w K mg) (F__law_take : Fn P w K mg base 1 "_law_take" 2 f__law_take) {f : Addr} {fd : FuncData} (F : Fun K "_law_some" "_law_some" (top 23) f fd) (hm : mg "_law_some" = some (.ref f)) (hb : Binds K fd ["bag", "things"] []) : Fn P w K mg base 2 "_law_some" 2 f__law_some :=
  Fn.mk' F sc__law_some hm hb fun cdv A outer s H E hr => by
    have hu : (A.deeper (envOfC "_law_some" (defScope (top 23)) s.heap.objs.size f cdv)).units + 64 < cLine := hr.units
    have tk : Takes (cxOf (L2.CX P w) P w K mg base ["bag", "things"] "_law_some" (defScope (top 23)) f cdv A outer s H E) (fun cls d _ H => E cls d H) := takes_of rfl rfl rfl rfl
    exact (ds_one (ds_ret (de_ix (de_var (pv 1)) (de_call (F__law_take.mono (by decide : 1 ≤ 1)) hr tk rfl (da_cons (de_var (pv 0)) (da_cons (de_blt cp_len rfl T.b_len boot_len (da_cons (de_var (pv 1)) da_nil)) da_nil))))))
theorem fn__law_alike (T : Txt P w K mg)  {f : Addr} {fd : FuncData} (F : Fun K "_law_alike" "_law_alike" (top 24) f fd) (hm : mg "_law_alike" = some (.ref f)) (hb : Binds K fd ["found", "due"] []) : Fn P w K mg base 1 "_law_alike" 2 f__law_alike :=
  Fn.mk' F sc__law_alike hm hb fun cdv A outer s H E hr => by
    have hu : (A.deeper (envOfC "_law_alike" (defScope (top 24)) s.heap.objs.size f cdv)).units + 64 < cLine := hr.units
    have tk : Takes (cxOf (L2.CX P w) P w K mg base ["found", "due", "pairs", "at", "one", "other"] "_law_alike" (defScope (top 24)) f cdv A outer s H E) (fun cls d _ H => E cls d H) := takes_of rfl rfl rfl rfl
    exact (ds_cons (ds_par (i := 2) (j := 3) rfl sc__law_alike.nd rfl rfl (by decide) rfl rfl (de_own (dm_lst (da_cons (de_tup (da_cons (de_var (pv 0)) (da_cons (de_var (pv 1)) da_nil))) da_nil))) de_int) (ds_cons (ds_while (passes_of rfl) (dt_cmp op_ltD (de_var (pv 3)) (de_blt cp_len rfl T.b_len boot_len (da_cons (de_var (pv 2)) da_nil))) (ds_cons (ds_asg (de_ix (de_var (pv 2)) (de_var (pv 3))) (dg_tup rfl (dgs_cons (dg_name (pg_name sc__law_alike.nd (i := 4) rfl (by first | exact .inl rfl | exact .inr rfl))) (dgs_cons (dg_name (pg_name sc__law_alike.nd (i := 5) rfl (by first | exact .inl rfl | exact .inr rfl))) dgs_nil)))) (ds_cons (ds_aug sc__law_alike.nd (i := 3) rfl (by first | exact .inl rfl | exact .inr rfl) de_int ipd_iadd) (ds_cons (ds_if (PW.pt (dw_or (dt_cmp (op_neDD hu) (de_isi rfl T.b_isinstance (de_var (pv 4)) (by decide) (pe_ty rfl T.b_bool boot_bool)) (de_isi rfl T.b_isinstance (de_var (pv 5)) (by decide) (pe_ty rfl T.b_bool boot_bool))) (dw_or1 (dt_cmp (op_neDD hu) (de_isi rfl T.b_isinstance (de_var (pv 4)) (by decide) (pe_ty rfl T.b_str boot_str)) (de_isi rfl T.b_isinstance (de_var (pv 5)) (by decide) (pe_ty rfl T.b_str boot_str)))))) (ds_one (ds_ret de_bl)) ds_nil) (ds_cons (ds_if (dt_cmp (op_neDD hu) (de_isi2 rfl T.b_isinstance (de_var (pv 4)) (by decide) (by decide) (pe_ty rfl T.b_tuple boot_tuple) (pe_ty rfl T.b_list boot_list)) (de_isi2 rfl T.b_isinstance (de_var (pv 5)) (by decide) (by decide) (pe_ty rfl T.b_tuple boot_tuple) (pe_ty rfl T.b_list boot_list))) (ds_one (ds_ret de_bl)) ds_nil) (ds_one (ds_if (dt_tru (de_isi2 rfl T.b_isinstance (de_var (pv 4)) (by decide) (by decide) (pe_ty rfl T.b_tuple boot_tuple) (pe_ty rfl T.b_list boot_list))) (ds_cons (ds_if (PW.pt (dw_or (dt_cmp (op_neDD hu) (de_isi rfl T.b_isinstance (de_var (pv 4)) (by decide) (pe_ty rfl T.b_tuple boot_tuple)) (de_isi rfl T.b_isinstance (de_var (pv 5)) (by decide) (pe_ty rfl T.b_tuple boot_tuple))) (dw_or1 (dt_cmp (op_neDD hu) (de_blt cp_len rfl T.b_len boot_len (da_cons (de_var (pv 4)) da_nil)) (de_blt cp_len rfl T.b_len boot_len (da_cons (de_var (pv 5)) da_nil)))))) (ds_one (ds_ret de_bl)) ds_nil) (ds_one (ds_expr (de_extend (de_var (pv 2)) (dm_listzip rfl rfl T.b_list rfl T.b_zip (da_cons (de_var (pv 4)) (da_cons (de_var (pv 5)) da_nil))))))) (ds_one (ds_if (dt_cmp (op_neDD hu) (de_var (pv 4)) (de_var (pv 5))) (ds_one (ds_ret de_bl)) ds_nil))))))))) (ds_one (ds_ret de_bl))))
theorem fn__law_is_int (T : Txt P w K mg)  {f : Addr} {fd : FuncData} (F : Fun K "_law_is_int" "_law_is_int" (top 25) f fd) (hm : mg "_law_is_int" = some (.ref f)) (hb : Binds K fd ["thing"] []) : Fn P w K mg base 1 "_law_is_int" 1 f__law_is_int :=
  Fn.mk' F sc__law_is_int hm hb fun cdv A outer s H E hr => by
    have hu : (A.deeper (envOfC "_law_is_int" (defScope (top 25)) s.heap.objs.size f cdv)).units + 64 < cLine := hr.units
    have tk : Takes (cxOf (L2.CX P w) P w K mg base ["thing"] "_law_is_int" (defScope (top 25)) f cdv A outer s H E) (fun cls d _ H => E cls d H) := takes_of rfl rfl rfl rfl
    exact (ds_one (ds_ret (de_and (de_isi rfl T.b_isinstance (de_var (pv 0)) (by decide) (pe_ty rfl T.b_int boot_int)) (de_one (de_not (de_isi rfl T.b_isinstance (de_var (pv 0)) (by decide) (pe_ty rfl T.b_bool boot_bool)))))))
theorem fn__law_common (T : Txt P w K mg)  {f : Addr} {fd : FuncData} (F : Fun K "_law_common" "_law_common" (top 26) f fd) (hm : mg "_law_common" = some (.ref f)) (hb : Binds K fd ["one", "other"] []) : Fn P w K mg base 1 "_law_common" 2 f__law_common :=
  Fn.mk' F sc__law_common hm hb fun cdv A outer s H E hr => by
    have hu : (A.deeper (envOfC "_law_common" (defScope (top 26)) s.heap.objs.size f cdv)).units + 64 < cLine := hr.units
    have tk : Takes (cxOf (L2.CX P w) P w K mg base ["one", "other"] "_law_common" (defScope (top 26)) f cdv A outer s H E) (fun cls d _ H => E cls d H) := takes_of rfl rfl rfl rfl
    exact (ds_cons (ds_while (passes_of rfl) (dt_cmp op_gtD (de_var (pv 1)) de_int) (ds_one (ds_par (i := 0) (j := 1) rfl sc__law_common.nd rfl rfl (by decide) rfl rfl (de_var (pv 1)) (de_bin op_modD (de_bty cp_int rfl T.b_int boot_int (da_cons (de_var (pv 0)) da_nil)) (de_var (pv 1)))))) (ds_one (ds_ret (de_var (pv 0)))))
theorem fn__law_fraction (T : Txt P w K mg) (F__law_common : Fn P w K mg base 1 "_law_common" 2 f__law_common) {f : Addr} {fd : FuncData} (F : Fun K "_law_fraction" "_law_fraction" (top 27) f fd) (hm : mg "_law_fraction" = some (.ref f)) (hb : Binds K fd ["one", "other"] []) : Fn P w K mg base 2 "_law_fraction" 2 f__law_fraction :=
  Fn.mk' F sc__law_fraction hm hb fun cdv A outer s H E hr => by
    have hu : (A.deeper (envOfC "_law_fraction" (defScope (top 27)) s.heap.objs.size f cdv)).units + 64 < cLine := hr.units
    have tk : Takes (cxOf (L2.CX P w) P w K mg base ["one", "other", "shared"] "_law_fraction" (defScope (top 27)) f cdv A outer s H E) (fun cls d _ H => E cls d H) := takes_of rfl rfl rfl rfl
    exact (ds_cons (ds_if (dt_cmp op_ltD (de_var (pv 1)) de_int) (ds_one (ds_par (i := 0) (j := 1) rfl sc__law_fraction.nd rfl rfl (by decide) rfl rfl (un_negD (de_var (pv 0))) (un_negD (de_var (pv 1))))) ds_nil) (ds_cons (ds_set sc__law_fraction.nd (i := 2) rfl (by first | exact .inl rfl | exact .inr rfl) (de_call (F__law_common.mono (by decide : 1 ≤ 1)) hr tk rfl (da_cons (de_blt cp_abs rfl T.b_abs boot_abs (da_cons (de_var (pv 0)) da_nil)) (da_cons (de_var (pv 1)) da_nil)))) (ds_one (ds_ret (de_tup (da_cons (de_bin op_fdivD (de_var (pv 0)) (de_var (pv 2))) (da_cons (de_bin op_fdivD (de_var (pv 1)) (de_var (pv 2))) da_nil)))))))
theorem fn__law_fraction_plus (T : Txt P w K mg) (F__law_fraction : Fn P w K mg base 2 "_law_fraction" 2 f__law_fraction) {f : Addr} {fd : FuncData} (F : Fun K "_law_fraction_plus" "_law_fraction_plus" (top 28) f fd) (hm : mg "_law_fraction_plus" = some (.ref f)) (hb : Binds K fd ["one", "other"] []) : Fn P w K mg base 3 "_law_fraction_plus" 2 f__law_fraction_plus :=
  Fn.mk' F sc__law_fraction_plus hm hb fun cdv A outer s H E hr => by
    have hu : (A.deeper (envOfC "_law_fraction_plus" (defScope (top 28)) s.heap.objs.size f cdv)).units + 64 < cLine := hr.units
    have tk : Takes (cxOf (L2.CX P w) P w K mg base ["one", "other"] "_law_fraction_plus" (defScope (top 28)) f cdv A outer s H E) (fun cls d _ H => E cls d H) := takes_of rfl rfl rfl rfl
    exact (ds_one (ds_ret (de_call (F__law_fraction.mono (by decide : 2 ≤ 2)) hr tk rfl (da_cons (de_bin op_addD (de_bin op_mulD (de_ix (de_var (pv 0)) de_int) (de_ix (de_var (pv 1)) de_int)) (de_bin op_mulD (de_ix (de_var (pv 1)) de_int) (de_ix (de_var (pv 0)) de_int))) (da_cons (de_bin op_mulD (de_ix (de_var (pv 0)) de_int) (de_ix (de_var (pv 1)) de_int)) da_nil)))))
theorem fn__law_fraction_times (T : Txt P w K mg) (F__law_fraction : Fn P w K mg base 2 "_law_fraction" 2 f__law_fraction) {f : Addr} {fd : FuncData} (F : Fun K "_law_fraction_times" "_law_fraction_times" (top 29) f fd) (hm : mg "_law_fraction_times" = some (.ref f)) (hb : Binds K fd ["one", "other"] []) : Fn P w K mg base 3 "_law_fraction_times" 2 f__law_fraction_times :=
  Fn.mk' F sc__law_fraction_times hm hb fun cdv A outer s H E hr => by
    have hu : (A.deeper (envOfC "_law_fraction_times" (defScope (top 29)) s.heap.objs.size f cdv)).units + 64 < cLine := hr.units
    have tk : Takes (cxOf (L2.CX P w) P w K mg base ["one", "other"] "_law_fraction_times" (defScope (top 29)) f cdv A outer s H E) (fun cls d _ H => E cls d H) := takes_of rfl rfl rfl rfl
    exact (ds_one (ds_ret (de_call (F__law_fraction.mono (by decide : 2 ≤ 2)) hr tk rfl (da_cons (de_bin op_mulD (de_ix (de_var (pv 0)) de_int) (de_ix (de_var (pv 1)) de_int)) (da_cons (de_bin op_mulD (de_ix (de_var (pv 0)) de_int) (de_ix (de_var (pv 1)) de_int)) da_nil)))))
theorem fn__law_is_fraction_less (T : Txt P w K mg)  {f : Addr} {fd : FuncData} (F : Fun K "_law_is_fraction_less" "_law_is_fraction_less" (top 30) f fd) (hm : mg "_law_is_fraction_less" = some (.ref f)) (hb : Binds K fd ["one", "other"] []) : Fn P w K mg base 1 "_law_is_fraction_less" 2 f__law_is_fraction_less :=
  Fn.mk' F sc__law_is_fraction_less hm hb fun cdv A outer s H E hr => by
    have hu : (A.deeper (envOfC "_law_is_fraction_less" (defScope (top 30)) s.heap.objs.size f cdv)).units + 64 < cLine := hr.units
    have tk : Takes (cxOf (L2.CX P w) P w K mg base ["one", "other"] "_law_is_fraction_less" (defScope (top 30)) f cdv A outer s H E) (fun cls d _ H => E cls d H) := takes_of rfl rfl rfl rfl
    exact (ds_one (ds_ret (de_cmp op_ltD (de_bin op_mulD (de_ix (de_var (pv 0)) de_int) (de_ix (de_var (pv 1)) de_int)) (de_bin op_mulD (de_ix (de_var (pv 1)) de_int) (de_ix (de_var (pv 0)) de_int)))))
theorem fn__law_weighed (T : Txt P w K mg) (F__law_fraction : Fn P w K mg base 2 "_law_fraction" 2 f__law_fraction) (F__law_fraction_plus : Fn P w K mg base 3 "_law_fraction_plus" 2 f__law_fraction_plus) {f : Addr} {fd : FuncData} (F : Fun K "_law_weighed" "_law_weighed" (top 31) f fd) (hm : mg "_law_weighed" = some (.ref f)) (hb : Binds K fd ["numbers", "fractions"] []) : Fn P w K mg base 4 "_law_weighed" 2 f__law_weighed :=
  Fn.mk' F sc__law_weighed hm hb fun cdv A outer s H E hr => by
    have hu : (A.deeper (envOfC "_law_weighed" (defScope (top 31)) s.heap.objs.size f cdv)).units + 64 < cLine := hr.units
    have tk : Takes (cxOf (L2.CX P w) P w K mg base ["numbers", "fractions", "found", "number", "one"] "_law_weighed" (defScope (top 31)) f cdv A outer s H E) (fun cls d _ H => E cls d H) := takes_of rfl rfl rfl rfl
    exact (ds_cons (ds_set sc__law_weighed.nd (i := 2) rfl (by first | exact .inl rfl | exact .inr rfl) (de_tup (da_cons de_int (da_cons de_int da_nil)))) (ds_cons (ds_for (passes_of rfl) rfl (di_zip rfl T.b_zip (da_cons (de_var (pv 0)) (da_cons (de_var (pv 1)) da_nil))) (dg_tup rfl (dgs_cons (dg_name (pg_name sc__law_weighed.nd (i := 3) rfl (by first | exact .inl rfl | exact .inr rfl))) (dgs_cons (dg_name (pg_name sc__law_weighed.nd (i := 4) rfl (by first | exact .inl rfl | exact .inr rfl))) dgs_nil))) (ds_one (ds_set sc__law_weighed.nd (i := 2) rfl (by first | exact .inl rfl | exact .inr rfl) (de_call (F__law_fraction_plus.mono (by decide : 3 ≤ 3)) hr tk rfl (da_cons (de_var (pv 2)) (da_cons (de_call (F__law_fraction.mono (by decide : 2 ≤ 3)) hr tk rfl (da_cons (de_bin op_mulD (de_var (pv 3)) (de_ix (de_var (pv 4)) de_int)) (da_cons (de_ix (de_var (pv 4)) de_int) da_nil))) da_nil)))))) (ds_one (ds_ret (de_var (pv 2))))))
theorem fn__law_is_fraction (T : Txt P w K mg) (F__law_common : Fn P w K mg base 1 "_law_common" 2 f__law_common) (F__law_is_int : Fn P w K mg base 1 "_law_is_int" 1 f__law_is_int) {f : Addr} {fd : FuncData} (F : Fun K "_law_is_fraction" "_law_is_fraction" (top 32) f fd) (hm : mg "_law_is_fraction" = some (.ref f)) (hb : Binds K fd ["thing"] []) : Fn P w K mg base 2 "_law_is_fraction" 1 f__law_is_fraction :=
  Fn.mk' F sc__law_is_fraction hm hb fun cdv A outer s H E hr => by
    have hu : (A.deeper (envOfC "_law_is_fraction" (defScope (top 32)) s.heap.objs.size f cdv)).units + 64 < cLine := hr.units
    have tk : Takes (cxOf (L2.CX P w) P w K mg base ["thing"] "_law_is_fraction" (defScope (top 32)) f cdv A outer s H E) (fun cls d _ H => E cls d H) := takes_of rfl rfl rfl rfl
    exact (ds_cons (ds_if (PW.pt (dw_or (dt_not (dt_tru (de_isi rfl T.b_isinstance (de_var (pv 0)) (by decide) (pe_ty rfl T.b_tuple boot_tuple)))) (dw_or (dt_cmp (op_neDD hu) (de_blt cp_len rfl T.b_len boot_len (da_cons (de_var (pv 0)) da_nil)) de_int) (dw_or (dt_not (dt_tru (de_call (F__law_is_int.mono (by decide : 1 ≤ 1)) hr tk rfl (da_cons (de_ix (de_var (pv 0)) de_int) da_nil)))) (dw_or (dt_not (dt_tru (de_call (F__law_is_int.mono (by decide : 1 ≤ 1)) hr tk rfl (da_cons (de_ix (de_var (pv 0)) de_int) da_nil)))) (dw_or1 (dt_cmp op_ltD (de_ix (de_var (pv 0)) de_int) de_int))))))) (ds_one (ds_ret de_bl)) ds_nil) (ds_one (ds_ret (de_cmp (op_eqDD hu) (de_call (F__law_common.mono (by decide : 1 ≤ 1)) hr tk rfl (da_cons (de_blt cp_abs rfl T.b_abs boot_abs (da_cons (de_ix (de_var (pv 0)) de_int) da_nil)) (da_cons (de_ix (de_var (pv 0)) de_int) da_nil))) de_int))))
theorem fn__law_odd (T : Txt P w K mg) (F__law_some : Fn P w K mg base 2 "_law_some" 2 f__law_some) {f : Addr} {fd : FuncData} (F : Fun K "_law_odd" "_law_odd" (top 33) f fd) (hm : mg "_law_odd" = some (.ref f)) (hb : Binds K fd ["bag"] []) : Fn P w K mg base 3 "_law_odd" 1 f__law_odd :=
  Fn.mk' F sc__law_odd hm hb fun cdv A outer s H E hr => by
    have hu : (A.deeper (envOfC "_law_odd" (defScope (top 33)) s.heap.objs.size f cdv)).units + 64 < cLine := hr.units
    have tk : Takes (cxOf (L2.CX P w) P w K mg base ["bag"] "_law_odd" (defScope (top 33)) f cdv A outer s H E) (fun cls d _ H => E cls d H) := takes_of rfl rfl rfl rfl
    exact (ds_one (ds_ret (de_call (F__law_some.mono (by decide : 2 ≤ 2)) hr tk rfl (da_cons (de_var (pv 0)) (da_cons (de_fz (dm_lst (da_cons de_non (da_cons de_bl (da_cons de_int (da_cons de_str (da_cons (de_tup da_nil) (da_cons (de_tup (da_cons (de_tup da_nil) da_nil)) (da_cons (de_fz (dm_lst da_nil)) (da_cons de_dic0 (da_cons (de_tup (da_cons de_str (da_cons de_int da_nil))) (da_cons (de_tup (da_cons de_int (da_cons de_int da_nil))) (da_cons (de_bin op_powD de_int de_int) (da_cons (de_tup (da_cons de_int (da_cons (un_negD de_int) da_nil))) (da_cons (de_tup (da_cons de_int (da_cons de_int da_nil))) da_nil))))))))))))))) da_nil)))))
theorem ok_law (T : Txt P w K mg) (F__law_alike : Fn P w K mg base 1 "_law_alike" 2 f__law_alike) (F__law_bag : Fn P w K mg base 1 "_law_bag" 1 f__law_bag) (F__law_fraction : Fn P w K mg base 2 "_law_fraction" 2 f__law_fraction) (F__law_fraction_plus : Fn P w K mg base 3 "_law_fraction_plus" 2 f__law_fraction_plus) (F__law_fraction_times : Fn P w K mg base 3 "_law_fraction_times" 2 f__law_fraction_times) (F__law_is_fraction : Fn P w K mg base 2 "_law_is_fraction" 1 f__law_is_fraction) (F__law_is_fraction_less : Fn P w K mg base 1 "_law_is_fraction_less" 2 f__law_is_fraction_less) (F__law_is_int : Fn P w K mg base 1 "_law_is_int" 1 f__law_is_int) (F__law_odd : Fn P w K mg base 3 "_law_odd" 1 f__law_odd) (F__law_some : Fn P w K mg base 2 "_law_some" 2 f__law_some) (F__law_take : Fn P w K mg base 1 "_law_take" 2 f__law_take) (F__law_weighed : Fn P w K mg base 4 "_law_weighed" 2 f__law_weighed) (F_floor_of : Fn P w K mg base 1 "floor_of" 1 f_floor_of) (F_fraction : Fn P w K mg base 3 "fraction" 2 f_fraction) (F_is_fraction : Fn P w K mg base 2 "is_fraction" 1 f_is_fraction) (F_is_less : Fn P w K mg base 1 "is_less" 2 f_is_less) (F_minus : Fn P w K mg base 4 "minus" 2 f_minus) (F_multiplied : Fn P w K mg base 4 "multiplied" 2 f_multiplied) (F_plus : Fn P w K mg base 4 "plus" 2 f_plus) (F_ratio : Fn P w K mg base 4 "ratio" 2 f_ratio) (F_total : Fn P w K mg base 5 "total" 1 f_total) (F_weighed : Fn P w K mg base 6 "weighed" 2 f_weighed) {f cP tP : Addr} {od an : Option Addr} {sl : Array (Option Value)} {oc kV dc pm ct : Value} (lk : K.lookup f = some ⟨oc, od, .func (PySem.W.fnOf "law" "law" (defArgs (top 35)) (defBody (top 35)) (defScope (top 35)) .none kV dc pm an (.ref cP) ct), sl⟩) (hcd : PySem.W.codeIn K (.ref cP) "law" = true) (TB : LamX.TabB base mg cP tP) : FnOk P w K mg base (L2.CX P w) 7 f (PySem.W.fnOf "law" "law" (defArgs (top 35)) (defBody (top 35)) (defScope (top 35)) .none kV dc pm an (.ref cP) ct) ["script"] (spD K mg 1 (f_law tP)) :=
  Fn.okC lk hcd sc_law fun A outer s H E hr => by
    have hu : (A.deeper (envOfC "law" (defScope (top 35)) s.heap.objs.size f (.ref cP))).units + 64 < cLine := hr.units
    have tk : Takes (cxOf (L2.CX P w) P w K mg base ["script", "bag", "turn", "size", "numbers", "unders", "made", "one", "other", "opposite", "due", "told", "least", "whole_v", "thing", "again", "top", "under"] "law" (defScope (top 35)) f (.ref cP) A outer s H E) (fun cls d _ H => E cls d H) := takes_of rfl rfl rfl rfl
    exact (ds_cons (ds_set sc_law.nd (i := 1) rfl (by first | exact .inl rfl | exact .inr rfl) (de_call (F__law_bag.mono (by decide : 1 ≤ 6)) hr tk rfl (da_cons (de_var (pv 0)) da_nil))) (ds_cons (ds_for (passes_of rfl) rfl (di_range1 rfl T.b_range (da_cons de_int da_nil)) (dg_name (pg_name sc_law.nd (i := 2) rfl (by first | exact .inl rfl | exact .inr rfl))) (ds_cons (ds_set sc_law.nd (i := 3) rfl (by first | exact .inl rfl | exact .inr rfl) (de_call (F__law_some.mono (by decide : 2 ≤ 6)) hr tk rfl (da_cons (de_var (pv 1)) (da_cons (de_fz (dm_lst (da_cons de_int (da_cons de_int (da_cons (de_bin op_powD de_int de_int) da_nil))))) da_nil)))) (ds_cons (ds_set sc_law.nd (i := 4) rfl (by first | exact .inl rfl | exact .inr rfl) (de_fz (dm_lc rfl sc_law.nd (di_range1 rfl T.b_range (da_cons de_int da_nil)) (own := [("again", 15)]) (blkOk_by (by kernel_rfl)) (by decide) (fun _ _ _ _ _ => (dg_name (pg_name sc_law.nd (i := 15) rfl (by first | exact .inl rfl | exact .inr rfl)))) (fun _ _ _ _ _ => dts_nil) (fun _ _ _ _ _ => (de_bin op_subD (de_call (F__law_take.mono (by decide : 1 ≤ 6)) hr takes0 rfl (da_cons (de_var (pv 1)) (da_cons (de_bin op_addD (de_bin op_mulD de_int (de_var (pv 3))) de_int) da_nil))) (de_var (pv 3))))))) (ds_cons (ds_setLc (j := 5) rfl sc_law.nd rfl rfl (sw_true rfl rfl rfl (by kernel_rfl)) (di_range1 rfl T.b_range (da_cons de_int da_nil)) (own := [("again", 15)]) (blkOk_by (by kernel_rfl)) (by decide) (fun _ _ _ _ _ => (dg_name (pg_name sc_law.nd (i := 15) rfl (by first | exact .inl rfl | exact .inr rfl)))) (fun _ _ _ _ _ => dts_nil) (fun _ _ _ _ _ => (de_bin op_addD de_int (de_call (F__law_take.mono (by decide : 1 ≤ 6)) hr takes0 rfl (da_cons (de_var (pv 1)) (da_cons (de_var (pv 3)) da_nil)))))) (ds_cons (ds_setLc (j := 6) rfl sc_law.nd rfl rfl (sw_true rfl rfl rfl (by kernel_rfl)) (di_zip rfl T.b_zip (da_cons (de_var (pv 4)) (da_cons (de_var (pv 5)) da_nil))) (own := [("top", 16), ("under", 17)]) (blkOk_by (by kernel_rfl)) (by decide) (fun _ _ _ _ _ => (dg_tup rfl (dgs_cons (dg_name (pg_name sc_law.nd (i := 16) rfl (by first | exact .inl rfl | exact .inr rfl))) (dgs_cons (dg_name (pg_name sc_law.nd (i := 17) rfl (by first | exact .inl rfl | exact .inr rfl))) dgs_nil)))) (fun _ _ _ _ _ => dts_nil) (fun _ _ _ _ _ => (de_call (F__law_fraction.mono (by decide : 2 ≤ 6)) hr takes0 rfl (da_cons (de_var (pv 16)) (da_cons (de_var (pv 17)) da_nil))))) (ds_cons (ds_asg (de_sl (de_var (pv 6)) do_non (do_som de_int)) (dg_tup rfl (dgs_cons (dg_name (pg_name sc_law.nd (i := 7) rfl (by first | exact .inl rfl | exact .inr rfl))) (dgs_cons (dg_name (pg_name sc_law.nd (i := 8) rfl (by first | exact .inl rfl | exact .inr rfl))) dgs_nil)))) (ds_cons (ds_if (dt_not (dt_tru (de_call (F__law_alike.mono (by decide : 1 ≤ 6)) hr tk rfl (da_cons (de_fz (dm_lst (da_cons (de_call (F_fraction.mono (by decide : 3 ≤ 6)) hr tk rfl (da_cons (de_ix (de_var (pv 4)) de_int) (da_cons (de_ix (de_var (pv 5)) de_int) da_nil))) (da_cons (de_call (F_fraction.mono (by decide : 3 ≤ 6)) hr tk rfl (da_cons (de_ix (de_var (pv 4)) de_int) (da_cons (de_bin op_subD de_int (de_ix (de_var (pv 5)) de_int)) da_nil))) da_nil)))) (da_cons (de_fz (dm_lst (da_cons (de_var (pv 7)) (da_cons (de_tup (da_cons (de_bin op_subD de_int (de_ix (de_var (pv 7)) de_int)) (da_cons (de_ix (de_var (pv 7)) de_int) da_nil))) da_nil)))) da_nil))))) (ds_one (ds_ret de_bl)) ds_nil) (ds_cons (ds_set sc_law.nd (i := 9) rfl (by first | exact .inl rfl | exact .inr rfl) (de_tup (da_cons (de_bin op_subD de_int (de_ix (de_var (pv 8)) de_int)) (da_cons (de_ix (de_var (pv 8)) de_int) da_nil)))) (ds_cons (ds_set sc_law.nd (i := 10) rfl (by first | exact .inl rfl | exact .inr rfl) (de_fz (dm_lst (da_cons (de_call (F__law_fraction_plus.mono (by decide : 3 ≤ 6)) hr tk rfl (da_cons (de_var (pv 7)) (da_cons (de_var (pv 8)) da_nil))) (da_cons (de_call (F__law_fraction_plus.mono (by decide : 3 ≤ 6)) hr tk rfl (da_cons (de_var (pv 7)) (da_cons (de_var (pv 9)) da_nil))) (da_cons (de_call (F__law_fraction_times.mono (by decide : 3 ≤ 6)) hr tk rfl (da_cons (de_var (pv 7)) (da_cons (de_var (pv 8)) da_nil))) da_nil)))))) (ds_cons (ds_if (dt_not (dt_tru (de_call (F__law_alike.mono (by decide : 1 ≤ 6)) hr tk rfl (da_cons (de_fz (dm_lst (da_cons (de_call (F_plus.mono (by decide : 4 ≤ 6)) hr tk rfl (da_cons (de_var (pv 7)) (da_cons (de_var (pv 8)) da_nil))) (da_cons (de_call (F_minus.mono (by decide : 4 ≤ 6)) hr tk rfl (da_cons (de_var (pv 7)) (da_cons (de_var (pv 8)) da_nil))) (da_cons (de_call (F_multiplied.mono (by decide : 4 ≤ 6)) hr tk rfl (da_cons (de_var (pv 7)) (da_cons (de_var (pv 8)) da_nil))) da_nil))))) (da_cons (de_var (pv 10)) da_nil))))) (ds_one (ds_ret de_bl)) ds_nil) (ds_cons (ds_set sc_law.nd (i := 11) rfl (by first | exact .inl rfl | exact .inr rfl) (de_lamF (k := 4) T.l__law_refused rfl rfl TB rfl hr (LamX.lamS_by (by kernel_rfl)) rfl (fun _ _ _ _ _ => rfl) (fun A outer s H E f c' hr => have hu := hr.units; have tk := takes_of (E := E) rfl rfl rfl rfl; (de_call (F_ratio.mono (by decide : 4 ≤ 4)) hr tk rfl (da_cons (de_var (pv 7)) (da_cons (de_var (pv 8)) da_nil)))))) (ds_cons (ds_if (dt_not (dt_tru (de_call (F__law_alike.mono (by decide : 1 ≤ 6)) hr tk rfl (da_cons (de_var (pv 11)) (da_cons (de_if (dt_cmp (op_neDD hu) (de_ix (de_var (pv 8)) de_int) de_int) (de_tup (da_cons de_str (da_cons (de_call (F__law_fraction.mono (by decide : 2 ≤ 6)) hr tk rfl (da_cons (de_bin op_mulD (de_ix (de_var (pv 7)) de_int) (de_ix (de_var (pv 8)) de_int)) (da_cons (de_bin op_mulD (de_ix (de_var (pv 7)) de_int) (de_ix (de_var (pv 8)) de_int)) da_nil))) da_nil))) (de_tup (da_cons de_str (da_cons de_str da_nil)))) da_nil))))) (ds_one (ds_ret de_bl)) ds_nil) (ds_cons (ds_if (dt_cmp (op_neDD hu) (de_lamF (k := 4) T.l__law_refused rfl rfl TB rfl hr (LamX.lamS_by (by kernel_rfl)) rfl (fun _ _ _ _ _ => rfl) (fun A outer s H E f c' hr => have hu := hr.units; have tk := takes_of (E := E) rfl rfl rfl rfl; (de_call (F_fraction.mono (by decide : 3 ≤ 4)) hr tk rfl (da_cons (de_ix (de_var (pv 4)) de_int) (da_cons de_int da_nil))))) (de_tup (da_cons de_str (da_cons de_str da_nil)))) (ds_one (ds_ret de_bl)) ds_nil) (ds_cons (ds_set sc_law.nd (i := 12) rfl (by first | exact .inl rfl | exact .inr rfl) (de_call (F_floor_of.mono (by decide : 1 ≤ 6)) hr tk rfl (da_cons (de_var (pv 7)) da_nil))) (ds_cons (ds_if (PW.pt (dw_or (dt_not (dt_tru (de_call (F__law_is_int.mono (by decide : 1 ≤ 6)) hr tk rfl (da_cons (de_var (pv 12)) da_nil)))) (dw_or1 (dt_not (dt_ch op_leD op_ltD (de_bin op_mulD (de_var (pv 12)) (de_ix (de_var (pv 7)) de_int)) (de_ix (de_var (pv 7)) de_int) (de_bin op_mulD (de_bin op_addD (de_var (pv 12)) de_int) (de_ix (de_var (pv 7)) de_int))))))) (ds_one (ds_ret de_bl)) ds_nil) (ds_cons (ds_if (dt_not (dt_tru (de_call (F__law_alike.mono (by decide : 1 ≤ 6)) hr tk rfl (da_cons (de_fz (dm_lst (da_cons (de_call (F_is_less.mono (by decide : 1 ≤ 6)) hr tk rfl (da_cons (de_var (pv 7)) (da_cons (de_var (pv 8)) da_nil))) (da_cons (de_call (F_is_less.mono (by decide : 1 ≤ 6)) hr tk rfl (da_cons (de_var (pv 7)) (da_cons (de_var (pv 7)) da_nil))) da_nil)))) (da_cons (de_fz (dm_lst (da_cons (de_call (F__law_is_fraction_less.mono (by decide : 1 ≤ 6)) hr tk rfl (da_cons (de_var (pv 7)) (da_cons (de_var (pv 8)) da_nil))) (da_cons de_bl da_nil)))) da_nil))))) (ds_one (ds_ret de_bl)) ds_nil) (ds_cons (ds_set sc_law.nd (i := 13) rfl (by first | exact .inl rfl | exact .inr rfl) (de_call (F__law_weighed.mono (by decide : 4 ≤ 6)) hr tk rfl (da_cons (de_fz (dm_rep (dm_lst (da_cons de_int da_nil)))) (da_cons (de_var (pv 6)) da_nil)))) (ds_cons (ds_if (dt_not (dt_tru (de_call (F__law_alike.mono (by decide : 1 ≤ 6)) hr tk rfl (da_cons (de_fz (dm_lst (da_cons (de_call (F_total.mono (by decide : 5 ≤ 6)) hr tk rfl (da_cons (de_bty cp_tup rfl T.b_tuple boot_tuple (da_cons (de_var (pv 6)) da_nil)) da_nil)) (da_cons (de_call (F_total.mono (by decide : 5 ≤ 6)) hr tk rfl (da_cons (de_tup da_nil) da_nil)) (da_cons (de_call (F_weighed.mono (by decide : 6 ≤ 6)) hr tk rfl (da_cons (de_bty cp_tup rfl T.b_tuple boot_tuple (da_cons (de_var (pv 4)) da_nil)) (da_cons (de_bty cp_tup rfl T.b_tuple boot_tuple (da_cons (de_var (pv 6)) da_nil)) da_nil))) da_nil))))) (da_cons (de_fz (dm_lst (da_cons (de_var (pv 13)) (da_cons (de_tup (da_cons de_int (da_cons de_int da_nil))) (da_cons (de_call (F__law_weighed.mono (by decide : 4 ≤ 6)) hr tk rfl (da_cons (de_var (pv 4)) (da_cons (de_var (pv 6)) da_nil))) da_nil))))) da_nil))))) (ds_one (ds_ret de_bl)) ds_nil) (ds_one (ds_for (passes_of rfl) rfl (di_val (de_bin op_addD (de_var (pv 6)) (de_fz (dm_lst (da_cons (de_tup (da_cons (de_ix (de_var (pv 4)) de_int) (da_cons (de_ix (de_var (pv 5)) de_int) da_nil))) (da_cons (de_tup (da_cons de_int (da_cons de_int da_nil))) (da_cons (de_tup (da_cons de_int (da_cons de_int da_nil))) (da_cons (de_tup (da_cons de_int (da_cons de_int da_nil))) (da_cons (de_tup (da_cons de_int (da_cons (un_negD de_int) da_nil))) (da_cons (de_tup (da_cons de_bl (da_cons de_int da_nil))) (da_cons (de_fz (dm_lst (da_cons de_int (da_cons de_int da_nil)))) (da_cons (de_tup (da_cons de_int (da_cons de_int (da_cons de_int da_nil)))) (da_cons (de_call (F__law_odd.mono (by decide : 3 ≤ 6)) hr tk rfl (da_cons (de_var (pv 1)) da_nil)) da_nil))))))))))))) (dg_name (pg_name sc_law.nd (i := 14) rfl (by first | exact .inl rfl | exact .inr rfl))) (ds_one (ds_if (dt_not (dt_tru (de_call (F__law_alike.mono (by decide : 1 ≤ 6)) hr tk rfl (da_cons (de_call (F_is_fraction.mono (by decide : 2 ≤ 6)) hr tk rfl (da_cons (de_var (pv 14)) da_nil)) (da_cons (de_call (F__law_is_fraction.mono (by decide : 2 ≤ 6)) hr tk rfl (da_cons (de_var (pv 14)) da_nil)) da_nil))))) (ds_one (ds_ret de_bl)) ds_nil)))))))))))))))))))))) (ds_one (ds_ret de_bl))))
end
theorem all_mk {w : World} {K : PySem.W.Frag} {h : Heap} {mg : Str → Option Value} {fa : Addr} (X : K.In h) (G : h.Ns mainGlobals mg) (hfa : mg "law" = some (.ref fa))
    {tP : Addr} (hlaw : ∀ ns : List Int, ns.length ≤ 63 → (∀ z ∈ ns, Builtin.Int.intBits z ≤ 1048576) → f_law tP [.d (.list (ns.map PyData.int))] [.tab tP lamQ] = .ok (.d (.bool true)) [.tab tP lamQ])
    {f_is_integer' : Addr} {od_is_integer an_is_integer : Option Addr} {sl_is_integer : Array (Option Value)} {oc_is_integer kV_is_integer dc_is_integer pm_is_integer cd_is_integer ct_is_integer : Value}
    {f_divisor' : Addr} {od_divisor an_divisor : Option Addr} {sl_divisor : Array (Option Value)} {oc_divisor kV_divisor dc_divisor pm_divisor cd_divisor ct_divisor : Value}
    {f_fraction' : Addr} {od_fraction an_fraction : Option Addr} {sl_fraction : Array (Option Value)} {oc_fraction kV_fraction dc_fraction pm_fraction cd_fraction ct_fraction : Value}
    {f_is_fraction' : Addr} {od_is_fraction an_is_fraction : Option Addr} {sl_is_fraction : Array (Option Value)} {oc_is_fraction kV_is_fraction dc_is_fraction pm_is_fraction cd_is_fraction ct_is_fraction : Value}
    {f_whole' : Addr} {od_whole an_whole : Option Addr} {sl_whole : Array (Option Value)} {oc_whole kV_whole dc_whole pm_whole cd_whole ct_whole : Value}
    {f_plus' : Addr} {od_plus an_plus : Option Addr} {sl_plus : Array (Option Value)} {oc_plus kV_plus dc_plus pm_plus cd_plus ct_plus : Value}
    {f_minus' : Addr} {od_minus an_minus : Option Addr} {sl_minus : Array (Option Value)} {oc_minus kV_minus dc_minus pm_minus cd_minus ct_minus : Value}
    {f_multiplied' : Addr} {od_multiplied an_multiplied : Option Addr} {sl_multiplied : Array (Option Value)} {oc_multiplied kV_multiplied dc_multiplied pm_multiplied cd_multiplied ct_multiplied : Value}
    {f_ratio' : Addr} {od_ratio an_ratio : Option Addr} {sl_ratio : Array (Option Value)} {oc_ratio kV_ratio dc_ratio pm_ratio cd_ratio ct_ratio : Value}
    {f_is_less' : Addr} {od_is_less an_is_less : Option Addr} {sl_is_less : Array (Option Value)} {oc_is_less kV_is_less dc_is_less pm_is_less cd_is_less ct_is_less : Value}
    {f_floor_of' : Addr} {od_floor_of an_floor_of : Option Addr} {sl_floor_of : Array (Option Value)} {oc_floor_of kV_floor_of dc_floor_of pm_floor_of cd_floor_of ct_floor_of : Value}
    {f_total' : Addr} {od_total an_total : Option Addr} {sl_total : Array (Option Value)} {oc_total kV_total dc_total pm_total cd_total ct_total : Value}
    {f_weighed' : Addr} {od_weighed an_weighed : Option Addr} {sl_weighed : Array (Option Value)} {oc_weighed kV_weighed dc_weighed pm_weighed cd_weighed ct_weighed : Value}
    {f__law_bag' : Addr} {od__law_bag an__law_bag : Option Addr} {sl__law_bag : Array (Option Value)} {oc__law_bag kV__law_bag dc__law_bag pm__law_bag cd__law_bag ct__law_bag : Value}
    {f__law_take' : Addr} {od__law_take an__law_take : Option Addr} {sl__law_take : Array (Option Value)} {oc__law_take kV__law_take dc__law_take pm__law_take cd__law_take ct__law_take : Value}
    {f__law_some' : Addr} {od__law_some an__law_some : Option Addr} {sl__law_some : Array (Option Value)} {oc__law_some kV__law_some dc__law_some pm__law_some cd__law_some ct__law_some : Value}
    {f__law_alike' : Addr} {od__law_alike an__law_alike : Option Addr} {sl__law_alike : Array (Option Value)} {oc__law_alike kV__law_alike dc__law_alike pm__law_alike cd__law_alike ct__law_alike : Value}
    {f__law_is_int' : Addr} {od__law_is_int an__law_is_int : Option Addr} {sl__law_is_int : Array (Option Value)} {oc__law_is_int kV__law_is_int dc__law_is_int pm__law_is_int cd__law_is_int ct__law_is_int : Value}
    {f__law_common' : Addr} {od__law_common an__law_common : Option Addr} {sl__law_common : Array (Option Value)} {oc__law_common kV__law_common dc__law_common pm__law_common cd__law_common ct__law_common : Value}
    {f__law_fraction' : Addr} {od__law_fraction an__law_fraction : Option Addr} {sl__law_fraction : Array (Option Value)} {oc__law_fraction kV__law_fraction dc__law_fraction pm__law_fraction cd__law_fraction ct__law_fraction : Value}
    {f__law_fraction_plus' : Addr} {od__law_fraction_plus an__law_fraction_plus : Option Addr} {sl__law_fraction_plus : Array (Option Value)} {oc__law_fraction_plus kV__law_fraction_plus dc__law_fraction_plus pm__law_fraction_plus cd__law_fraction_plus ct__law_fraction_plus : Value}
    {f__law_fraction_times' : Addr} {od__law_fraction_times an__law_fraction_times : Option Addr} {sl__law_fraction_times : Array (Option Value)} {oc__law_fraction_times kV__law_fraction_times dc__law_fraction_times pm__law_fraction_times cd__law_fraction_times ct__law_fraction_times : Value}
    {f__law_is_fraction_less' : Addr} {od__law_is_fraction_less an__law_is_fraction_less : Option Addr} {sl__law_is_fraction_less : Array (Option Value)} {oc__law_is_fraction_less kV__law_is_fraction_less dc__law_is_fraction_less pm__law_is_fraction_less cd__law_is_fraction_less ct__law_is_fraction_less : Value}
    {f__law_weighed' : Addr} {od__law_weighed an__law_weighed : Option Addr} {sl__law_weighed : Array (Option Value)} {oc__law_weighed kV__law_weighed dc__law_weighed pm__law_weighed cd__law_weighed ct__law_weighed : Value}
    {f__law_is_fraction' : Addr} {od__law_is_fraction an__law_is_fraction : Option Addr} {sl__law_is_fraction : Array (Option Value)} {oc__law_is_fraction kV__law_is_fraction dc__law_is_fraction pm__law_is_fraction cd__law_is_fraction ct__law_is_fraction : Value}
    {f__law_odd' : Addr} {od__law_odd an__law_odd : Option Addr} {sl__law_odd : Array (Option Value)} {oc__law_odd kV__law_odd dc__law_odd pm__law_odd cd__law_odd ct__law_odd : Value}
    {cP : Addr} {f_law' : Addr} {od_law an_law : Option Addr} {sl_law : Array (Option Value)} {oc_law kV_law dc_law pm_law  ct_law : Value}
    {f__law_refused' : Addr} {od__law_refused an__law_refused : Option Addr} {sl__law_refused : Array (Option Value)} {oc__law_refused kV__law_refused dc__law_refused pm__law_refused cd__law_refused ct__law_refused : Value}
    {C_Refused N_Refused i_Refused ca_Refused cc_Refused : Addr} {nm_Refused qn_Refused : Str} {bs_Refused bm_Refused sb_Refused : List Value} {sn_Refused : List Str} {ab_Refused : Bool} {co_Refused : Option Bool} {dd_Refused io_Refused ia_Refused clo_Refused : Option Addr} {k0_Refused k1_Refused k2_Refused k3_Refused k5_Refused : Option Value} {kV_Refused doc_Refused pm_Refused ct_Refused oc_Refused cl_Refused : Value} {is_Refused cs_Refused : Array (Option Value)}
    (xa_Refused : PySem.W.nsIn K mainGlobals "Refused" = some (some (.ref C_Refused)))
    (xb_Refused : K.lookup C_Refused = some (excClassObj nm_Refused qn_Refused C_Refused N_Refused bs_Refused bm_Refused true sn_Refused sb_Refused ab_Refused co_Refused dd_Refused k0_Refused k1_Refused k2_Refused k3_Refused k5_Refused "ValueError.__new__"))
    (xc_Refused : PySem.HandSPX.refsVE bm_Refused = true)
    (xd_Refused : PySem.W.findIn K (.ref C_Refused) "__setattr__" = some (some (.builtin "object.__setattr__")))
    (xe_Refused : PySem.W.subIn K (.ref C_Refused) (.type "BaseException") = some true)
    (xf_Refused : PySem.W.typeIn K (.ref C_Refused) = some (.type "type"))
    (xg_Refused : PySem.W.keepIn K (.ref C_Refused) = true)
    (xh_Refused : PySem.W.findIn K (.ref C_Refused) "__init__" = some (some (.ref i_Refused)))
    (xi_Refused : PySem.W.typeIn K (.ref i_Refused) = some (.type "function"))
    (xj_Refused : K.lookup i_Refused = some ⟨oc_Refused, io_Refused, .func (PySem.W.ksFn "__init__" "Refused.__init__" (defArgs (mem (top 3) 0)) (defBody (mem (top 3) 0)) (defScope (mem (top 3) 0)) .none kV_Refused doc_Refused pm_Refused ia_Refused (.ref ca_Refused) ct_Refused cc_Refused), is_Refused⟩)
    (xk_Refused : PySem.W.codeIn K (.ref ca_Refused) "Refused.__init__" = true)
    (xl_Refused : fileIn PySem.Challenge.pw_basketfair_k35_fractions K ca_Refused = true)
    (xm_Refused : K.lookup cc_Refused = some ⟨cl_Refused, clo_Refused, .cell (some (.ref C_Refused)), cs_Refused⟩)
    (xn_Refused : isCls K C_Refused = true)
    (xo_Refused : PySem.W.mroIn K C_Refused (.ref C_Refused) = some true)
    (xp_Refused : PySem.W.nsIn K PySem.cStatics "thirdparty.any" = some none)
    (xq_Refused : PySem.W.ks_superIn K C_Refused C_Refused "__init__" = some (some (.builtin "ValueError.__init__")))
    (xr_Refused : PySem.W.subIn K (.ref C_Refused) (.type "ValueError") = some true)
    (xs_Refused : PySem.W.nsIn K mainGlobals "super" = some none)
    (xtwhy_Refused : PySem.W.findIn K (.ref C_Refused) "why" = some none)
    (xu_Refused : xfB K C_Refused = true)
    (xv_Refused : PySem.W.exmOne K (.ref C_Refused) (.ref C_Refused) = some true)
    (z_abs : PySem.W.nsIn K mainGlobals "abs" = some none)
    (z_all : PySem.W.nsIn K mainGlobals "all" = some none)
    (z_bool : PySem.W.nsIn K mainGlobals "bool" = some none)
    (z_int : PySem.W.nsIn K mainGlobals "int" = some none)
    (z_isinstance : PySem.W.nsIn K mainGlobals "isinstance" = some none)
    (z_len : PySem.W.nsIn K mainGlobals "len" = some none)
    (z_list : PySem.W.nsIn K mainGlobals "list" = some none)
    (z_range : PySem.W.nsIn K mainGlobals "range" = some none)
    (z_str : PySem.W.nsIn K mainGlobals "str" = some none)
    (z_tuple : PySem.W.nsIn K mainGlobals "tuple" = some none)
    (z_zip : PySem.W.nsIn K mainGlobals "zip" = some none)
    {a_ZERO : Addr} {t0_ZERO t1_ZERO : Tok} {tod_ZERO : Option Addr} {tn_ZERO : Nat} {tsl_ZERO : Array (Option Value)} (v_ZERO : PySem.W.nsIn K mainGlobals "ZERO" = some (some (.ref a_ZERO))) (w_ZERO : K.lookup a_ZERO = some ⟨.type "tuple", tod_ZERO, .seq #[.int 0 t0_ZERO, .int 1 t1_ZERO] tn_ZERO, tsl_ZERO⟩)
    (a_is_integer : PySem.W.nsIn K mainGlobals "is_integer" = some (some (.ref f_is_integer'))) (l_is_integer : K.lookup f_is_integer' = some ⟨oc_is_integer, od_is_integer, .func (PySem.W.fnOf "is_integer" "is_integer" (defArgs (top 5)) (defBody (top 5)) (defScope (top 5)) .none kV_is_integer dc_is_integer pm_is_integer an_is_integer cd_is_integer ct_is_integer), sl_is_integer⟩) (c_is_integer : PySem.W.codeIn K cd_is_integer "is_integer" = true) (k_is_integer : PySem.W.keepIn K (.ref f_is_integer') = true)
    (a_divisor : PySem.W.nsIn K mainGlobals "divisor" = some (some (.ref f_divisor'))) (l_divisor : K.lookup f_divisor' = some ⟨oc_divisor, od_divisor, .func (PySem.W.fnOf "divisor" "divisor" (defArgs (top 8)) (defBody (top 8)) (defScope (top 8)) .none kV_divisor dc_divisor pm_divisor an_divisor cd_divisor ct_divisor), sl_divisor⟩) (c_divisor : PySem.W.codeIn K cd_divisor "divisor" = true) (k_divisor : PySem.W.keepIn K (.ref f_divisor') = true)
    (a_fraction : PySem.W.nsIn K mainGlobals "fraction" = some (some (.ref f_fraction'))) (l_fraction : K.lookup f_fraction' = some ⟨oc_fraction, od_fraction, .func (PySem.W.fnOf "fraction" "fraction" (defArgs (top 9)) (defBody (top 9)) (defScope (top 9)) .none kV_fraction dc_fraction pm_fraction an_fraction cd_fraction ct_fraction), sl_fraction⟩) (c_fraction : PySem.W.codeIn K cd_fraction "fraction" = true) (k_fraction : PySem.W.keepIn K (.ref f_fraction') = true)
    (a_is_fraction : PySem.W.nsIn K mainGlobals "is_fraction" = some (some (.ref f_is_fraction'))) (l_is_fraction : K.lookup f_is_fraction' = some ⟨oc_is_fraction, od_is_fraction, .func (PySem.W.fnOf "is_fraction" "is_fraction" (defArgs (top 10)) (defBody (top 10)) (defScope (top 10)) .none kV_is_fraction dc_is_fraction pm_is_fraction an_is_fraction cd_is_fraction ct_is_fraction), sl_is_fraction⟩) (c_is_fraction : PySem.W.codeIn K cd_is_fraction "is_fraction" = true) (k_is_fraction : PySem.W.keepIn K (.ref f_is_fraction') = true)
    (a_whole : PySem.W.nsIn K mainGlobals "whole" = some (some (.ref f_whole'))) (l_whole : K.lookup f_whole' = some ⟨oc_whole, od_whole, .func (PySem.W.fnOf "whole" "whole" (defArgs (top 11)) (defBody (top 11)) (defScope (top 11)) .none kV_whole dc_whole pm_whole an_whole cd_whole ct_whole), sl_whole⟩) (c_whole : PySem.W.codeIn K cd_whole "whole" = true) (k_whole : PySem.W.keepIn K (.ref f_whole') = true)
    (a_plus : PySem.W.nsIn K mainGlobals "plus" = some (some (.ref f_plus'))) (l_plus : K.lookup f_plus' = some ⟨oc_plus, od_plus, .func (PySem.W.fnOf "plus" "plus" (defArgs (top 12)) (defBody (top 12)) (defScope (top 12)) .none kV_plus dc_plus pm_plus an_plus cd_plus ct_plus), sl_plus⟩) (c_plus : PySem.W.codeIn K cd_plus "plus" = true) (k_plus : PySem.W.keepIn K (.ref f_plus') = true)
    (a_minus : PySem.W.nsIn K mainGlobals "minus" = some (some (.ref f_minus'))) (l_minus : K.lookup f_minus' = some ⟨oc_minus, od_minus, .func (PySem.W.fnOf "minus" "minus" (defArgs (top 13)) (defBody (top 13)) (defScope (top 13)) .none kV_minus dc_minus pm_minus an_minus cd_minus ct_minus), sl_minus⟩) (c_minus : PySem.W.codeIn K cd_minus "minus" = true) (k_minus : PySem.W.keepIn K (.ref f_minus') = true)
    (a_multiplied : PySem.W.nsIn K mainGlobals "multiplied" = some (some (.ref f_multiplied'))) (l_multiplied : K.lookup f_multiplied' = some ⟨oc_multiplied, od_multiplied, .func (PySem.W.fnOf "multiplied" "multiplied" (defArgs (top 14)) (defBody (top 14)) (defScope (top 14)) .none kV_multiplied dc_multiplied pm_multiplied an_multiplied cd_multiplied ct_multiplied), sl_multiplied⟩) (c_multiplied : PySem.W.codeIn K cd_multiplied "multiplied" = true) (k_multiplied : PySem.W.keepIn K (.ref f_multiplied') = true)
    (a_ratio : PySem.W.nsIn K mainGlobals "ratio" = some (some (.ref f_ratio'))) (l_ratio : K.lookup f_ratio' = some ⟨oc_ratio, od_ratio, .func (PySem.W.fnOf "ratio" "ratio" (defArgs (top 15)) (defBody (top 15)) (defScope (top 15)) .none kV_ratio dc_ratio pm_ratio an_ratio cd_ratio ct_ratio), sl_ratio⟩) (c_ratio : PySem.W.codeIn K cd_ratio "ratio" = true) (k_ratio : PySem.W.keepIn K (.ref f_ratio') = true)
    (a_is_less : PySem.W.nsIn K mainGlobals "is_less" = some (some (.ref f_is_less'))) (l_is_less : K.lookup f_is_less' = some ⟨oc_is_less, od_is_less, .func (PySem.W.fnOf "is_less" "is_less" (defArgs (top 16)) (defBody (top 16)) (defScope (top 16)) .none kV_is_less dc_is_less pm_is_less an_is_less cd_is_less ct_is_less), sl_is_less⟩) (c_is_less : PySem.W.codeIn K cd_is_less "is_less" = true) (k_is_less : PySem.W.keepIn K (.ref f_is_less') = true)
    (a_floor_of : PySem.W.nsIn K mainGlobals "floor_of" = some (some (.ref f_floor_of'))) (l_floor_of : K.lookup f_floor_of' = some ⟨oc_floor_of, od_floor_of, .func (PySem.W.fnOf "floor_of" "floor_of" (defArgs (top 17)) (defBody (top 17)) (defScope (top 17)) .none kV_floor_of dc_floor_of pm_floor_of an_floor_of cd_floor_of ct_floor_of), sl_floor_of⟩) (c_floor_of : PySem.W.codeIn K cd_floor_of "floor_of" = true) (k_floor_of : PySem.W.keepIn K (.ref f_floor_of') = true)
    (a_total : PySem.W.nsIn K mainGlobals "total" = some (some (.ref f_total'))) (l_total : K.lookup f_total' = some ⟨oc_total, od_total, .func (PySem.W.fnOf "total" "total" (defArgs (top 18)) (defBody (top 18)) (defScope (top 18)) .none kV_total dc_total pm_total an_total cd_total ct_total), sl_total⟩) (c_total : PySem.W.codeIn K cd_total "total" = true) (k_total : PySem.W.keepIn K (.ref f_total') = true)
    (a_weighed : PySem.W.nsIn K mainGlobals "weighed" = some (some (.ref f_weighed'))) (l_weighed : K.lookup f_weighed' = some ⟨oc_weighed, od_weighed, .func (PySem.W.fnOf "weighed" "weighed" (defArgs (top 19)) (defBody (top 19)) (defScope (top 19)) .none kV_weighed dc_weighed pm_weighed an_weighed cd_weighed ct_weighed), sl_weighed⟩) (c_weighed : PySem.W.codeIn K cd_weighed "weighed" = true) (k_weighed : PySem.W.keepIn K (.ref f_weighed') = true)
    (a__law_bag : PySem.W.nsIn K mainGlobals "_law_bag" = some (some (.ref f__law_bag'))) (l__law_bag : K.lookup f__law_bag' = some ⟨oc__law_bag, od__law_bag, .func (PySem.W.fnOf "_law_bag" "_law_bag" (defArgs (top 21)) (defBody (top 21)) (defScope (top 21)) .none kV__law_bag dc__law_bag pm__law_bag an__law_bag cd__law_bag ct__law_bag), sl__law_bag⟩) (c__law_bag : PySem.W.codeIn K cd__law_bag "_law_bag" = true) (k__law_bag : PySem.W.keepIn K (.ref f__law_bag') = true)
    (a__law_take : PySem.W.nsIn K mainGlobals "_law_take" = some (some (.ref f__law_take'))) (l__law_take : K.lookup f__law_take' = some ⟨oc__law_take, od__law_take, .func (PySem.W.fnOf "_law_take" "_law_take" (defArgs (top 22)) (defBody (top 22)) (defScope (top 22)) .none kV__law_take dc__law_take pm__law_take an__law_take cd__law_take ct__law_take), sl__law_take⟩) (c__law_take : PySem.W.codeIn K cd__law_take "_law_take" = true) (k__law_take : PySem.W.keepIn K (.ref f__law_take') = true)
    (a__law_some : PySem.W.nsIn K mainGlobals "_law_some" = some (some (.ref f__law_some'))) (l__law_some : K.lookup f__law_some' = some ⟨oc__law_some, od__law_some, .func (PySem.W.fnOf "_law_some" "_law_some" (defArgs (top 23)) (defBody (top 23)) (defScope (top 23)) .none kV__law_some dc__law_some pm__law_some an__law_some cd__law_some ct__law_some), sl__law_some⟩) (c__law_some : PySem.W.codeIn K cd__law_some "_law_some" = true) (k__law_some : PySem.W.keepIn K (.ref f__law_some') = true)
    (a__law_alike : PySem.W.nsIn K mainGlobals "_law_alike" = some (some (.ref f__law_alike'))) (l__law_alike : K.lookup f__law_alike' = some ⟨oc__law_alike, od__law_alike, .func (PySem.W.fnOf "_law_alike" "_law_alike" (defArgs (top 24)) (defBody (top 24)) (defScope (top 24)) .none kV__law_alike dc__law_alike pm__law_alike an__law_alike cd__law_alike ct__law_alike), sl__law_alike⟩) (c__law_alike : PySem.W.codeIn K cd__law_alike "_law_alike" = true) (k__law_alike : PySem.W.keepIn K (.ref f__law_alike') = true)
    (a__law_is_int : PySem.W.nsIn K mainGlobals "_law_is_int" = some (some (.ref f__law_is_int'))) (l__law_is_int : K.lookup f__law_is_int' = some ⟨oc__law_is_int, od__law_is_int, .func (PySem.W.fnOf "_law_is_int" "_law_is_int" (defArgs (top 25)) (defBody (top 25)) (defScope (top 25)) .none kV__law_is_int dc__law_is_int pm__law_is_int an__law_is_int cd__law_is_int ct__law_is_int), sl__law_is_int⟩) (c__law_is_int : PySem.W.codeIn K cd__law_is_int "_law_is_int" = true) (k__law_is_int : PySem.W.keepIn K (.ref f__law_is_int') = true)
    (a__law_common : PySem.W.nsIn K mainGlobals "_law_common" = some (some (.ref f__law_common'))) (l__law_common : K.lookup f__law_common' = some ⟨oc__law_common, od__law_common, .func (PySem.W.fnOf "_law_common" "_law_common" (defArgs (top 26)) (defBody (top 26)) (defScope (top 26)) .none kV__law_common dc__law_common pm__law_common an__law_common cd__law_common ct__law_common), sl__law_common⟩) (c__law_common : PySem.W.codeIn K cd__law_common "_law_common" = true) (k__law_common : PySem.W.keepIn K (.ref f__law_common') = true)
    (a__law_fraction : PySem.W.nsIn K mainGlobals "_law_fraction" = some (some (.ref f__law_fraction'))) (l__law_fraction : K.lookup f__law_fraction' = some ⟨oc__law_fraction, od__law_fraction, .func (PySem.W.fnOf "_law_fraction" "_law_fraction" (defArgs (top 27)) (defBody (top 27)) (defScope (top 27)) .none kV__law_fraction dc__law_fraction pm__law_fraction an__law_fraction cd__law_fraction ct__law_fraction), sl__law_fraction⟩) (c__law_fraction : PySem.W.codeIn K cd__law_fraction "_law_fraction" = true) (k__law_fraction : PySem.W.keepIn K (.ref f__law_fraction') = true)
    (a__law_fraction_plus : PySem.W.nsIn K mainGlobals "_law_fraction_plus" = some (some (.ref f__law_fraction_plus'))) (l__law_fraction_plus : K.lookup f__law_fraction_plus' = some ⟨oc__law_fraction_plus, od__law_fraction_plus, .func (PySem.W.fnOf "_law_fraction_plus" "_law_fraction_plus" (defArgs (top 28)) (defBody (top 28)) (defScope (top 28)) .none kV__law_fraction_plus dc__law_fraction_plus pm__law_fraction_plus an__law_fraction_plus cd__law_fraction_plus ct__law_fraction_plus), sl__law_fraction_plus⟩) (c__law_fraction_plus : PySem.W.codeIn K cd__law_fraction_plus "_law_fraction_plus" = true) (k__law_fraction_plus : PySem.W.keepIn K (.ref f__law_fraction_plus') = true)
    (a__law_fraction_times : PySem.W.nsIn K mainGlobals "_law_fraction_times" = some (some (.ref f__law_fraction_times'))) (l__law_fraction_times : K.lookup f__law_fraction_times' = some ⟨oc__law_fraction_times, od__law_fraction_times, .func (PySem.W.fnOf "_law_fraction_times" "_law_fraction_times" (defArgs (top 29)) (defBody (top 29)) (defScope (top 29)) .none kV__law_fraction_times dc__law_fraction_times pm__law_fraction_times an__law_fraction_times cd__law_fraction_times ct__law_fraction_times), sl__law_fraction_times⟩) (c__law_fraction_times : PySem.W.codeIn K cd__law_fraction_times "_law_fraction_times" = true) (k__law_fraction_times : PySem.W.keepIn K (.ref f__law_fraction_times') = true)
    (a__law_is_fraction_less : PySem.W.nsIn K mainGlobals "_law_is_fraction_less" = some (some (.ref f__law_is_fraction_less'))) (l__law_is_fraction_less : K.lookup f__law_is_fraction_less' = some ⟨oc__law_is_fraction_less, od__law_is_fraction_less, .func (PySem.W.fnOf "_law_is_fraction_less" "_law_is_fraction_less" (defArgs (top 30)) (defBody (top 30)) (defScope (top 30)) .none kV__law_is_fraction_less dc__law_is_fraction_less pm__law_is_fraction_less an__law_is_fraction_less cd__law_is_fraction_less ct__law_is_fraction_less), sl__law_is_fraction_less⟩) (c__law_is_fraction_less : PySem.W.codeIn K cd__law_is_fraction_less "_law_is_fraction_less" = true) (k__law_is_fraction_less : PySem.W.keepIn K (.ref f__law_is_fraction_less') = true)
    (a__law_weighed : PySem.W.nsIn K mainGlobals "_law_weighed" = some (some (.ref f__law_weighed'))) (l__law_weighed : K.lookup f__law_weighed' = some ⟨oc__law_weighed, od__law_weighed, .func (PySem.W.fnOf "_law_weighed" "_law_weighed" (defArgs (top 31)) (defBody (top 31)) (defScope (top 31)) .none kV__law_weighed dc__law_weighed pm__law_weighed an__law_weighed cd__law_weighed ct__law_weighed), sl__law_weighed⟩) (c__law_weighed : PySem.W.codeIn K cd__law_weighed "_law_weighed" = true) (k__law_weighed : PySem.W.keepIn K (.ref f__law_weighed') = true)
    (a__law_is_fraction : PySem.W.nsIn K mainGlobals "_law_is_fraction" = some (some (.ref f__law_is_fraction'))) (l__law_is_fraction : K.lookup f__law_is_fraction' = some ⟨oc__law_is_fraction, od__law_is_fraction, .func (PySem.W.fnOf "_law_is_fraction" "_law_is_fraction" (defArgs (top 32)) (defBody (top 32)) (defScope (top 32)) .none kV__law_is_fraction dc__law_is_fraction pm__law_is_fraction an__law_is_fraction cd__law_is_fraction ct__law_is_fraction), sl__law_is_fraction⟩) (c__law_is_fraction : PySem.W.codeIn K cd__law_is_fraction "_law_is_fraction" = true) (k__law_is_fraction : PySem.W.keepIn K (.ref f__law_is_fraction') = true)
    (a__law_odd : PySem.W.nsIn K mainGlobals "_law_odd" = some (some (.ref f__law_odd'))) (l__law_odd : K.lookup f__law_odd' = some ⟨oc__law_odd, od__law_odd, .func (PySem.W.fnOf "_law_odd" "_law_odd" (defArgs (top 33)) (defBody (top 33)) (defScope (top 33)) .none kV__law_odd dc__law_odd pm__law_odd an__law_odd cd__law_odd ct__law_odd), sl__law_odd⟩) (c__law_odd : PySem.W.codeIn K cd__law_odd "_law_odd" = true) (k__law_odd : PySem.W.keepIn K (.ref f__law_odd') = true)
    (a_law : PySem.W.nsIn K mainGlobals "law" = some (some (.ref f_law'))) (l_law : K.lookup f_law' = some ⟨oc_law, od_law, .func (PySem.W.fnOf "law" "law" (defArgs (top 35)) (defBody (top 35)) (defScope (top 35)) .none kV_law dc_law pm_law an_law (.ref cP) ct_law), sl_law⟩) (c_law : PySem.W.codeIn K (.ref cP) "law" = true) (k_law : PySem.W.keepIn K (.ref f_law') = true)
    (a__law_refused : PySem.W.nsIn K mainGlobals "_law_refused" = some (some (.ref f__law_refused'))) (l__law_refused : K.lookup f__law_refused' = some ⟨oc__law_refused, od__law_refused, .func (PySem.W.fnOf "_law_refused" "_law_refused" (defArgs (top 34)) (defBody (top 34)) (defScope (top 34)) .none kV__law_refused dc__law_refused pm__law_refused an__law_refused cd__law_refused ct__law_refused), sl__law_refused⟩) (c__law_refused : PySem.W.codeIn K cd__law_refused "_law_refused" = true) (k__law_refused : PySem.W.keepIn K (.ref f__law_refused') = true)
    : ∃ fd : FuncData, (∀ (s : Shared) (v : Value), BindsTo s fd ⟨[v], []⟩ [("script", v)]) ∧ ∀ base : Heap, K.In base → base.Ns mainGlobals mg → LamX.TabB base mg cP tP → FnOk PySem.Challenge.pw_basketfair_k35_fractions w K mg base (L2.CX PySem.Challenge.pw_basketfair_k35_fractions w) 7 fa fd ["script"] (spLawT K tP) := by
  have e := hfa.symm.trans (PySem.W.mg_of X G a_law)
  cases e
  have L__law_refused : Lf K mg "_law_refused" tt__law_refused := ⟨⟨f__law_refused', _, _, _, _, _, _, _, _, _, _, _, _, _, (["deed", "error"] : List Str), ("deed" : Str), PySem.W.mg_of X G a__law_refused, k__law_refused, l__law_refused, c__law_refused, Binds.all fun us hl => match us, hl with | [_], _ => rfl, ⟨rfl, rfl, rfl, by decide +kernel, rfl, by decide +kernel, by decide +kernel⟩, rfl, .inl rfl, by decide, by decide, fun Xc q eK eM => by subst eK; subst eM; exact gives1 (sg := defScope (top 34)) (a := "deed") (n := "error") (e := "Refused") (w1 := "told") (w2 := "refused") (fl := "why") (by decide) rfl (PySem.W.mg_of X G xa_Refused) (by decide) rfl (by decide) (by decide) (xfB_ok xu_Refused) xtwhy_Refused xv_Refused (by decide +kernel) (by decide +kernel)⟩⟩
  have T : Txt PySem.Challenge.pw_basketfair_k35_fractions w K mg := ⟨PySem.W.mg_none_of X G z_abs, PySem.W.mg_none_of X G z_all, PySem.W.mg_none_of X G z_bool, PySem.W.mg_none_of X G z_int, PySem.W.mg_none_of X G z_isinstance, PySem.W.mg_none_of X G z_len, PySem.W.mg_none_of X G z_list, PySem.W.mg_none_of X G z_range, PySem.W.mg_none_of X G z_str, PySem.W.mg_none_of X G z_tuple, PySem.W.mg_none_of X G z_zip, gv_tup (PySem.W.mg_of X G v_ZERO) w_ZERO (by show 2 ≤ sizeLine; decide) (vs := [.int 0, .int 1]) (.cons ⟨_, rfl⟩ (.cons ⟨_, rfl⟩ (.nil))) (fun H => .cons (.int _) (.cons (.int _) (.nil))), L__law_refused⟩
  have EC_Refused : ErC PySem.Challenge.pw_basketfair_k35_fractions K mg "Refused" C_Refused i_Refused ca_Refused cc_Refused := ⟨PySem.W.mg_of X G xa_Refused, ⟨⟨_, _, _, _, _, _, _, _, _, _, _, _, _, _, _, xb_Refused, xc_Refused⟩, xd_Refused, xe_Refused, xf_Refused, xg_Refused⟩, xh_Refused, xi_Refused, xl_Refused, ⟨_, _, _, xm_Refused⟩, xn_Refused, xo_Refused, xp_Refused, xq_Refused, xr_Refused, by decide +kernel, PySem.W.mg_none_of X G xs_Refused⟩
  have G_is_integer := fun_mk (st := top 5) l_is_integer c_is_integer k_is_integer
  have B_is_integer := G_is_integer.binds (ps := ["thing"]) fun _ _ _ _ _ _ us hl => match us, hl with | [_], _ => rfl
  have G_divisor := fun_mk (st := top 8) l_divisor c_divisor k_divisor
  have B_divisor := G_divisor.binds (ps := ["one", "other"]) fun _ _ _ _ _ _ us hl => match us, hl with | [_, _], _ => rfl
  have G_fraction := fun_mk (st := top 9) l_fraction c_fraction k_fraction
  have B_fraction := G_fraction.binds (ps := ["over", "under"]) fun _ _ _ _ _ _ us hl => match us, hl with | [_, _], _ => rfl
  have G_is_fraction := fun_mk (st := top 10) l_is_fraction c_is_fraction k_is_fraction
  have B_is_fraction := G_is_fraction.binds (ps := ["thing"]) fun _ _ _ _ _ _ us hl => match us, hl with | [_], _ => rfl
  have G_whole := fun_mk (st := top 11) l_whole c_whole k_whole
  have B_whole := G_whole.binds (ps := ["number"]) fun _ _ _ _ _ _ us hl => match us, hl with | [_], _ => rfl
  have G_plus := fun_mk (st := top 12) l_plus c_plus k_plus
  have B_plus := G_plus.binds (ps := ["one", "other"]) fun _ _ _ _ _ _ us hl => match us, hl with | [_, _], _ => rfl
  have G_minus := fun_mk (st := top 13) l_minus c_minus k_minus
  have B_minus := G_minus.binds (ps := ["one", "other"]) fun _ _ _ _ _ _ us hl => match us, hl with | [_, _], _ => rfl
  have G_multiplied := fun_mk (st := top 14) l_multiplied c_multiplied k_multiplied
  have B_multiplied := G_multiplied.binds (ps := ["one", "other"]) fun _ _ _ _ _ _ us hl => match us, hl with | [_, _], _ => rfl
  have G_ratio := fun_mk (st := top 15) l_ratio c_ratio k_ratio
  have B_ratio := G_ratio.binds (ps := ["one", "other"]) fun _ _ _ _ _ _ us hl => match us, hl with | [_, _], _ => rfl
  have G_is_less := fun_mk (st := top 16) l_is_less c_is_less k_is_less
  have B_is_less := G_is_less.binds (ps := ["one", "other"]) fun _ _ _ _ _ _ us hl => match us, hl with | [_, _], _ => rfl
  have G_floor_of := fun_mk (st := top 17) l_floor_of c_floor_of k_floor_of
  have B_floor_of := G_floor_of.binds (ps := ["one"]) fun _ _ _ _ _ _ us hl => match us, hl with | [_], _ => rfl
  have G_total := fun_mk (st := top 18) l_total c_total k_total
  have B_total := G_total.binds (ps := ["fractions"]) fun _ _ _ _ _ _ us hl => match us, hl with | [_], _ => rfl
  have G_weighed := fun_mk (st := top 19) l_weighed c_weighed k_weighed
  have B_weighed := G_weighed.binds (ps := ["numbers", "fractions"]) fun _ _ _ _ _ _ us hl => match us, hl with | [_, _], _ => rfl
  have G__law_bag := fun_mk (st := top 21) l__law_bag c__law_bag k__law_bag
  have B__law_bag := G__law_bag.binds (ps := ["script"]) fun _ _ _ _ _ _ us hl => match us, hl with | [_], _ => rfl
  have G__law_take := fun_mk (st := top 22) l__law_take c__law_take k__law_take
  have B__law_take := G__law_take.binds (ps := ["bag", "many"]) fun _ _ _ _ _ _ us hl => match us, hl with | [_, _], _ => rfl
  have G__law_some := fun_mk (st := top 23) l__law_some c__law_some k__law_some
  have B__law_some := G__law_some.binds (ps := ["bag", "things"]) fun _ _ _ _ _ _ us hl => match us, hl with | [_, _], _ => rfl
  have G__law_alike := fun_mk (st := top 24) l__law_alike c__law_alike k__law_alike
  have B__law_alike := G__law_alike.binds (ps := ["found", "due"]) fun _ _ _ _ _ _ us hl => match us, hl with | [_, _], _ => rfl
  have G__law_is_int := fun_mk (st := top 25) l__law_is_int c__law_is_int k__law_is_int
  have B__law_is_int := G__law_is_int.binds (ps := ["thing"]) fun _ _ _ _ _ _ us hl => match us, hl with | [_], _ => rfl
  have G__law_common := fun_mk (st := top 26) l__law_common c__law_common k__law_common
  have B__law_common := G__law_common.binds (ps := ["one", "other"]) fun _ _ _ _ _ _ us hl => match us, hl with | [_, _], _ => rfl
  have G__law_fraction := fun_mk (st := top 27) l__law_fraction c__law_fraction k__law_fraction
  have B__law_fraction := G__law_fraction.binds (ps := ["one", "other"]) fun _ _ _ _ _ _ us hl => match us, hl with | [_, _], _ => rfl
  have G__law_fraction_plus := fun_mk (st := top 28) l__law_fraction_plus c__law_fraction_plus k__law_fraction_plus
  have B__law_fraction_plus := G__law_fraction_plus.binds (ps := ["one", "other"]) fun _ _ _ _ _ _ us hl => match us, hl with | [_, _], _ => rfl
  have G__law_fraction_times := fun_mk (st := top 29) l__law_fraction_times c__law_fraction_times k__law_fraction_times
  have B__law_fraction_times := G__law_fraction_times.binds (ps := ["one", "other"]) fun _ _ _ _ _ _ us hl => match us, hl with | [_, _], _ => rfl
  have G__law_is_fraction_less := fun_mk (st := top 30) l__law_is_fraction_less c__law_is_fraction_less k__law_is_fraction_less
  have B__law_is_fraction_less := G__law_is_fraction_less.binds (ps := ["one", "other"]) fun _ _ _ _ _ _ us hl => match us, hl with | [_, _], _ => rfl
  have G__law_weighed := fun_mk (st := top 31) l__law_weighed c__law_weighed k__law_weighed
  have B__law_weighed := G__law_weighed.binds (ps := ["numbers", "fractions"]) fun _ _ _ _ _ _ us hl => match us, hl with | [_, _], _ => rfl
  have G__law_is_fraction := fun_mk (st := top 32) l__law_is_fraction c__law_is_fraction k__law_is_fraction
  have B__law_is_fraction := G__law_is_fraction.binds (ps := ["thing"]) fun _ _ _ _ _ _ us hl => match us, hl with | [_], _ => rfl
  have G__law_odd := fun_mk (st := top 33) l__law_odd c__law_odd k__law_odd
  have B__law_odd := G__law_odd.binds (ps := ["bag"]) fun _ _ _ _ _ _ us hl => match us, hl with | [_], _ => rfl
  refine ⟨PySem.W.fnOf "law" "law" (defArgs (top 35)) (defBody (top 35)) (defScope (top 35)) .none kV_law dc_law pm_law an_law (.ref cP) ct_law, fun s v => .of_eq rfl, fun base _ _ TB => law_fnT rfl ?_ hlaw⟩
  have E_Refused : Er PySem.Challenge.pw_basketfair_k35_fractions w K mg base 1 "Refused" ["why"] := er1 EC_Refused xj_Refused xk_Refused xtwhy_Refused rfl ⟨rfl, rfl, rfl, by decide +kernel, rfl, by decide +kernel, by decide +kernel, by decide +kernel, by decide +kernel⟩ ⟨_, rfl, rfl⟩ (by decide) (by decide) (fun us hl => match us, hl with | [_, _], _ => rfl) (fun _ => rfl)
  have F_is_integer : Fn PySem.Challenge.pw_basketfair_k35_fractions w K mg base 1 "is_integer" 1 f_is_integer := fn_is_integer T  G_is_integer (PySem.W.mg_of X G a_is_integer) B_is_integer
  have F_divisor : Fn PySem.Challenge.pw_basketfair_k35_fractions w K mg base 1 "divisor" 2 f_divisor := fn_divisor T  G_divisor (PySem.W.mg_of X G a_divisor) B_divisor
  have F_whole : Fn PySem.Challenge.pw_basketfair_k35_fractions w K mg base 1 "whole" 1 f_whole := fn_whole T  G_whole (PySem.W.mg_of X G a_whole) B_whole
  have F_is_less : Fn PySem.Challenge.pw_basketfair_k35_fractions w K mg base 1 "is_less" 2 f_is_less := fn_is_less T  G_is_less (PySem.W.mg_of X G a_is_less) B_is_less
  have F_floor_of : Fn PySem.Challenge.pw_basketfair_k35_fractions w K mg base 1 "floor_of" 1 f_floor_of := fn_floor_of T  G_floor_of (PySem.W.mg_of X G a_floor_of) B_floor_of
  have F__law_bag : Fn PySem.Challenge.pw_basketfair_k35_fractions w K mg base 1 "_law_bag" 1 f__law_bag := fn__law_bag T  G__law_bag (PySem.W.mg_of X G a__law_bag) B__law_bag
  have F__law_take : Fn PySem.Challenge.pw_basketfair_k35_fractions w K mg base 1 "_law_take" 2 f__law_take := fn__law_take T  G__law_take (PySem.W.mg_of X G a__law_take) B__law_take
  have F__law_alike : Fn PySem.Challenge.pw_basketfair_k35_fractions w K mg base 1 "_law_alike" 2 f__law_alike := fn__law_alike T  G__law_alike (PySem.W.mg_of X G a__law_alike) B__law_alike
  have F__law_is_int : Fn PySem.Challenge.pw_basketfair_k35_fractions w K mg base 1 "_law_is_int" 1 f__law_is_int := fn__law_is_int T  G__law_is_int (PySem.W.mg_of X G a__law_is_int) B__law_is_int
  have F__law_common : Fn PySem.Challenge.pw_basketfair_k35_fractions w K mg base 1 "_law_common" 2 f__law_common := fn__law_common T  G__law_common (PySem.W.mg_of X G a__law_common) B__law_common
  have F__law_is_fraction_less : Fn PySem.Challenge.pw_basketfair_k35_fractions w K mg base 1 "_law_is_fraction_less" 2 f__law_is_fraction_less := fn__law_is_fraction_less T  G__law_is_fraction_less (PySem.W.mg_of X G a__law_is_fraction_less) B__law_is_fraction_less
  have F_is_fraction : Fn PySem.Challenge.pw_basketfair_k35_fractions w K mg base 2 "is_fraction" 1 f_is_fraction := fn_is_fraction T F_divisor F_is_integer G_is_fraction (PySem.W.mg_of X G a_is_fraction) B_is_fraction
  have F__law_some : Fn PySem.Challenge.pw_basketfair_k35_fractions w K mg base 2 "_law_some" 2 f__law_some := fn__law_some T F__law_take G__law_some (PySem.W.mg_of X G a__law_some) B__law_some
  have F__law_fraction : Fn PySem.Challenge.pw_basketfair_k35_fractions w K mg base 2 "_law_fraction" 2 f__law_fraction := fn__law_fraction T F__law_common G__law_fraction (PySem.W.mg_of X G a__law_fraction) B__law_fraction
  have F__law_is_fraction : Fn PySem.Challenge.pw_basketfair_k35_fractions w K mg base 2 "_law_is_fraction" 1 f__law_is_fraction := fn__law_is_fraction T F__law_common F__law_is_int G__law_is_fraction (PySem.W.mg_of X G a__law_is_fraction) B__law_is_fraction
  have F_fraction : Fn PySem.Challenge.pw_basketfair_k35_fractions w K mg base 3 "fraction" 2 f_fraction := fn_fraction T E_Refused F_divisor G_fraction (PySem.W.mg_of X G a_fraction) B_fraction
  have F__law_fraction_plus : Fn PySem.Challenge.pw_basketfair_k35_fractions w K mg base 3 "_law_fraction_plus" 2 f__law_fraction_plus := fn__law_fraction_plus T F__law_fraction G__law_fraction_plus (PySem.W.mg_of X G a__law_fraction_plus) B__law_fraction_plus
  have F__law_fraction_times : Fn PySem.Challenge.pw_basketfair_k35_fractions w K mg base 3 "_law_fraction_times" 2 f__law_fraction_times := fn__law_fraction_times T F__law_fraction G__law_fraction_times (PySem.W.mg_of X G a__law_fraction_times) B__law_fraction_times
  have F__law_odd : Fn PySem.Challenge.pw_basketfair_k35_fractions w K mg base 3 "_law_odd" 1 f__law_odd := fn__law_odd T F__law_some G__law_odd (PySem.W.mg_of X G a__law_odd) B__law_odd
  have F_plus : Fn PySem.Challenge.pw_basketfair_k35_fractions w K mg base 4 "plus" 2 f_plus := fn_plus T F_fraction G_plus (PySem.W.mg_of X G a_plus) B_plus
  have F_minus : Fn PySem.Challenge.pw_basketfair_k35_fractions w K mg base 4 "minus" 2 f_minus := fn_minus T F_fraction G_minus (PySem.W.mg_of X G a_minus) B_minus
  have F_multiplied : Fn PySem.Challenge.pw_basketfair_k35_fractions w K mg base 4 "multiplied" 2 f_multiplied := fn_multiplied T F_fraction G_multiplied (PySem.W.mg_of X G a_multiplied) B_multiplied
  have F_ratio : Fn PySem.Challenge.pw_basketfair_k35_fractions w K mg base 4 "ratio" 2 f_ratio := fn_ratio T F_fraction G_ratio (PySem.W.mg_of X G a_ratio) B_ratio
  have F__law_weighed : Fn PySem.Challenge.pw_basketfair_k35_fractions w K mg base 4 "_law_weighed" 2 f__law_weighed := fn__law_weighed T F__law_fraction F__law_fraction_plus G__law_weighed (PySem.W.mg_of X G a__law_weighed) B__law_weighed
  have F_total : Fn PySem.Challenge.pw_basketfair_k35_fractions w K mg base 5 "total" 1 f_total := fn_total T F_plus G_total (PySem.W.mg_of X G a_total) B_total
  have F_weighed : Fn PySem.Challenge.pw_basketfair_k35_fractions w K mg base 6 "weighed" 2 f_weighed := fn_weighed T F_multiplied F_total F_whole G_weighed (PySem.W.mg_of X G a_weighed) B_weighed
  exact ok_law T F__law_alike F__law_bag F__law_fraction F__law_fraction_plus F__law_fraction_times F__law_is_fraction F__law_is_fraction_less F__law_is_int F__law_odd F__law_some F__law_take F__law_weighed F_floor_of F_fraction F_is_fraction F_is_less F_minus F_multiplied F_plus F_ratio F_total F_weighed l_law c_law TB
end DL

set_option Elab.async false
set_option linter.all false
set_option maxRecDepth 100000
set_option maxHeartbeats 4000000
namespace DL
open PySem PySem.Spec PyProof.Rows L2

/-! ### the bag that is drawn from -/
def bagL (b0 b1 b2 : Int) (cs : List Int) : List PyData := [.int b0, .int b1, .int b2, .list (cs.map PyData.int)]
/-- the bag stands first in the store; n draws are left -/
def Bag (pre : Sto) (n : Nat) (rest S : Sto) : Prop := ∃ (b0 b1 b2 : Int) (cs : List Int), S = pre ++ .lst (bagL b0 b1 b2 cs) :: rest ∧ 0 ≤ b0 ∧ 0 ≤ b1 ∧ b1 < 2147483647 ∧ 0 ≤ b2 ∧ b2 + n ≤ 1000000000 ∧ (∀ c ∈ cs, 0 ≤ c) ∧ cs.length ≤ 63
theorem Bag.mono {m n : Nat} {pre rest S : Sto} (h : Bag pre n rest S) (hm : m ≤ n) : Bag pre m rest S := by
  obtain ⟨b0, b1, b2, cs, e, h0, h1, h2, h3, h4, h5⟩ := h
  exact ⟨b0, b1, b2, cs, e, h0, h1, h2, h3, by omega, h5⟩
theorem Bag.len {n : Nat} {pre rest S : Sto} (h : Bag pre n rest S) : S.length = pre.length + rest.length + 1 := by
  obtain ⟨b0, b1, b2, cs, e, _⟩ := h
  rw [e, List.length_append, List.length_cons]; omega
theorem pre_get {pre rest : Sto} {x : MO} : (pre ++ x :: rest)[pre.length]? = some x := by
  rw [List.getElem?_append_right (Nat.le_refl _), Nat.sub_self]; rfl
theorem pre_set {pre rest : Sto} {x y : MO} : (pre ++ x :: rest).set pre.length y = pre ++ y :: rest := by
  rw [List.set_append_right _ _ (Nat.le_refl _), Nat.sub_self]; rfl
theorem call1 {α : Type} (w : Wv) (x y : α) : (if [w].length = 1 then x else y) = x := rfl
theorem call2 {α : Type} (w u : Wv) (x y : α) : (if [w, u].length = 2 then x else y) = x := rfl
theorem lo0 : litOk ([] : List PyData).length = true := by decide
theorem lo1 (a : PyData) : litOk [a].length = true := by show litOk 1 = true; decide
theorem lo2 (a b : PyData) : litOk [a, b].length = true := by show litOk 2 = true; decide
theorem lo3 (a b c : PyData) : litOk [a, b, c].length = true := by show litOk 3 = true; decide
theorem lo4 (a b c d : PyData) : litOk [a, b, c, d].length = true := by show litOk 4 = true; decide
theorem lo5 (a b c d e : PyData) : litOk [a, b, c, d, e].length = true := by show litOk 5 = true; decide
theorem at_0 (a b c d : PyData) : atI [a, b, c, d] 0 = some a := rfl
theorem at_1 (a b c d : PyData) : atI [a, b, c, d] 1 = some b := rfl
theorem at_2 (a b c d : PyData) : atI [a, b, c, d] 2 = some c := rfl
theorem at_3 (a b c d : PyData) : atI [a, b, c, d] 3 = some d := rfl
theorem lg400 (n : Nat) (h : n < 2 ^ 400) : n.log2 < 400 := by
  by_cases hn : n = 0
  · subst hn; decide
  · exact (Nat.log2_lt hn).mpr h
theorem mulOk_small {i j : Int} (h1 : i.natAbs < 2 ^ 400) (h2 : j.natAbs < 2 ^ 400) : mulOk i j = true := by
  unfold mulOk
  have h3 := lg400 _ h1
  have h4 := lg400 _ h2
  exact decide_eq_true (Nat.lt_trans (Nat.add_lt_add h3 h4) (by decide))
theorem drop_ints {cs : List Int} (h : ∀ c ∈ cs, 0 ≤ c) (lo hi : Option Int) : ∃ ds : List Int, cutD (cs.map PyData.int) lo hi = ds.map PyData.int ∧ (∀ c ∈ ds, 0 ≤ c) ∧ ds.length ≤ cs.length := by
  refine ⟨(cs.drop (HT.sIx cs.length 0 lo)).take (HT.sIx cs.length cs.length hi - HT.sIx cs.length 0 lo), ?_, fun c hc => h c (List.mem_of_mem_drop (List.mem_of_mem_take hc)), ?_⟩
  · unfold cutD
    rw [List.length_map, List.map_take, List.map_drop]
  · rw [List.length_take, List.length_drop]; omega
theorem first_cell {ds : List Int} (h : ∀ c ∈ ds, 0 ≤ c) : ∃ c : Int, 0 ≤ c ∧ atI (ds.map PyData.int ++ [.int 0]) 0 = some (.int c) := by
  cases ds with
  | nil => exact ⟨0, Int.le_refl _, rfl⟩
  | cons c r => 
    refine ⟨c, h c (by simp), ?_⟩
    unfold atI ixN
    rw [if_pos (Int.le_refl 0), if_pos (by simp; omega)]
    rfl
theorem fmod_range (a : Int) {m : Int} (h : 0 < m) : 0 ≤ a.fmod m ∧ a.fmod m < m := ⟨Int.fmod_nonneg_of_pos a h, Int.fmod_lt_of_pos a h⟩
theorem eqv_int (a b : Int) : PyData.eqv (.int a) (.int b) = (a == b) := by simp [PyData.eqv]
theorem eqD_int (a b : Int) : eqD (.int a) (.int b) = some (.bool (a == b)) := by
  unfold eqD
  rw [if_pos (by rfl), eqv_int]
theorem neD_int (a b : Int) : neD (.int a) (.int b) = some (.bool (!(a == b))) := by
  unfold neD
  rw [if_pos (by rfl), eqv_int]
theorem ixSet4 (a b c d x : PyData) : ixSet [a, b, c, d] 0 x = some [x, b, c, d] ∧ ixSet [a, b, c, d] 1 x = some [a, x, c, d] ∧ ixSet [a, b, c, d] 2 x = some [a, b, x, d] := ⟨rfl, rfl, rfl⟩
/-- the second half of a draw -/
noncomputable def takeB : SF := (sSeq (sIf (tCmpB gtD (eBin ixD (eVar 0) (eC (.int 0))) (eC (.int 0))) (sSeq (sSet 4 (eBin modD (eB intG (lCons (eBin ixD (eVar 0) (eC (.int 0))) lNil)) (eVar 1))) (sSeq (sPut (eVar 0) (eC (.int 0)) (eBin fdivD (eB intG (lCons (eBin ixD (eVar 0) (eC (.int 0))) lNil)) (eVar 1))) (sRet (eVar 4)))) sNil) (sSeq (sSet 5 (eBin modD (eB intG (lCons (eBin mulD (eBin addD (eBin ixD (eVar 0) (eC (.int 1))) (eC (.int 1))) (eC (.int 39373))) lNil)) (eC (.int 1000000007)))) (sSeq (sSet 6 (eBin modD (eB intG (lCons (eBin mulD (eBin modD (eB intG (lCons (eBin mulD (eVar 5) (eVar 5)) lNil)) (eC (.int 998244353))) (eC (.int 30011))) lNil)) (eC (.int 998244353)))) (sRet (eBin modD (eB intG (lCons (eBin fdivD (eVar 6) (eC (.int 7))) lNil)) (eVar 1))))))
theorem take_half {many b0 b1 b2 : Int} {cs : List Int} {n : Nat} {pre rest : Sto} {w2 w3 w4 w5 w6 : Option Wv} (hm : 0 < many) (hml : many.natAbs.log2 < 9000) (h0 : 0 ≤ b0) (h1 : 0 ≤ b1) (h2 : b1 < 2147483647) (h3 : 0 ≤ b2) (h4 : b2 + n ≤ 1000000000) (h5 : ∀ c ∈ cs, 0 ≤ c) (h6 : cs.length ≤ 63) :
    ∃ r S', takeB [some (.own pre.length), some (.d (.int many)), w2, w3, w4, w5, w6] (pre ++ .lst (bagL b0 b1 b2 cs) :: rest) = .fl (.rt (.d (.int r))) S' ∧ 0 ≤ r ∧ r < many ∧ Bag pre n rest S' := by
  have hmne : many ≠ 0 := by omega
  have hdv : divOk many = true := decide_eq_true ⟨hmne, hml⟩
  by_cases hb : 0 < b0
  · refine ⟨b0.fmod many, pre ++ .lst (bagL (b0.fdiv many) b1 b2 cs) :: rest, ?_, (fmod_range b0 hm).1, (fmod_range b0 hm).2, b0.fdiv many, b1, b2, cs, rfl, Int.fdiv_nonneg h0 (by omega), h1, h2, h3, h4, h5, h6⟩
    simp only [takeB, bagL, hb, hmne, fdivD, hdv, pre_get, pre_set, sSeq, sIf, tCmpB, tChB, tTru, tAndB, tOrB, tNotB, eAnd, eOr, eNot, truW, truD, eBin, eCh, eIf, eVar, eC, Rs.bind, op2, bool2, view, List.getElem?_cons_zero, List.getElem?_cons_succ, ixD, at_0, at_1, at_2, at_3, gtD, ltD, leD, geD, decide_true, decide_false, bindS, seqR, sSet, eB, lCons, lNil, opN, views, Option.map, Option.some.injEq, intG, absG, lenG, modD, addD, subD, iaddD, if_true, if_false, reduceIte, call1, call2, lo0, lo1, lo2, lo3, lo4, lo5, List.set, sPut, sAugI, sAug, frzW, eFrz, ownL, ixSet4, sRet, sExpr, eOwn, eFz, mLst, dats, sNil, sRetN, eqD_int, neD_int, oSom, oNon, eSl, slD, Bool.false_eq_true, Bool.not_true, Bool.not_false, eTup, sPar, eCall, List.length_cons, List.length_nil, sAsg]
  · have hb0 : ¬ (0 < b0) := hb
    have hd7 : divOk 7 = true := by decide
    have m1 : mulOk (b1 + 1) 39373 = true := mulOk_small (by omega) (by decide)
    have g0 := fmod_range ((b1 + 1) * 39373) (m := 1000000007) (by decide)
    have m2 : mulOk (((b1 + 1) * 39373).fmod 1000000007) (((b1 + 1) * 39373).fmod 1000000007) = true := mulOk_small (by omega) (by omega)
    generalize hB : ((b1 + 1) * 39373).fmod 1000000007 = B at *
    have g1 := fmod_range (B * B) (m := 998244353) (by decide)
    have m3 : mulOk ((B * B).fmod 998244353) 30011 = true := mulOk_small (by omega) (by decide)
    generalize hC : (B * B).fmod 998244353 = C at *
    have c1 : (1000000007 : Int) ≠ 0 := by decide
    have c2 : (998244353 : Int) ≠ 0 := by decide
    refine ⟨(((C * 30011).fmod 998244353).fdiv 7).fmod many, pre ++ .lst (bagL b0 b1 b2 cs) :: rest, ?_, (fmod_range _ hm).1, (fmod_range _ hm).2, b0, b1, b2, cs, rfl, h0, h1, h2, h3, h4, h5, h6⟩
    simp only [takeB, bagL, hb0, hmne, fdivD, hd7, mulD, m1, m2, m3, hB, hC, c1, c2, pre_get, pre_set, sSeq, sIf, tCmpB, tChB, tTru, tAndB, tOrB, tNotB, eAnd, eOr, eNot, truW, truD, eBin, eCh, eIf, eVar, eC, Rs.bind, op2, bool2, view, List.getElem?_cons_zero, List.getElem?_cons_succ, ixD, at_0, at_1, at_2, at_3, gtD, ltD, leD, geD, decide_true, decide_false, bindS, seqR, sSet, eB, lCons, lNil, opN, views, Option.map, Option.some.injEq, intG, absG, lenG, modD, addD, subD, iaddD, if_true, if_false, reduceIte, call1, call2, lo0, lo1, lo2, lo3, lo4, lo5, List.set, sPut, sAugI, sAug, frzW, eFrz, ownL, ixSet4, sRet, sExpr, eOwn, eFz, mLst, dats, sNil, sRetN, eqD_int, neD_int, oSom, oNon, eSl, slD, Bool.false_eq_true, Bool.not_true, Bool.not_false, eTup, sPar, eCall, List.length_cons, List.length_nil, sAsg]
theorem powD_18 : powD (.int 10) (.int 18) = some (.int (10 ^ 18)) := rfl
theorem Bag.cut {n : Nat} {pre rest S S' : Sto} (h : Bag pre n rest S) (h' : S'.length = pre.length + rest.length + 1) : S.take S'.length = S := by
  rw [h', ← h.len, List.take_length]
theorem run_ret {nn ar : Nat} {b : SF} {ws : List Wv} {S S' : Sto} {d : PyData} (h : b (ws.map some ++ List.replicate (nn - ar) none) S = .fl (.rt (.d d)) S') : runDef nn ar b ws S = .ok (.d d) (S'.take S.length) := by
  unfold runDef
  rw [h]
  rfl
theorem take_sem {n : Nat} {many : Int} {pre rest S : Sto} (hB : Bag pre (n + 1) rest S) (hm : 0 < many) (hml : many.natAbs.log2 < 9000) : ∃ r S', f__law_take [.own pre.length, .d (.int many)] S = .ok (.d (.int r)) S' ∧ 0 ≤ r ∧ r < many ∧ Bag pre n rest S' := by
  obtain ⟨b0, b1, b2, cs, e, h0, h1, h2, h3, h4, h5, h6⟩ := id hB
  have key : ∃ r S', b__law_take [some (.own pre.length), some (.d (.int many)), none, none, none, none, none] S = .fl (.rt (.d (.int r))) S' ∧ 0 ≤ r ∧ r < many ∧ Bag pre n rest S' := by
    subst e
    by_cases hb : b0 = 0
    · subst hb
      obtain ⟨ds, e1, e2, e3⟩ := drop_ints h5 (some b2) none
      obtain ⟨c, c0, e4⟩ := first_cell e2
      have hlen : (ds.map PyData.int).length + (0 + 1) ≤ sizeLine := by
        rw [List.length_map]
        have : (100 : Nat) ≤ sizeLine := by decide
        omega
      have hzero : ((0 : Int) == 0) = true := rfl
      have hl1 : litOk (0 + 1) = true := by decide
      have nz : (2147483647 : Int) ≠ 0 := by decide
      have m1 : mulOk b1 48271 = true := mulOk_small (by omega) (by decide)
      have m2 : mulOk 7919 (b2 + 1) = true := mulOk_small (by decide) (by omega)
      have gs := fmod_range (b1 * 48271 + c.fmod 2147483647 + 7919 * (b2 + 1)) (m := 2147483647) (by decide)
      by_cases hc : (10 ^ 18 : Int) ≤ c
      · obtain ⟨r, S', g1, g2⟩ := take_half (pre := pre) (rest := rest) (w2 := some (.d (.int c))) (w3 := some (.d (.int (b1 * 48271 + c.fmod 2147483647 + 7919 * (b2 + 1))))) (w4 := none) (w5 := none) (w6 := none) (b0 := c) (b1 := (b1 * 48271 + c.fmod 2147483647 + 7919 * (b2 + 1)).fmod 2147483647) (b2 := b2 + 1) (n := n) hm hml c0 gs.1 gs.2 (by omega) (by omega) h5 h6
        refine ⟨r, S', ?_, g2⟩
        rw [← g1]
        show seqR _ takeB = _
        simp only [bagL, e1, e4, hlen, hzero, hl1, powD_18, hc, mulD, m1, m2, nz, pre_get, pre_set, sSeq, sIf, tCmpB, tChB, tTru, tAndB, tOrB, tNotB, eAnd, eOr, eNot, truW, truD, eBin, eCh, eIf, eVar, eC, Rs.bind, op2, bool2, view, List.getElem?_cons_zero, List.getElem?_cons_succ, ixD, at_0, at_1, at_2, at_3, gtD, ltD, leD, geD, decide_true, decide_false, bindS, seqR, sSet, eB, lCons, lNil, opN, views, Option.map, Option.some.injEq, intG, absG, lenG, modD, addD, subD, iaddD, if_true, if_false, reduceIte, call1, call2, lo0, lo1, lo2, lo3, lo4, lo5, List.set, sPut, sAugI, sAug, frzW, eFrz, ownL, ixSet4, sRet, sExpr, eOwn, eFz, mLst, dats, sNil, sRetN, eqD_int, neD_int, oSom, oNon, eSl, slD, Bool.false_eq_true, Bool.not_true, Bool.not_false, eTup, sPar, eCall, List.length_cons, List.length_nil, sAsg]
      · obtain ⟨r, S', g1, g2⟩ := take_half (pre := pre) (rest := rest) (w2 := some (.d (.int c))) (w3 := some (.d (.int (b1 * 48271 + c.fmod 2147483647 + 7919 * (b2 + 1))))) (w4 := none) (w5 := none) (w6 := none) (b0 := 0) (b1 := (b1 * 48271 + c.fmod 2147483647 + 7919 * (b2 + 1)).fmod 2147483647) (b2 := b2 + 1) (n := n) hm hml (Int.le_refl _) gs.1 gs.2 (by omega) (by omega) h5 h6
        refine ⟨r, S', ?_, g2⟩
        rw [← g1]
        show seqR _ takeB = _
        simp only [bagL, e1, e4, hlen, hzero, hl1, powD_18, hc, mulD, m1, m2, nz, pre_get, pre_set, sSeq, sIf, tCmpB, tChB, tTru, tAndB, tOrB, tNotB, eAnd, eOr, eNot, truW, truD, eBin, eCh, eIf, eVar, eC, Rs.bind, op2, bool2, view, List.getElem?_cons_zero, List.getElem?_cons_succ, ixD, at_0, at_1, at_2, at_3, gtD, ltD, leD, geD, decide_true, decide_false, bindS, seqR, sSet, eB, lCons, lNil, opN, views, Option.map, Option.some.injEq, intG, absG, lenG, modD, addD, subD, iaddD, if_true, if_false, reduceIte, call1, call2, lo0, lo1, lo2, lo3, lo4, lo5, List.set, sPut, sAugI, sAug, frzW, eFrz, ownL, ixSet4, sRet, sExpr, eOwn, eFz, mLst, dats, sNil, sRetN, eqD_int, neD_int, oSom, oNon, eSl, slD, Bool.false_eq_true, Bool.not_true, Bool.not_false, eTup, sPar, eCall, List.length_cons, List.length_nil, sAsg]
    · obtain ⟨r, S', g1, g2⟩ := take_half (pre := pre) (rest := rest) (w2 := none) (w3 := none) (w4 := none) (w5 := none) (w6 := none) (b0 := b0) (b1 := b1) (b2 := b2) (n := n) hm hml h0 h1 h2 h3 (by omega) h5 h6
      refine ⟨r, S', ?_, g2⟩
      rw [← g1]
      have hne : (b0 == 0) = false := by simpa using hb
      show seqR _ takeB = _
      simp only [bagL, hne, pre_get, pre_set, sSeq, sIf, tCmpB, tChB, tTru, tAndB, tOrB, tNotB, eAnd, eOr, eNot, truW, truD, eBin, eCh, eIf, eVar, eC, Rs.bind, op2, bool2, view, List.getElem?_cons_zero, List.getElem?_cons_succ, ixD, at_0, at_1, at_2, at_3, gtD, ltD, leD, geD, decide_true, decide_false, bindS, seqR, sSet, eB, lCons, lNil, opN, views, Option.map, Option.some.injEq, intG, absG, lenG, modD, addD, subD, iaddD, if_true, if_false, reduceIte, call1, call2, lo0, lo1, lo2, lo3, lo4, lo5, List.set, sPut, sAugI, sAug, frzW, eFrz, ownL, ixSet4, sRet, sExpr, eOwn, eFz, mLst, dats, sNil, sRetN, eqD_int, neD_int, oSom, oNon, eSl, slD, Bool.false_eq_true, Bool.not_true, Bool.not_false, eTup, sPar, eCall, List.length_cons, List.length_nil, sAsg]
  obtain ⟨r, S', g1, g2, g3, g4⟩ := key
  refine ⟨r, S', ?_, g2, g3, g4⟩
  have := run_ret (nn := 7) (ar := 2) (ws := [.own pre.length, .d (.int many)]) g1
  rw [g4.cut hB.len] at this
  exact this
end DL

set_option Elab.async false
set_option linter.all false
set_option maxRecDepth 100000
set_option maxHeartbeats 4000000
namespace DL
open PySem PySem.Spec PyProof.Rows L2
theorem some_sem {n : Nat} {things : List PyData} {pre rest S : Sto} (hB : Bag pre (n + 1) rest S) (hne : things ≠ []) (hl : things.length ≤ 1000000) : ∃ x S', f__law_some [.own pre.length, .d (.list things)] S = .ok (.d x) S' ∧ x ∈ things ∧ Bag pre n rest S' := by
  have hpos : 0 < (things.length : Int) := by
    have : 0 < things.length := List.length_pos_iff.mpr hne
    omega
  have hlg : ((things.length : Nat) : Int).natAbs.log2 < 9000 := by
    have : ((things.length : Nat) : Int).natAbs < 2 ^ 400 := by omega
    exact Nat.lt_trans (lg400 _ this) (by decide)
  obtain ⟨r, S', e, r0, r1, hB'⟩ := take_sem hB hpos hlg
  have hr : r.toNat < things.length := by omega
  have hat : atI things r = some things[r.toNat] := by
    unfold atI ixN
    rw [if_pos r0, if_pos r1]
    simp [hr]
  refine ⟨things[r.toNat], S', ?_, List.getElem_mem _, hB'⟩
  have h2 : b__law_some [some (.own pre.length), some (.d (.list things))] S = .fl (.rt (.d things[r.toNat])) S' := by
    simp only [b__law_some, sSeq, sIf, tCmpB, tChB, tTru, tAndB, tOrB, tNotB, eAnd, eOr, eNot, truW, truD, eBin, eCh, eIf, eVar, eC, Rs.bind, op2, bool2, view, List.getElem?_cons_zero, List.getElem?_cons_succ, ixD, at_0, at_1, at_2, at_3, gtD, ltD, leD, geD, decide_true, decide_false, bindS, seqR, sSet, eB, lCons, lNil, opN, views, Option.map, Option.some.injEq, intG, absG, lenG, modD, addD, subD, iaddD, if_true, if_false, reduceIte, call1, call2, lo0, lo1, lo2, lo3, lo4, lo5, List.set, sPut, sAugI, sAug, frzW, eFrz, ownL, ixSet4, sRet, sExpr, eOwn, eFz, mLst, dats, sNil, sRetN, eqD_int, neD_int, oSom, oNon, eSl, slD, Bool.false_eq_true, Bool.not_true, Bool.not_false, eTup, sPar, eCall, List.length_cons, List.length_nil, sAsg]
    rw [e]
    simp only [hat, sSeq, sIf, tCmpB, tChB, tTru, tAndB, tOrB, tNotB, eAnd, eOr, eNot, truW, truD, eBin, eCh, eIf, eVar, eC, Rs.bind, op2, bool2, view, List.getElem?_cons_zero, List.getElem?_cons_succ, ixD, at_0, at_1, at_2, at_3, gtD, ltD, leD, geD, decide_true, decide_false, bindS, seqR, sSet, eB, lCons, lNil, opN, views, Option.map, Option.some.injEq, intG, absG, lenG, modD, addD, subD, iaddD, if_true, if_false, reduceIte, call1, call2, lo0, lo1, lo2, lo3, lo4, lo5, List.set, sPut, sAugI, sAug, frzW, eFrz, ownL, ixSet4, sRet, sExpr, eOwn, eFz, mLst, dats, sNil, sRetN, eqD_int, neD_int, oSom, oNon, eSl, slD, Bool.false_eq_true, Bool.not_true, Bool.not_false, eTup, sPar, eCall, List.length_cons, List.length_nil, sAsg]
  have := run_ret (nn := 2) (ar := 2) (ws := [.own pre.length, .d (.list things)]) h2
  rw [hB'.cut hB.len] at this
  exact this

/-! ### the comparison -/
mutual
def wgt : PyData → Nat
  | .list l => 1 + wgts l
  | .tuple l => 1 + wgts l
  | _ => 1
def wgts : List PyData → Nat
  | [] => 0
  | x :: r => wgt x + wgts r
end
mutual
/-- data that compare equal to themselves -/
def refl? : PyData → Bool
  | .list l => refls l
  | .tuple l => refls l
  | .dict _ => false
  | _ => true
def refls : List PyData → Bool
  | [] => true
  | x :: r => refl? x && refls r
end
theorem wgts_append : ∀ l m : List PyData, wgts (l ++ m) = wgts l + wgts m
  | [], m => by simp [wgts]
  | x :: l, m => by rw [List.cons_append, wgts, wgts, wgts_append l m]; omega
theorem refls_append : ∀ l m : List PyData, refls (l ++ m) = (refls l && refls m)
  | [], m => by simp [refls]
  | x :: l, m => by rw [List.cons_append, refls, refls, refls_append l m, Bool.and_assoc]
theorem wgt_pos : ∀ x : PyData, 1 ≤ wgt x := fun x => by cases x <;> simp [wgt]
theorem len_wgts : ∀ l : List PyData, l.length ≤ wgts l
  | [] => Nat.le_refl _
  | x :: l => by
    have := wgt_pos x
    have := len_wgts l
    rw [List.length_cons, wgts]; omega
def twin (x : PyData) : PyData := .tuple [x, x]
noncomputable def alkC : BF := (tCmpB ltD (eVar 3) (eB lenG (lCons (eVar 2) lNil)))
noncomputable def alkB : SF := (sSeq (sAsg (eBin ixD (eVar 2) (eVar 3)) (gTp 2 (gsCons (gNm 4) (gsCons (gNm 5) gsNil)))) (sSeq (sAug 3 iaddD (eC (.int 1))) (sSeq (sIf (tOrB (tCmpB neD (eIsi ["bool"] (eVar 4)) (eIsi ["bool"] (eVar 5))) (tCmpB neD (eIsi ["str"] (eVar 4)) (eIsi ["str"] (eVar 5)))) (sRet (eC (.bool false))) sNil) (sSeq (sIf (tCmpB neD (eIsi ["tuple", "list"] (eVar 4)) (eIsi ["tuple", "list"] (eVar 5))) (sRet (eC (.bool false))) sNil) (sIf (tTru (eIsi ["tuple", "list"] (eVar 4))) (sSeq (sIf (tOrB (tCmpB neD (eIsi ["tuple"] (eVar 4)) (eIsi ["tuple"] (eVar 5))) (tCmpB neD (eB lenG (lCons (eVar 4) lNil)) (eB lenG (lCons (eVar 5) lNil)))) (sRet (eC (.bool false))) sNil) (sExpr (eExt (eVar 2) (mZip (lCons (eVar 4) (lCons (eVar 5) lNil)))))) (sIf (tCmpB neD (eVar 4) (eVar 5)) (sRet (eC (.bool false))) sNil))))))
theorem neD_bool (a b : Bool) : neD (.bool a) (.bool b) = some (.bool (!(a == b))) := by
  unfold neD
  rw [if_pos (by rfl)]
  simp [PyData.eqv]
theorem zip_twin : ∀ l : List PyData, zipD l l = l.map twin
  | [] => rfl
  | x :: l => by
    have := zip_twin l
    unfold zipD at *
    rw [List.zip_cons_cons, List.map_cons, this]
    rfl
theorem last_get {rest : Sto} {o : MO} : (rest ++ [o])[rest.length]? = some o := by simp
theorem last_noTab {rest : Sto} {l : List PyData} : noTab (rest ++ [MO.lst l]) rest.length = true := by
  unfold noTab
  rw [last_get]
theorem last_set {rest : Sto} {o u : MO} : (rest ++ [o]).set rest.length u = rest ++ [u] := by simp
theorem mid_at {pre q : List PyData} {x : PyData} : atI (pre ++ x :: q) (pre.length : Int) = some x := by
  unfold atI ixN
  rw [if_pos (by omega), if_pos (by rw [List.length_append, List.length_cons]; omega)]
  simp
theorem isi_same (b : Bool) : (!(b == b)) = false := by cases b <;> rfl
theorem beq_same_int (a : Int) : (a == a) = true := beq_self_eq_true a
/-- one turn of the comparison, of a thing with itself -/
theorem alk_turn {rest : Sto} {w0 w1 : Option Wv} {w4 w5 : Option Wv} {pre q : List PyData} {x : PyData} (hx : refl? x = true) (hz : pre.length + wgts (x :: q) ≤ 1000000) :
    ∃ more : List PyData, alkB [w0, w1, some (.own rest.length), some (.d (.int pre.length)), w4, w5] (rest ++ [.lst (pre ++ twin x :: q.map twin)])
      = .fl (.nx [w0, w1, some (.own rest.length), some (.d (.int (pre.length + 1))), some (.d x), some (.d x)]) (rest ++ [.lst (pre ++ twin x :: (q ++ more).map twin)]) ∧ wgts more + 1 = wgt x ∧ refls more = true := by
  have hsz : ∀ l : List PyData, wgt x = 1 + wgts l → (pre ++ twin x :: q.map twin).length + (l.map twin).length ≤ sizeLine := fun l hl => by
    have h1 := len_wgts l
    have h2 := len_wgts q
    have h3 : (1000000 : Nat) ≤ sizeLine := by decide
    rw [wgts] at hz
    simp only [List.length_append, List.length_cons, List.length_map]
    omega
  have fin : ∀ more : List PyData, pre ++ twin x :: (q ++ more).map twin = (pre ++ twin x :: q.map twin) ++ more.map twin := fun more => by simp
  have leaf : (["tuple", "list"].any fun c => subT (tyD x) c) = false → neD x x = some (.bool false) → wgt x = 1 → ∃ more : List PyData, alkB [w0, w1, some (.own rest.length), some (.d (.int pre.length)), w4, w5] (rest ++ [.lst (pre ++ twin x :: q.map twin)])
      = .fl (.nx [w0, w1, some (.own rest.length), some (.d (.int (pre.length + 1))), some (.d x), some (.d x)]) (rest ++ [.lst (pre ++ twin x :: (q ++ more).map twin)]) ∧ wgts more + 1 = wgt x ∧ refls more = true := fun h1 h2 h3 => by
    refine ⟨[], ?_, by rw [h3]; rfl, rfl⟩
    rw [List.append_nil]
    simp only [alkB, last_get, mid_at, twin, gTp, gsCons, gsNil, gNm, eIsi, isiW, neD_bool, isi_same, h1, h2, sSeq, sIf, tCmpB, tChB, tTru, tAndB, tOrB, tNotB, eAnd, eOr, eNot, truW, truD, eBin, eCh, eIf, eVar, eC, Rs.bind, op2, bool2, view, List.getElem?_cons_zero, List.getElem?_cons_succ, ixD, at_0, at_1, at_2, at_3, gtD, ltD, leD, geD, decide_true, decide_false, bindS, seqR, sSet, eB, lCons, lNil, opN, views, Option.map, Option.some.injEq, intG, absG, lenG, modD, addD, subD, iaddD, if_true, if_false, reduceIte, call1, call2, lo0, lo1, lo2, lo3, lo4, lo5, List.set, sPut, sAugI, sAug, frzW, eFrz, ownL, ixSet4, sRet, sExpr, eOwn, eFz, mLst, dats, sNil, sRetN, eqD_int, neD_int, oSom, oNon, eSl, slD, Bool.false_eq_true, Bool.not_true, Bool.not_false, eTup, sPar, eCall, List.length_cons, List.length_nil, sAsg]
  have node : ∀ l : List PyData, (x = .list l ∨ x = .tuple l) → refls l = true → ∃ more : List PyData, alkB [w0, w1, some (.own rest.length), some (.d (.int pre.length)), w4, w5] (rest ++ [.lst (pre ++ twin x :: q.map twin)])
      = .fl (.nx [w0, w1, some (.own rest.length), some (.d (.int (pre.length + 1))), some (.d x), some (.d x)]) (rest ++ [.lst (pre ++ twin x :: (q ++ more).map twin)]) ∧ wgts more + 1 = wgt x ∧ refls more = true := fun l hxl hr => by
    have hw : wgt x = 1 + wgts l := by rcases hxl with e | e <;> rw [e, wgt]
    have h1 : (["tuple", "list"].any fun c => subT (tyD x) c) = true := by rcases hxl with e | e <;> rw [e] <;> rfl
    have h2 : lenG [x] = some (.int l.length) := by rcases hxl with e | e <;> rw [e] <;> rfl
    have h3 : ∃ b, kindB x = some (b, l) := by rcases hxl with e | e <;> rw [e] <;> exact ⟨_, rfl⟩
    obtain ⟨b, h3⟩ := h3
    have h4 := hsz l hw
    refine ⟨l, ?_, by rw [hw]; omega, hr⟩
    rw [fin]
    generalize hL : pre ++ twin x :: q.map twin = L at *
    have hat : atI L (pre.length : Int) = some (.tuple [x, x]) := by rw [← hL]; exact mid_at
    simp only [alkB, last_get, last_set, hat, gTp, gsCons, gsNil, gNm, eIsi, isiW, neD_bool, isi_same, h1, h2, h3, h4, eExt, last_noTab, Bool.true_eq_false, mZip, zip_twin, sSeq, sIf, tCmpB, tTru, tOrB, truW, truD, eBin, eVar, eC, Rs.bind, op2, bool2, view, List.getElem?_cons_zero, List.getElem?_cons_succ, ixD, bindS, seqR, eB, lCons, lNil, opN, views, Option.map, iaddD, if_true, if_false, reduceIte, List.set, sAug, frzW, ownL, sExpr, sNil, neD_int, beq_same_int, Bool.false_eq_true, Bool.not_true, sAsg, List.length_cons, List.length_nil]
  cases x with
  | none => exact leaf rfl rfl rfl
  | bool b => exact leaf rfl (by rw [neD_bool, isi_same]) rfl
  | int i => exact leaf rfl (by rw [neD_int, beq_same_int]; rfl) rfl
  | str s => exact leaf rfl (by unfold neD; rw [if_pos (by rfl)]; simp [PyData.eqv]) rfl
  | list l => exact node l (.inl rfl) hx
  | tuple l => exact node l (.inr rfl) hx
  | dict l => cases hx
theorem alk_cond {rest : Sto} {w0 w1 w4 w5 : Option Wv} {i : Int} {L : List PyData} : alkC [w0, w1, some (.own rest.length), some (.d (.int i)), w4, w5] (rest ++ [.lst L]) = .ok (decide (i < (L.length : Nat))) (rest ++ [.lst L]) := by
  simp only [alkC, last_get, sSeq, sIf, tCmpB, tChB, tTru, tAndB, tOrB, tNotB, eAnd, eOr, eNot, truW, truD, eBin, eCh, eIf, eVar, eC, Rs.bind, op2, bool2, view, List.getElem?_cons_zero, List.getElem?_cons_succ, ixD, at_0, at_1, at_2, at_3, gtD, ltD, leD, geD, decide_true, decide_false, bindS, seqR, sSet, eB, lCons, lNil, opN, views, Option.map, Option.some.injEq, intG, absG, lenG, modD, addD, subD, iaddD, if_true, if_false, reduceIte, call1, call2, lo0, lo1, lo2, lo3, lo4, lo5, List.set, sPut, sAugI, sAug, frzW, eFrz, ownL, ixSet4, sRet, sExpr, eOwn, eFz, mLst, dats, sNil, sRetN, eqD_int, neD_int, oSom, oNon, eSl, slD, Bool.false_eq_true, Bool.not_true, Bool.not_false, eTup, sPar, eCall, List.length_cons, List.length_nil, sAsg]
theorem alk_run {rest : Sto} {w0 w1 : Option Wv} : ∀ (n : Nat) (pre q : List PyData) (w4 w5 : Option Wv), refls q = true → wgts q ≤ n → pre.length + wgts q ≤ 1000000 →
    ∃ ρ' L', whileN alkC alkB (n + 1) [w0, w1, some (.own rest.length), some (.d (.int pre.length)), w4, w5] (rest ++ [.lst (pre ++ q.map twin)]) = .fl (.nx ρ') (rest ++ [.lst L']) := by
  intro n
  induction n with
  | zero =>
    intro pre q w4 w5 hr hw hz
    cases q with
    | nil =>
      refine ⟨[w0, w1, some (.own rest.length), some (.d (.int pre.length)), w4, w5], pre, ?_⟩
      unfold whileN
      rw [alk_cond]
      simp only [bindS, List.map_nil, List.append_nil, Int.lt_irrefl, decide_false, Bool.false_eq_true, if_false]
    | cons x q =>
      have := wgt_pos x
      rw [wgts] at hw; omega
  | succ n ih =>
    intro pre q w4 w5 hr hw hz
    cases q with
    | nil =>
      refine ⟨[w0, w1, some (.own rest.length), some (.d (.int pre.length)), w4, w5], pre, ?_⟩
      unfold whileN
      rw [alk_cond]
      simp only [bindS, List.map_nil, List.append_nil, Int.lt_irrefl, decide_false, Bool.false_eq_true, if_false]
    | cons x q =>
      rw [refls, Bool.and_eq_true] at hr
      obtain ⟨more, e1, e2, e3⟩ := alk_turn (rest := rest) (w0 := w0) (w1 := w1) (w4 := w4) (w5 := w5) (pre := pre) (q := q) (x := x) hr.1 hz
      have hwp := wgt_pos x
      rw [wgts] at hw hz
      obtain ⟨ρ', L', e4⟩ := ih (pre ++ [twin x]) (q ++ more) (some (.d x)) (some (.d x)) (by rw [refls_append, hr.2, e3]; rfl) (by rw [wgts_append]; omega) (by rw [wgts_append, List.length_append, List.length_singleton]; omega)
      refine ⟨ρ', L', ?_⟩
      have hl : ((pre.length : Nat) : Int) < ((pre ++ (x :: q).map twin).length : Nat) := by
        rw [List.length_append, List.map_cons, List.length_cons]; omega
      rw [whileN, alk_cond]
      simp only [bindS, decide_eq_true hl, if_true]
      rw [List.map_cons, e1]
      show whileN alkC alkB (n + 1) _ _ = _
      rw [← e4]
      simp
/-- a thing is like itself -/
theorem alike_sem {d : PyData} {S : Sto} (h : refl? d = true) (hw : wgt d ≤ 999999) : f__law_alike [.d d, .d d] S = .ok (.d (.bool true)) S := by
  obtain ⟨ρ', L', e⟩ := alk_run (rest := S) (w0 := some (.d d)) (w1 := some (.d d)) (wgt d) [] [d] none none (by rw [refls, h]; rfl) (by rw [wgts, wgts]; omega) (by rw [wgts, wgts, List.length_nil]; omega)
  have e' := sWhile_eq e (by intro z; cases z)
  have key : b__law_alike [some (.d d), some (.d d), none, none, none, none] S = .fl (.rt (.d (.bool true))) (S ++ [.lst L']) := by
    have hl : litOk (0 + 1 + 1) = true := by decide
    have hl1 : litOk (0 + 1) = true := by decide
    show seqR (sPar 2 3 (eOwn (mLst (lCons (eTup (lCons (eVar 0) (lCons (eVar 1) lNil))) lNil))) (eC (.int 0)) [some (.d d), some (.d d), none, none, none, none] S) (sSeq (sWhile alkC alkB) (sRet (eC (.bool true)))) = _
    simp only [hl, hl1, sPar, bindS, eOwn, mLst, lCons, eTup, eVar, lNil, Rs.bind, List.getElem?_cons_zero, List.getElem?_cons_succ, dats, Option.map, List.length_cons, List.length_nil, if_true, eC, List.set, seqR, sSeq]
    have e2 : ((0 : Int)) = (([] : List PyData).length : Nat) := rfl
    rw [e2]
    rw [show (PyData.tuple [d, d]) = twin d from rfl]
    have e3 : S ++ [MO.lst [twin d]] = S ++ [MO.lst ([] ++ [d].map twin)] := rfl
    rw [e3, e']
    rfl
  have := run_ret (nn := 6) (ar := 2) (ws := [.d d, .d d]) key
  rw [List.take_left] at this
  exact this
end DL

set_option Elab.async false
set_option linter.all false
set_option maxRecDepth 100000
set_option maxHeartbeats 4000000
namespace DL
open PySem PySem.Spec PyProof.Rows L2

/-! ### comprehensions that draw nothing, that draw -/
theorem lc_map {t : GF} {c : BF} {f : EF} {ρ : Rho} {S : Sto} {g : PyData → PyData} {p : PyData → Bool} : ∀ (l acc : List PyData), (∀ d ∈ l, ∃ ρ1, t d ρ = some ρ1 ∧ c ρ1 S = .ok (p d) S ∧ (p d = true → f ρ1 S = .ok (.d (g d)) S)) → lcRun t c f ρ l acc S = .ok (acc ++ (l.filter p).map g) S
  | [], acc, _ => by simp [lcRun]
  | d :: l, acc, h => by
    obtain ⟨ρ1, h1, h2, h3⟩ := h d (by simp)
    have ih := fun acc => lc_map (t := t) (c := c) (f := f) (ρ := ρ) (S := S) (g := g) (p := p) l acc fun x hx => h x (by simp [hx])
    unfold lcRun
    rw [h1]
    dsimp only
    rw [h2]
    cases hp : p d with
    | true =>
      dsimp only
      rw [h3 hp]
      dsimp only
      rw [ih]
      simp [List.filter_cons, hp]
    | false =>
      dsimp only
      rw [ih]
      simp [List.filter_cons, hp]
theorem lc_bag {t : GF} {f : EF} {ρ : Rho} {pre rest : Sto} {P : PyData → Prop} {k : Nat} : ∀ (l : List PyData) (n : Nat) (acc : List PyData) (S : Sto), (∀ d ∈ l, ∃ ρ1, t d ρ = some ρ1 ∧ ∀ (m : Nat) (S : Sto), Bag pre (m + k) rest S → ∃ y S', f ρ1 S = .ok (.d y) S' ∧ P y ∧ Bag pre m rest S') → Bag pre (n + k * l.length) rest S →
    ∃ ys S', lcRun t bYes f ρ l acc S = .ok (acc ++ ys) S' ∧ ys.length = l.length ∧ (∀ y ∈ ys, P y) ∧ Bag pre n rest S'
  | [], n, acc, S, _, hB => ⟨[], S, by simp [lcRun], rfl, (fun _ h => by cases h), by simpa using hB⟩
  | d :: l, n, acc, S, h, hB => by
    obtain ⟨ρ1, h1, h2⟩ := h d (by simp)
    have e : n + k * (d :: l).length = n + k * l.length + k := by rw [List.length_cons, Nat.mul_succ]; omega
    rw [e] at hB
    obtain ⟨y, S1, h3, h4, h5⟩ := h2 _ S hB
    obtain ⟨ys, S', h6, h7, h8, h9⟩ := lc_bag (t := t) (f := f) (ρ := ρ) (pre := pre) (rest := rest) (P := P) (k := k) l n (acc ++ [y]) S1 (fun x hx => h x (by simp [hx])) h5
    refine ⟨y :: ys, S', ?_, by simp [h7], fun z hz => ?_, h9⟩
    · unfold lcRun
      rw [h1]
      dsimp only [bYes]
      rw [h3]
      dsimp only
      rw [h6, List.append_assoc]
      rfl
    · rcases List.mem_cons.mp hz with e | e
      · rw [e]; exact h4
      · exact h8 z e
abbrev sS (l : List Nat) : Str := SX.S l
abbrev tx (l : List Nat) : PyData := .str (sS l)
theorem signs_S (l : List Nat) : signsD (sS l) = l.map fun c => tx [c] := rfl
theorem strG_S {l : List Nat} (h : ∀ c ∈ l, c < 128) (hl : l.length ≤ 1000000) : strG (sS l) = true := by
  refine strG_mk ?_ ?_
  · rw [SX.S_len]
    exact Nat.le_trans hl (by decide)
  · unfold PyData.strOk
    rw [← Array.all_toList, List.all_eq_true]
    intro c hc
    have := h c (by simpa using hc)
    simp
    omega
/-! ### the bag of a script -/
def absP : PyData → PyData
  | .int i => .int ((i.natAbs : Nat) : Int)
  | d => d
theorem bag_sem (pre : Sto) (ns : List Int) : ∃ S', f__law_bag [.d (.list (ns.map PyData.int))] pre = .ok (.own pre.length) S' ∧ Bag pre 900000000 [] S' := by
  have e1 : ∃ cs : List Int, cutD (ns.map PyData.int) none (some 63) = cs.map PyData.int ∧ cs.length ≤ 63 := by
    refine ⟨(ns.drop (HT.sIx ns.length 0 none)).take (HT.sIx ns.length ns.length (some 63) - HT.sIx ns.length 0 none), ?_, ?_⟩
    · unfold cutD
      rw [List.length_map, List.map_take, List.map_drop]
    · rw [List.length_take, List.length_drop]
      have : HT.sIx ns.length ns.length (some 63) ≤ 63 := by
        show (if (63 : Int) < 0 then ((63 : Int) + (ns.length : Int)).toNat else min (63 : Int).toNat ns.length) ≤ 63
        rw [if_neg (by decide)]
        exact Nat.min_le_left _ _
      omega
  obtain ⟨cs, e1, e2⟩ := e1
  refine ⟨pre ++ [.lst (bagL 0 1234567891 0 (cs.map fun c => (c.natAbs : Int)))], ?_, 0, 1234567891, 0, _, rfl, by decide, by decide, by decide, by decide, by decide, fun c hc => ?_, by simpa using e2⟩
  · have hm : ∀ S, lcRun (gNm 1) bYes (eB absG (lCons (eVar 1) lNil)) [some (.d (.list (ns.map PyData.int))), none] (cs.map PyData.int) [] S = .ok ([] ++ (((cs.map PyData.int).filter fun _ => true).map absP)) S := fun S => lc_map _ _ fun d hd => by
      obtain ⟨c, _, rfl⟩ := List.mem_map.mp hd
      exact ⟨_, rfl, rfl, fun _ => rfl⟩
    have hl : litOk (0 + 1 + 1 + 1 + 1) = true := by decide
    have hf : ((cs.map PyData.int).filter fun _ => true).map absP = (cs.map fun c => (c.natAbs : Int)).map PyData.int := by
      rw [List.filter_eq_self.mpr (fun _ _ => rfl), List.map_map, List.map_map]
      rfl
    have key : b__law_bag [some (.d (.list (ns.map PyData.int))), none] pre = .fl (.rt (.own pre.length)) (pre ++ [.lst (bagL 0 1234567891 0 (cs.map fun c => (c.natAbs : Int)))]) := by
      simp only [b__law_bag, mLc, iVal, seqD, wipeR, e1, hm, hl, bagL, hf, List.nil_append, sSeq, sIf, tCmpB, tChB, tTru, tAndB, tOrB, tNotB, eAnd, eOr, eNot, truW, truD, eBin, eCh, eIf, eVar, eC, Rs.bind, op2, bool2, view, List.getElem?_cons_zero, List.getElem?_cons_succ, ixD, at_0, at_1, at_2, at_3, gtD, ltD, leD, geD, decide_true, decide_false, bindS, seqR, sSet, eB, lCons, lNil, opN, views, Option.map, Option.some.injEq, intG, absG, lenG, modD, addD, subD, iaddD, if_true, if_false, reduceIte, call1, call2, lo0, lo1, lo2, lo3, lo4, lo5, List.set, sPut, sAugI, sAug, frzW, eFrz, ownL, ixSet4, sRet, sExpr, eOwn, eFz, mLst, dats, sNil, sRetN, eqD_int, neD_int, oSom, oNon, eSl, slD, Bool.false_eq_true, Bool.not_true, Bool.not_false, eTup, sPar, eCall, List.length_cons, List.length_nil, sAsg]
    show (match b__law_bag [some (.d (.list (ns.map PyData.int))), none] pre with
      | .fl (.rt w) S' => exitW pre.length w S'
      | .fl (.nx _) S' => exitW pre.length (.d .none) S'
      | .exc x _ S' => .exc x (S'.take pre.length)
      | _ => .bad) = _
    rw [key]
    dsimp only [exitW]
    rw [if_neg (Nat.lt_irrefl _), last_get]
    dsimp only
    rw [List.take_append_of_le_length (Nat.le_refl _), List.take_length]
  · obtain ⟨z, _, rfl⟩ := List.mem_map.mp hc
    omega
end DL

set_option Elab.async false
set_option linter.all false
set_option maxRecDepth 100000
set_option maxHeartbeats 4000000
namespace DL
open PySem PySem.Spec PyProof.Rows L2
/-! ### the greatest common divisor -/
theorem divOk_small {i : Int} (h0 : i ≠ 0) (h : i.natAbs < 2 ^ 400) : divOk i = true := decide_eq_true ⟨h0, Nat.lt_trans (lg400 _ h) (by decide)⟩
noncomputable def eucC : BF := (tCmpB gtD (eVar 1) (eC (.int 0)))
noncomputable def eucB : SF := (sPar 0 1 (eVar 1) (eBin modD (eVar 0) (eVar 1)))
noncomputable def eucB2 : SF := (sPar 0 1 (eVar 1) (eBin modD (eB intG (lCons (eVar 0) lNil)) (eVar 1)))
theorem fmod_nat (a b : Nat) : ((a : Int)).fmod (b : Int) = ((a % b : Nat) : Int) := by
  rw [Int.fmod_eq_emod_of_nonneg _ (Int.natCast_nonneg _)]
  exact (Int.natCast_emod a b).symm
theorem euclid {S : Sto} : ∀ (n a b : Nat), b ≤ n → b < 2 ^ 400 → ∃ m, whileN eucC eucB m [some (.d (.int (a : Nat))), some (.d (.int (b : Nat)))] S = .fl (.nx [some (.d (.int (Nat.gcd a b : Nat))), some (.d (.int 0))]) S
  | 0, a, b, hb, _ => by
    have : b = 0 := by omega
    subst this
    refine ⟨1, ?_⟩
    have h0 : ¬ ((0 : Int) < ((0 : Nat) : Int)) := by decide
    simp only [whileN, eucC, h0, Nat.gcd_zero_right, sSeq, sIf, tCmpB, tChB, tTru, tAndB, tOrB, tNotB, eAnd, eOr, eNot, truW, truD, eBin, eCh, eIf, eVar, eC, Rs.bind, op2, bool2, view, List.getElem?_cons_zero, List.getElem?_cons_succ, ixD, at_0, at_1, at_2, at_3, gtD, ltD, leD, geD, decide_true, decide_false, bindS, seqR, sSet, eB, lCons, lNil, opN, views, Option.map, Option.some.injEq, intG, absG, lenG, modD, addD, subD, iaddD, if_true, if_false, reduceIte, call1, call2, lo0, lo1, lo2, lo3, lo4, lo5, List.set, sPut, sAugI, sAug, frzW, eFrz, ownL, ixSet4, sRet, sExpr, eOwn, eFz, mLst, dats, sNil, sRetN, eqD_int, neD_int, oSom, oNon, eSl, slD, Bool.false_eq_true, Bool.not_true, Bool.not_false, eTup, sPar, eCall, List.length_cons, List.length_nil, sAsg]
    rfl
  | n + 1, a, b, hb, hz => by
    by_cases h : b = 0
    · subst h
      exact euclid 0 a 0 (Nat.le_refl _) hz
    · have hm : a % b < b := Nat.mod_lt _ (by omega)
      obtain ⟨m, e⟩ := euclid (S := S) n b (a % b) (by omega) (by omega)
      refine ⟨m + 1, ?_⟩
      have h0 : (0 : Int) < ((b : Nat) : Int) := by omega
      have hne : ((b : Nat) : Int) ≠ 0 := by omega
      have hg : Nat.gcd a b = Nat.gcd b (a % b) := by rw [Nat.gcd_comm a b, Nat.gcd_rec b a, Nat.gcd_comm]
      rw [hg, ← e]
      have hd := divOk_small hne (by simpa using hz)
      simp only [whileN, eucC, eucB, h0, hne, hd, fmod_nat, stepR, sSeq, sIf, tCmpB, tChB, tTru, tAndB, tOrB, tNotB, eAnd, eOr, eNot, truW, truD, eBin, eCh, eIf, eVar, eC, Rs.bind, op2, bool2, view, List.getElem?_cons_zero, List.getElem?_cons_succ, ixD, at_0, at_1, at_2, at_3, gtD, ltD, leD, geD, decide_true, decide_false, bindS, seqR, sSet, eB, lCons, lNil, opN, views, Option.map, Option.some.injEq, intG, absG, lenG, modD, addD, subD, iaddD, if_true, if_false, reduceIte, call1, call2, lo0, lo1, lo2, lo3, lo4, lo5, List.set, sPut, sAugI, sAug, frzW, eFrz, ownL, ixSet4, sRet, sExpr, eOwn, eFz, mLst, dats, sNil, sRetN, eqD_int, neD_int, oSom, oNon, eSl, slD, Bool.false_eq_true, Bool.not_true, Bool.not_false, eTup, sPar, eCall, List.length_cons, List.length_nil, sAsg]
theorem euclid2 {S : Sto} : ∀ (n a b : Nat), b ≤ n → b < 2 ^ 400 → ∃ m, whileN eucC eucB2 m [some (.d (.int (a : Nat))), some (.d (.int (b : Nat)))] S = .fl (.nx [some (.d (.int (Nat.gcd a b : Nat))), some (.d (.int 0))]) S
  | 0, a, b, hb, _ => by
    have : b = 0 := by omega
    subst this
    refine ⟨1, ?_⟩
    have h0 : ¬ ((0 : Int) < ((0 : Nat) : Int)) := by decide
    simp only [whileN, eucC, h0, Nat.gcd_zero_right, sSeq, sIf, tCmpB, tChB, tTru, tAndB, tOrB, tNotB, eAnd, eOr, eNot, truW, truD, eBin, eCh, eIf, eVar, eC, Rs.bind, op2, bool2, view, List.getElem?_cons_zero, List.getElem?_cons_succ, ixD, at_0, at_1, at_2, at_3, gtD, ltD, leD, geD, decide_true, decide_false, bindS, seqR, sSet, eB, lCons, lNil, opN, views, Option.map, Option.some.injEq, intG, absG, lenG, modD, addD, subD, iaddD, if_true, if_false, reduceIte, call1, call2, lo0, lo1, lo2, lo3, lo4, lo5, List.set, sPut, sAugI, sAug, frzW, eFrz, ownL, ixSet4, sRet, sExpr, eOwn, eFz, mLst, dats, sNil, sRetN, eqD_int, neD_int, oSom, oNon, eSl, slD, Bool.false_eq_true, Bool.not_true, Bool.not_false, eTup, sPar, eCall, List.length_cons, List.length_nil, sAsg]
    rfl
  | n + 1, a, b, hb, hz => by
    by_cases h : b = 0
    · subst h
      exact euclid2 0 a 0 (Nat.le_refl _) hz
    · have hm : a % b < b := Nat.mod_lt _ (by omega)
      obtain ⟨m, e⟩ := euclid2 (S := S) n b (a % b) (by omega) (by omega)
      refine ⟨m + 1, ?_⟩
      have h0 : (0 : Int) < ((b : Nat) : Int) := by omega
      have hne : ((b : Nat) : Int) ≠ 0 := by omega
      have hg : Nat.gcd a b = Nat.gcd b (a % b) := by rw [Nat.gcd_comm a b, Nat.gcd_rec b a, Nat.gcd_comm]
      rw [hg, ← e]
      have hd := divOk_small hne (by simpa using hz)
      simp only [whileN, eucC, eucB2, h0, hne, hd, fmod_nat, stepR, sSeq, sIf, tCmpB, tChB, tTru, tAndB, tOrB, tNotB, eAnd, eOr, eNot, truW, truD, eBin, eCh, eIf, eVar, eC, Rs.bind, op2, bool2, view, List.getElem?_cons_zero, List.getElem?_cons_succ, ixD, at_0, at_1, at_2, at_3, gtD, ltD, leD, geD, decide_true, decide_false, bindS, seqR, sSet, eB, lCons, lNil, opN, views, Option.map, Option.some.injEq, intG, absG, lenG, modD, addD, subD, iaddD, if_true, if_false, reduceIte, call1, call2, lo0, lo1, lo2, lo3, lo4, lo5, List.set, sPut, sAugI, sAug, frzW, eFrz, ownL, ixSet4, sRet, sExpr, eOwn, eFz, mLst, dats, sNil, sRetN, eqD_int, neD_int, oSom, oNon, eSl, slD, Bool.false_eq_true, Bool.not_true, Bool.not_false, eTup, sPar, eCall, List.length_cons, List.length_nil, sAsg]
end DL

set_option Elab.async false
set_option linter.all false
set_option maxRecDepth 100000
set_option maxHeartbeats 4000000
namespace DL
open PySem PySem.Spec PyProof.Rows L2
theorem run_ret0 {nn ar : Nat} {b : SF} {ws : List Wv} {S : Sto} {d : PyData} (h : b (ws.map some ++ List.replicate (nn - ar) none) S = .fl (.rt (.d d)) S) : runDef nn ar b ws S = .ok (.d d) S := by
  have := run_ret h
  rw [List.take_length] at this
  exact this
theorem divisor_sem {a b : Int} {S : Sto} (h : b.natAbs < 2 ^ 400) : f_divisor [.d (.int a), .d (.int b)] S = .ok (.d (.int (Nat.gcd a.natAbs b.natAbs : Nat))) S := by
  obtain ⟨m, e⟩ := euclid (S := S) b.natAbs a.natAbs b.natAbs (Nat.le_refl _) h
  have hw := sWhile_eq e (by intro z; cases z)
  refine run_ret0 (ws := [.d (.int a), .d (.int b)]) (nn := 2) (ar := 2) ?_
  show b_divisor [some (.d (.int a)), some (.d (.int b))] S = _
  have hb : b_divisor = sSeq (sPar 0 1 (eB absG (lCons (eVar 0) lNil)) (eB absG (lCons (eVar 1) lNil))) (sSeq (sWhile eucC eucB) (sRet (eVar 0))) := rfl
  rw [hb]
  simp only [hw, sSeq, sIf, tCmpB, tChB, tTru, tAndB, tOrB, tNotB, eAnd, eOr, eNot, truW, truD, eBin, eCh, eIf, eVar, eC, Rs.bind, op2, bool2, view, List.getElem?_cons_zero, List.getElem?_cons_succ, ixD, at_0, at_1, at_2, at_3, gtD, ltD, leD, geD, decide_true, decide_false, bindS, seqR, sSet, eB, lCons, lNil, opN, views, Option.map, Option.some.injEq, intG, absG, lenG, modD, addD, subD, iaddD, if_true, if_false, reduceIte, call1, call2, lo0, lo1, lo2, lo3, lo4, lo5, List.set, sPut, sAugI, sAug, frzW, eFrz, ownL, ixSet4, sRet, sExpr, eOwn, eFz, mLst, dats, sNil, sRetN, eqD_int, neD_int, oSom, oNon, eSl, slD, Bool.false_eq_true, Bool.not_true, Bool.not_false, eTup, sPar, eCall, List.length_cons, List.length_nil, sAsg]
theorem common_sem {a b : Int} {S : Sto} (ha : 0 ≤ a) (hb : 0 ≤ b) (h : b.natAbs < 2 ^ 400) : f__law_common [.d (.int a), .d (.int b)] S = .ok (.d (.int (Nat.gcd a.natAbs b.natAbs : Nat))) S := by
  obtain ⟨m, e⟩ := euclid2 (S := S) b.natAbs a.natAbs b.natAbs (Nat.le_refl _) h
  have hw := sWhile_eq e (by intro z; cases z)
  rw [Int.natAbs_of_nonneg ha, Int.natAbs_of_nonneg hb] at hw
  refine run_ret0 (ws := [.d (.int a), .d (.int b)]) (nn := 2) (ar := 2) ?_
  show b__law_common [some (.d (.int a)), some (.d (.int b))] S = _
  have hb : b__law_common = sSeq (sWhile eucC eucB2) (sRet (eVar 0)) := rfl
  rw [hb]
  simp only [hw, sSeq, sIf, tCmpB, tChB, tTru, tAndB, tOrB, tNotB, eAnd, eOr, eNot, truW, truD, eBin, eCh, eIf, eVar, eC, Rs.bind, op2, bool2, view, List.getElem?_cons_zero, List.getElem?_cons_succ, ixD, at_0, at_1, at_2, at_3, gtD, ltD, leD, geD, decide_true, decide_false, bindS, seqR, sSet, eB, lCons, lNil, opN, views, Option.map, Option.some.injEq, intG, absG, lenG, modD, addD, subD, iaddD, if_true, if_false, reduceIte, call1, call2, lo0, lo1, lo2, lo3, lo4, lo5, List.set, sPut, sAugI, sAug, frzW, eFrz, ownL, ixSet4, sRet, sExpr, eOwn, eFz, mLst, dats, sNil, sRetN, eqD_int, neD_int, oSom, oNon, eSl, slD, Bool.false_eq_true, Bool.not_true, Bool.not_false, eTup, sPar, eCall, List.length_cons, List.length_nil, sAsg]
end DL

set_option Elab.async false
set_option linter.all false
set_option maxRecDepth 100000
set_option maxHeartbeats 4000000
namespace DL
open PySem PySem.Spec PyProof.Rows L2
theorem lit2 : litOk (0 + 1 + 1) = true := by decide
def mst (a b : Int) : Int := if 0 < b then (Nat.gcd a.natAbs b.natAbs : Nat) else 0 - (Nat.gcd a.natAbs b.natAbs : Nat)
def frD (a b : Int) : PyData := .tuple [.int (a.fdiv (mst a b)), .int (b.fdiv (mst a b))]
theorem gcd_pos {a b : Int} (h : b ≠ 0) : 0 < Nat.gcd a.natAbs b.natAbs := Nat.gcd_pos_of_pos_right _ (by omega)
theorem gcd_le {a b : Int} (h : b ≠ 0) : Nat.gcd a.natAbs b.natAbs ≤ b.natAbs := Nat.gcd_le_right _ (by omega)
theorem fraction_zero {a : Int} {S : Sto} : f_fraction [.d (.int a), .d (.int 0)] S = .exc ⟨"Refused", [("why", .str (PySem.Str.ofString "zero"))]⟩ S := by
  have h0 : ((0 : Int) == 0) = true := rfl
  show (match b_fraction [some (.d (.int a)), some (.d (.int 0)), none] S with
    | .fl (.rt w) S' => exitW S.length w S'
    | .fl (.nx _) S' => exitW S.length (.d .none) S'
    | .exc x _ S' => .exc x (S'.take S.length)
    | _ => .bad) = _
  have e : b_fraction [some (.d (.int a)), some (.d (.int 0)), none] S = .exc ⟨"Refused", [("why", .str (PySem.Str.ofString "zero"))]⟩ [some (.d (.int a)), some (.d (.int 0)), none] S := by
    simp only [b_fraction, sRaise, allD, h0, List.zip_cons_cons, List.zip_nil_right, List.reverse_cons, List.reverse_nil, List.nil_append, sSeq, sIf, tCmpB, tChB, tTru, tAndB, tOrB, tNotB, eAnd, eOr, eNot, truW, truD, eBin, eCh, eIf, eVar, eC, Rs.bind, op2, bool2, view, List.getElem?_cons_zero, List.getElem?_cons_succ, ixD, at_0, at_1, at_2, at_3, gtD, ltD, leD, geD, decide_true, decide_false, bindS, seqR, sSet, eB, lCons, lNil, opN, views, Option.map, Option.some.injEq, intG, absG, lenG, modD, addD, subD, iaddD, if_true, if_false, reduceIte, call1, call2, lo0, lo1, lo2, lo3, lo4, lo5, List.set, sPut, sAugI, sAug, frzW, eFrz, ownL, ixSet4, sRet, sExpr, eOwn, eFz, mLst, dats, sNil, sRetN, eqD_int, neD_int, oSom, oNon, eSl, slD, Bool.false_eq_true, Bool.not_true, Bool.not_false, eTup, sPar, eCall, List.length_cons, List.length_nil, sAsg]
  rw [e]
  dsimp only
  rw [List.take_length]
theorem fraction_sem {a b : Int} {S : Sto} (h0 : b ≠ 0) (h : b.natAbs < 2 ^ 400) : f_fraction [.d (.int a), .d (.int b)] S = .ok (.d (frD a b)) S := by
  have hd := divisor_sem (a := a) (b := b) (S := S) h
  have hg := gcd_pos (a := a) h0
  have hle := gcd_le (a := a) h0
  have hbe : (b == 0) = false := by simpa using h0
  refine run_ret0 (ws := [.d (.int a), .d (.int b)]) (nn := 3) (ar := 2) ?_
  show b_fraction [some (.d (.int a)), some (.d (.int b)), none] S = _
  by_cases hb : 0 < b
  · have hm : mst a b = (Nat.gcd a.natAbs b.natAbs : Nat) := if_pos hb
    have hdv : divOk ((Nat.gcd a.natAbs b.natAbs : Nat) : Int) = true := divOk_small (by omega) (by omega)
    simp only [b_fraction, hbe, hb, hd, frD, hm, fdivD, hdv, lit2, sSeq, sIf, tCmpB, tChB, tTru, tAndB, tOrB, tNotB, eAnd, eOr, eNot, truW, truD, eBin, eCh, eIf, eVar, eC, Rs.bind, op2, bool2, view, List.getElem?_cons_zero, List.getElem?_cons_succ, ixD, at_0, at_1, at_2, at_3, gtD, ltD, leD, geD, decide_true, decide_false, bindS, seqR, sSet, eB, lCons, lNil, opN, views, Option.map, Option.some.injEq, intG, absG, lenG, modD, addD, subD, iaddD, if_true, if_false, reduceIte, call1, call2, lo0, lo1, lo2, lo3, lo4, lo5, List.set, sPut, sAugI, sAug, frzW, eFrz, ownL, ixSet4, sRet, sExpr, eOwn, eFz, mLst, dats, sNil, sRetN, eqD_int, neD_int, oSom, oNon, eSl, slD, Bool.false_eq_true, Bool.not_true, Bool.not_false, eTup, sPar, eCall, List.length_cons, List.length_nil, sAsg]
  · have hm : mst a b = 0 - (Nat.gcd a.natAbs b.natAbs : Nat) := if_neg hb
    have hdv : divOk (0 - ((Nat.gcd a.natAbs b.natAbs : Nat) : Int)) = true := divOk_small (by omega) (by omega)
    simp only [b_fraction, hbe, hb, hd, frD, hm, fdivD, hdv, lit2, sSeq, sIf, tCmpB, tChB, tTru, tAndB, tOrB, tNotB, eAnd, eOr, eNot, truW, truD, eBin, eCh, eIf, eVar, eC, Rs.bind, op2, bool2, view, List.getElem?_cons_zero, List.getElem?_cons_succ, ixD, at_0, at_1, at_2, at_3, gtD, ltD, leD, geD, decide_true, decide_false, bindS, seqR, sSet, eB, lCons, lNil, opN, views, Option.map, Option.some.injEq, intG, absG, lenG, modD, addD, subD, iaddD, if_true, if_false, reduceIte, call1, call2, lo0, lo1, lo2, lo3, lo4, lo5, List.set, sPut, sAugI, sAug, frzW, eFrz, ownL, ixSet4, sRet, sExpr, eOwn, eFz, mLst, dats, sNil, sRetN, eqD_int, neD_int, oSom, oNon, eSl, slD, Bool.false_eq_true, Bool.not_true, Bool.not_false, eTup, sPar, eCall, List.length_cons, List.length_nil, sAsg]
theorem neg_fdiv (a : Int) {g : Int} : (-a).fdiv g = a.fdiv (0 - g) := by
  rw [Int.zero_sub, ← Int.neg_fdiv_neg, Int.neg_neg]
theorem lfraction_sem {a b : Int} {S : Sto} (h0 : b ≠ 0) (h : b.natAbs < 2 ^ 400) : f__law_fraction [.d (.int a), .d (.int b)] S = .ok (.d (frD a b)) S := by
  have hg := gcd_pos (a := a) h0
  have hle := gcd_le (a := a) h0
  have hdv : divOk ((Nat.gcd a.natAbs b.natAbs : Nat) : Int) = true := divOk_small (by omega) (by omega)
  refine run_ret0 (ws := [.d (.int a), .d (.int b)]) (nn := 3) (ar := 2) ?_
  show b__law_fraction [some (.d (.int a)), some (.d (.int b)), none] S = _
  by_cases hb : b < 0
  · have hm : mst a b = 0 - (Nat.gcd a.natAbs b.natAbs : Nat) := if_neg (by omega)
    have hd := common_sem (a := ((-a).natAbs : Nat)) (b := -b) (S := S) (by omega) (by omega) (by omega)
    have e : Nat.gcd ((((-a).natAbs : Nat) : Int)).natAbs (-b).natAbs = Nat.gcd a.natAbs b.natAbs := by
      rw [Int.natAbs_natCast, Int.natAbs_neg, Int.natAbs_neg]
    rw [e] at hd
    simp only [b__law_fraction, hb, negG, hd, frD, hm, fdivD, hdv, lit2, neg_fdiv, sSeq, sIf, tCmpB, tChB, tTru, tAndB, tOrB, tNotB, eAnd, eOr, eNot, truW, truD, eBin, eCh, eIf, eVar, eC, Rs.bind, op2, bool2, view, List.getElem?_cons_zero, List.getElem?_cons_succ, ixD, at_0, at_1, at_2, at_3, gtD, ltD, leD, geD, decide_true, decide_false, bindS, seqR, sSet, eB, lCons, lNil, opN, views, Option.map, Option.some.injEq, intG, absG, lenG, modD, addD, subD, iaddD, if_true, if_false, reduceIte, call1, call2, lo0, lo1, lo2, lo3, lo4, lo5, List.set, sPut, sAugI, sAug, frzW, eFrz, ownL, ixSet4, sRet, sExpr, eOwn, eFz, mLst, dats, sNil, sRetN, eqD_int, neD_int, oSom, oNon, eSl, slD, Bool.false_eq_true, Bool.not_true, Bool.not_false, eTup, sPar, eCall, List.length_cons, List.length_nil, sAsg]
  · have hm : mst a b = (Nat.gcd a.natAbs b.natAbs : Nat) := if_pos (by omega)
    have hd := common_sem (a := (a.natAbs : Nat)) (b := b) (S := S) (by omega) (by omega) h
    rw [Int.natAbs_natCast] at hd
    simp only [b__law_fraction, hb, hd, frD, hm, fdivD, hdv, lit2, sSeq, sIf, tCmpB, tChB, tTru, tAndB, tOrB, tNotB, eAnd, eOr, eNot, truW, truD, eBin, eCh, eIf, eVar, eC, Rs.bind, op2, bool2, view, List.getElem?_cons_zero, List.getElem?_cons_succ, ixD, at_0, at_1, at_2, at_3, gtD, ltD, leD, geD, decide_true, decide_false, bindS, seqR, sSet, eB, lCons, lNil, opN, views, Option.map, Option.some.injEq, intG, absG, lenG, modD, addD, subD, iaddD, if_true, if_false, reduceIte, call1, call2, lo0, lo1, lo2, lo3, lo4, lo5, List.set, sPut, sAugI, sAug, frzW, eFrz, ownL, ixSet4, sRet, sExpr, eOwn, eFz, mLst, dats, sNil, sRetN, eqD_int, neD_int, oSom, oNon, eSl, slD, Bool.false_eq_true, Bool.not_true, Bool.not_false, eTup, sPar, eCall, List.length_cons, List.length_nil, sAsg]
end DL

set_option Elab.async false
set_option linter.all false
set_option maxRecDepth 100000
set_option maxHeartbeats 4000000
namespace DL
open PySem PySem.Spec PyProof.Rows L2
abbrev tp (a b : Int) : PyData := .tuple [.int a, .int b]
theorem at2_0 (a b : PyData) : atI [a, b] 0 = some a := rfl
theorem at2_1 (a b : PyData) : atI [a, b] 1 = some b := rfl
theorem sq_small {a b : Int} (ha : a.natAbs < 2 ^ 200) (hb : b.natAbs < 2 ^ 200) : (a * b).natAbs < 2 ^ 400 := by
  rw [Int.natAbs_mul]
  have : (2 : Nat) ^ 400 = 2 ^ 200 * 2 ^ 200 := by rw [← Nat.pow_add]
  rw [this]
  exact Nat.mul_lt_mul'' ha hb
theorem up_small {a : Int} (ha : a.natAbs < 2 ^ 200) : a.natAbs < 2 ^ 400 := Nat.lt_trans ha (Nat.pow_lt_pow_right (by decide) (by decide))
theorem mulOk_200 {a b : Int} (ha : a.natAbs < 2 ^ 200) (hb : b.natAbs < 2 ^ 200) : mulOk a b = true := mulOk_small (up_small ha) (up_small hb)
section
variable {a b c d : Int} {S : Sto} (ha : a.natAbs < 2 ^ 400) (hb : b.natAbs < 2 ^ 200) (hc : c.natAbs < 2 ^ 400) (hd : d.natAbs < 2 ^ 200) (b0 : b ≠ 0)
include ha hb hc hd b0
theorem plus_sem (d0 : d ≠ 0) : f_plus [.d (tp a b), .d (tp c d)] S = .ok (.d (frD (a * d + c * b) (b * d))) S := by
  refine run_ret0 (ws := [.d (tp a b), .d (tp c d)]) (nn := 2) (ar := 2) ?_
  show b_plus [some (.d (tp a b)), some (.d (tp c d))] S = _
  simp only [b_plus, tp, at2_0, at2_1, mulD, mulOk_small ha (up_small hd), mulOk_small hc (up_small hb), mulOk_200 hb hd, fraction_sem (Int.mul_ne_zero b0 d0) (sq_small hb hd), sSeq, sIf, tCmpB, tChB, tTru, tAndB, tOrB, tNotB, eAnd, eOr, eNot, truW, truD, eBin, eCh, eIf, eVar, eC, Rs.bind, op2, bool2, view, List.getElem?_cons_zero, List.getElem?_cons_succ, ixD, at_0, at_1, at_2, at_3, gtD, ltD, leD, geD, decide_true, decide_false, bindS, seqR, sSet, eB, lCons, lNil, opN, views, Option.map, Option.some.injEq, intG, absG, lenG, modD, addD, subD, iaddD, if_true, if_false, reduceIte, call1, call2, lo0, lo1, lo2, lo3, lo4, lo5, List.set, sPut, sAugI, sAug, frzW, eFrz, ownL, ixSet4, sRet, sExpr, eOwn, eFz, mLst, dats, sNil, sRetN, eqD_int, neD_int, oSom, oNon, eSl, slD, Bool.false_eq_true, Bool.not_true, Bool.not_false, eTup, sPar, eCall, List.length_cons, List.length_nil, sAsg]
theorem lplus_sem (d0 : d ≠ 0) : f__law_fraction_plus [.d (tp a b), .d (tp c d)] S = .ok (.d (frD (a * d + c * b) (b * d))) S := by
  refine run_ret0 (ws := [.d (tp a b), .d (tp c d)]) (nn := 2) (ar := 2) ?_
  show b__law_fraction_plus [some (.d (tp a b)), some (.d (tp c d))] S = _
  simp only [b__law_fraction_plus, tp, at2_0, at2_1, mulD, mulOk_small ha (up_small hd), mulOk_small hc (up_small hb), mulOk_200 hb hd, lfraction_sem (Int.mul_ne_zero b0 d0) (sq_small hb hd), sSeq, sIf, tCmpB, tChB, tTru, tAndB, tOrB, tNotB, eAnd, eOr, eNot, truW, truD, eBin, eCh, eIf, eVar, eC, Rs.bind, op2, bool2, view, List.getElem?_cons_zero, List.getElem?_cons_succ, ixD, at_0, at_1, at_2, at_3, gtD, ltD, leD, geD, decide_true, decide_false, bindS, seqR, sSet, eB, lCons, lNil, opN, views, Option.map, Option.some.injEq, intG, absG, lenG, modD, addD, subD, iaddD, if_true, if_false, reduceIte, call1, call2, lo0, lo1, lo2, lo3, lo4, lo5, List.set, sPut, sAugI, sAug, frzW, eFrz, ownL, ixSet4, sRet, sExpr, eOwn, eFz, mLst, dats, sNil, sRetN, eqD_int, neD_int, oSom, oNon, eSl, slD, Bool.false_eq_true, Bool.not_true, Bool.not_false, eTup, sPar, eCall, List.length_cons, List.length_nil, sAsg]
theorem minus_sem (d0 : d ≠ 0) : f_minus [.d (tp a b), .d (tp c d)] S = .ok (.d (frD (a * d - c * b) (b * d))) S := by
  refine run_ret0 (ws := [.d (tp a b), .d (tp c d)]) (nn := 2) (ar := 2) ?_
  show b_minus [some (.d (tp a b)), some (.d (tp c d))] S = _
  simp only [b_minus, tp, at2_0, at2_1, mulD, mulOk_small ha (up_small hd), mulOk_small hc (up_small hb), mulOk_200 hb hd, fraction_sem (Int.mul_ne_zero b0 d0) (sq_small hb hd), sSeq, sIf, tCmpB, tChB, tTru, tAndB, tOrB, tNotB, eAnd, eOr, eNot, truW, truD, eBin, eCh, eIf, eVar, eC, Rs.bind, op2, bool2, view, List.getElem?_cons_zero, List.getElem?_cons_succ, ixD, at_0, at_1, at_2, at_3, gtD, ltD, leD, geD, decide_true, decide_false, bindS, seqR, sSet, eB, lCons, lNil, opN, views, Option.map, Option.some.injEq, intG, absG, lenG, modD, addD, subD, iaddD, if_true, if_false, reduceIte, call1, call2, lo0, lo1, lo2, lo3, lo4, lo5, List.set, sPut, sAugI, sAug, frzW, eFrz, ownL, ixSet4, sRet, sExpr, eOwn, eFz, mLst, dats, sNil, sRetN, eqD_int, neD_int, oSom, oNon, eSl, slD, Bool.false_eq_true, Bool.not_true, Bool.not_false, eTup, sPar, eCall, List.length_cons, List.length_nil, sAsg]
theorem mult_sem (d0 : d ≠ 0) : f_multiplied [.d (tp a b), .d (tp c d)] S = .ok (.d (frD (a * c) (b * d))) S := by
  refine run_ret0 (ws := [.d (tp a b), .d (tp c d)]) (nn := 2) (ar := 2) ?_
  show b_multiplied [some (.d (tp a b)), some (.d (tp c d))] S = _
  simp only [b_multiplied, tp, at2_0, at2_1, mulD, mulOk_small ha hc, mulOk_200 hb hd, fraction_sem (Int.mul_ne_zero b0 d0) (sq_small hb hd), sSeq, sIf, tCmpB, tChB, tTru, tAndB, tOrB, tNotB, eAnd, eOr, eNot, truW, truD, eBin, eCh, eIf, eVar, eC, Rs.bind, op2, bool2, view, List.getElem?_cons_zero, List.getElem?_cons_succ, ixD, at_0, at_1, at_2, at_3, gtD, ltD, leD, geD, decide_true, decide_false, bindS, seqR, sSet, eB, lCons, lNil, opN, views, Option.map, Option.some.injEq, intG, absG, lenG, modD, addD, subD, iaddD, if_true, if_false, reduceIte, call1, call2, lo0, lo1, lo2, lo3, lo4, lo5, List.set, sPut, sAugI, sAug, frzW, eFrz, ownL, ixSet4, sRet, sExpr, eOwn, eFz, mLst, dats, sNil, sRetN, eqD_int, neD_int, oSom, oNon, eSl, slD, Bool.false_eq_true, Bool.not_true, Bool.not_false, eTup, sPar, eCall, List.length_cons, List.length_nil, sAsg]
theorem ltimes_sem (d0 : d ≠ 0) : f__law_fraction_times [.d (tp a b), .d (tp c d)] S = .ok (.d (frD (a * c) (b * d))) S := by
  refine run_ret0 (ws := [.d (tp a b), .d (tp c d)]) (nn := 2) (ar := 2) ?_
  show b__law_fraction_times [some (.d (tp a b)), some (.d (tp c d))] S = _
  simp only [b__law_fraction_times, tp, at2_0, at2_1, mulD, mulOk_small ha hc, mulOk_200 hb hd, lfraction_sem (Int.mul_ne_zero b0 d0) (sq_small hb hd), sSeq, sIf, tCmpB, tChB, tTru, tAndB, tOrB, tNotB, eAnd, eOr, eNot, truW, truD, eBin, eCh, eIf, eVar, eC, Rs.bind, op2, bool2, view, List.getElem?_cons_zero, List.getElem?_cons_succ, ixD, at_0, at_1, at_2, at_3, gtD, ltD, leD, geD, decide_true, decide_false, bindS, seqR, sSet, eB, lCons, lNil, opN, views, Option.map, Option.some.injEq, intG, absG, lenG, modD, addD, subD, iaddD, if_true, if_false, reduceIte, call1, call2, lo0, lo1, lo2, lo3, lo4, lo5, List.set, sPut, sAugI, sAug, frzW, eFrz, ownL, ixSet4, sRet, sExpr, eOwn, eFz, mLst, dats, sNil, sRetN, eqD_int, neD_int, oSom, oNon, eSl, slD, Bool.false_eq_true, Bool.not_true, Bool.not_false, eTup, sPar, eCall, List.length_cons, List.length_nil, sAsg]
theorem less_sem : f_is_less [.d (tp a b), .d (tp c d)] S = .ok (.d (.bool (decide (a * d < c * b)))) S := by
  refine run_ret0 (ws := [.d (tp a b), .d (tp c d)]) (nn := 2) (ar := 2) ?_
  show b_is_less [some (.d (tp a b)), some (.d (tp c d))] S = _
  simp only [b_is_less, tp, at2_0, at2_1, mulD, mulOk_small ha (up_small hd), mulOk_small hc (up_small hb), sSeq, sIf, tCmpB, tChB, tTru, tAndB, tOrB, tNotB, eAnd, eOr, eNot, truW, truD, eBin, eCh, eIf, eVar, eC, Rs.bind, op2, bool2, view, List.getElem?_cons_zero, List.getElem?_cons_succ, ixD, at_0, at_1, at_2, at_3, gtD, ltD, leD, geD, decide_true, decide_false, bindS, seqR, sSet, eB, lCons, lNil, opN, views, Option.map, Option.some.injEq, intG, absG, lenG, modD, addD, subD, iaddD, if_true, if_false, reduceIte, call1, call2, lo0, lo1, lo2, lo3, lo4, lo5, List.set, sPut, sAugI, sAug, frzW, eFrz, ownL, ixSet4, sRet, sExpr, eOwn, eFz, mLst, dats, sNil, sRetN, eqD_int, neD_int, oSom, oNon, eSl, slD, Bool.false_eq_true, Bool.not_true, Bool.not_false, eTup, sPar, eCall, List.length_cons, List.length_nil, sAsg]
theorem lless_sem : f__law_is_fraction_less [.d (tp a b), .d (tp c d)] S = .ok (.d (.bool (decide (a * d < c * b)))) S := by
  refine run_ret0 (ws := [.d (tp a b), .d (tp c d)]) (nn := 2) (ar := 2) ?_
  show b__law_is_fraction_less [some (.d (tp a b)), some (.d (tp c d))] S = _
  simp only [b__law_is_fraction_less, tp, at2_0, at2_1, mulD, mulOk_small ha (up_small hd), mulOk_small hc (up_small hb), sSeq, sIf, tCmpB, tChB, tTru, tAndB, tOrB, tNotB, eAnd, eOr, eNot, truW, truD, eBin, eCh, eIf, eVar, eC, Rs.bind, op2, bool2, view, List.getElem?_cons_zero, List.getElem?_cons_succ, ixD, at_0, at_1, at_2, at_3, gtD, ltD, leD, geD, decide_true, decide_false, bindS, seqR, sSet, eB, lCons, lNil, opN, views, Option.map, Option.some.injEq, intG, absG, lenG, modD, addD, subD, iaddD, if_true, if_false, reduceIte, call1, call2, lo0, lo1, lo2, lo3, lo4, lo5, List.set, sPut, sAugI, sAug, frzW, eFrz, ownL, ixSet4, sRet, sExpr, eOwn, eFz, mLst, dats, sNil, sRetN, eqD_int, neD_int, oSom, oNon, eSl, slD, Bool.false_eq_true, Bool.not_true, Bool.not_false, eTup, sPar, eCall, List.length_cons, List.length_nil, sAsg]
end
end DL

set_option Elab.async false
set_option linter.all false
set_option maxRecDepth 100000
set_option maxHeartbeats 4000000
namespace DL
open PySem PySem.Spec PyProof.Rows L2
theorem run_exc0 {nn ar : Nat} {b : SF} {ws : List Wv} {S : Sto} {x : Xc} {ρ : Rho} (h : b (ws.map some ++ List.replicate (nn - ar) none) S = .exc x ρ S) : runDef nn ar b ws S = .exc x S := by
  unfold runDef
  rw [h]
  dsimp only
  rw [List.take_length]
section
variable {a b c d : Int} {S : Sto}
theorem ratio_sem (ha : a.natAbs < 2 ^ 200) (hb : b.natAbs < 2 ^ 200) (hc : c.natAbs < 2 ^ 200) (hd : d.natAbs < 2 ^ 200) (b0 : b ≠ 0) (c0 : c ≠ 0) : f_ratio [.d (tp a b), .d (tp c d)] S = .ok (.d (frD (a * d) (b * c))) S := by
  refine run_ret0 (ws := [.d (tp a b), .d (tp c d)]) (nn := 2) (ar := 2) ?_
  show b_ratio [some (.d (tp a b)), some (.d (tp c d))] S = _
  simp only [b_ratio, tp, at2_0, at2_1, mulD, mulOk_200 ha hd, mulOk_200 hb hc, fraction_sem (Int.mul_ne_zero b0 c0) (sq_small hb hc), sSeq, sIf, tCmpB, tChB, tTru, tAndB, tOrB, tNotB, eAnd, eOr, eNot, truW, truD, eBin, eCh, eIf, eVar, eC, Rs.bind, op2, bool2, view, List.getElem?_cons_zero, List.getElem?_cons_succ, ixD, at_0, at_1, at_2, at_3, gtD, ltD, leD, geD, decide_true, decide_false, bindS, seqR, sSet, eB, lCons, lNil, opN, views, Option.map, Option.some.injEq, intG, absG, lenG, modD, addD, subD, iaddD, if_true, if_false, reduceIte, call1, call2, lo0, lo1, lo2, lo3, lo4, lo5, List.set, sPut, sAugI, sAug, frzW, eFrz, ownL, ixSet4, sRet, sExpr, eOwn, eFz, mLst, dats, sNil, sRetN, eqD_int, neD_int, oSom, oNon, eSl, slD, Bool.false_eq_true, Bool.not_true, Bool.not_false, eTup, sPar, eCall, List.length_cons, List.length_nil, sAsg]
theorem ratio_zero (ha : a.natAbs < 2 ^ 200) (hb : b.natAbs < 2 ^ 200) (hd : d.natAbs < 2 ^ 200) : f_ratio [.d (tp a b), .d (tp 0 d)] S = .exc ⟨"Refused", [("why", .str (PySem.Str.ofString "zero"))]⟩ S := by
  refine run_exc0 (ws := [.d (tp a b), .d (tp 0 d)]) (nn := 2) (ar := 2) (ρ := [some (.d (tp a b)), some (.d (tp 0 d))]) ?_
  show b_ratio [some (.d (tp a b)), some (.d (tp 0 d))] S = _
  have m0 : mulOk b 0 = true := mulOk_200 hb (by decide)
  simp only [b_ratio, tp, at2_0, at2_1, mulD, mulOk_200 ha hd, m0, Int.mul_zero, fraction_zero, sSeq, sIf, tCmpB, tChB, tTru, tAndB, tOrB, tNotB, eAnd, eOr, eNot, truW, truD, eBin, eCh, eIf, eVar, eC, Rs.bind, op2, bool2, view, List.getElem?_cons_zero, List.getElem?_cons_succ, ixD, at_0, at_1, at_2, at_3, gtD, ltD, leD, geD, decide_true, decide_false, bindS, seqR, sSet, eB, lCons, lNil, opN, views, Option.map, Option.some.injEq, intG, absG, lenG, modD, addD, subD, iaddD, if_true, if_false, reduceIte, call1, call2, lo0, lo1, lo2, lo3, lo4, lo5, List.set, sPut, sAugI, sAug, frzW, eFrz, ownL, ixSet4, sRet, sExpr, eOwn, eFz, mLst, dats, sNil, sRetN, eqD_int, neD_int, oSom, oNon, eSl, slD, Bool.false_eq_true, Bool.not_true, Bool.not_false, eTup, sPar, eCall, List.length_cons, List.length_nil, sAsg]
theorem whole_sem : f_whole [.d (.int a)] S = .ok (.d (tp a 1)) S := by
  refine run_ret0 (ws := [.d (.int a)]) (nn := 1) (ar := 1) ?_
  show b_whole [some (.d (.int a))] S = _
  simp only [b_whole, lit2, sSeq, sIf, tCmpB, tChB, tTru, tAndB, tOrB, tNotB, eAnd, eOr, eNot, truW, truD, eBin, eCh, eIf, eVar, eC, Rs.bind, op2, bool2, view, List.getElem?_cons_zero, List.getElem?_cons_succ, ixD, at_0, at_1, at_2, at_3, gtD, ltD, leD, geD, decide_true, decide_false, bindS, seqR, sSet, eB, lCons, lNil, opN, views, Option.map, Option.some.injEq, intG, absG, lenG, modD, addD, subD, iaddD, if_true, if_false, reduceIte, call1, call2, lo0, lo1, lo2, lo3, lo4, lo5, List.set, sPut, sAugI, sAug, frzW, eFrz, ownL, ixSet4, sRet, sExpr, eOwn, eFz, mLst, dats, sNil, sRetN, eqD_int, neD_int, oSom, oNon, eSl, slD, Bool.false_eq_true, Bool.not_true, Bool.not_false, eTup, sPar, eCall, List.length_cons, List.length_nil, sAsg]
theorem floor_sem (hb : b.natAbs < 2 ^ 200) (b0 : b ≠ 0) : f_floor_of [.d (tp a b)] S = .ok (.d (.int (a.fdiv b))) S := by
  refine run_ret0 (ws := [.d (tp a b)]) (nn := 1) (ar := 1) ?_
  show b_floor_of [some (.d (tp a b))] S = _
  simp only [b_floor_of, tp, at2_0, at2_1, fdivD, divOk_small b0 (up_small hb), sSeq, sIf, tCmpB, tChB, tTru, tAndB, tOrB, tNotB, eAnd, eOr, eNot, truW, truD, eBin, eCh, eIf, eVar, eC, Rs.bind, op2, bool2, view, List.getElem?_cons_zero, List.getElem?_cons_succ, ixD, at_0, at_1, at_2, at_3, gtD, ltD, leD, geD, decide_true, decide_false, bindS, seqR, sSet, eB, lCons, lNil, opN, views, Option.map, Option.some.injEq, intG, absG, lenG, modD, addD, subD, iaddD, if_true, if_false, reduceIte, call1, call2, lo0, lo1, lo2, lo3, lo4, lo5, List.set, sPut, sAugI, sAug, frzW, eFrz, ownL, ixSet4, sRet, sExpr, eOwn, eFz, mLst, dats, sNil, sRetN, eqD_int, neD_int, oSom, oNon, eSl, slD, Bool.false_eq_true, Bool.not_true, Bool.not_false, eTup, sPar, eCall, List.length_cons, List.length_nil, sAsg]
end
/-- a normal form: the denominator above nought, nothing in common -/
def Nf (a b : Int) : Prop := 0 < b ∧ Nat.gcd a.natAbs b.natAbs = 1
theorem frD_nf {a b : Int} (h : Nf a b) : frD a b = tp a b := by
  unfold frD mst
  rw [if_pos h.1, h.2]
  show tp (a.fdiv 1) (b.fdiv 1) = tp a b
  rw [Int.fdiv_one, Int.fdiv_one]
end DL

set_option Elab.async false
set_option linter.all false
set_option maxRecDepth 100000
set_option maxHeartbeats 4000000
namespace DL
open PySem PySem.Spec PyProof.Rows L2
theorem frD_is {a b : Int} (b0 : b ≠ 0) : ∃ p q : Int, frD a b = tp p q ∧ Nf p q ∧ p.natAbs ≤ a.natAbs ∧ q.natAbs ≤ b.natAbs := by
  have hg := gcd_pos (a := a) b0
  have hm : (mst a b).natAbs = Nat.gcd a.natAbs b.natAbs := by
    unfold mst
    split <;> omega
  have m0 : mst a b ≠ 0 := by
    intro z
    rw [z] at hm
    simp at hm
    omega
  have da : mst a b ∣ a := Int.natAbs_dvd_natAbs.mp (by rw [hm]; exact Nat.gcd_dvd_left _ _)
  have db : mst a b ∣ b := Int.natAbs_dvd_natAbs.mp (by rw [hm]; exact Nat.gcd_dvd_right _ _)
  obtain ⟨p, ep⟩ := da
  obtain ⟨q, eq⟩ := db
  have e1 : a.fdiv (mst a b) = p := by
    conv => lhs; lhs; rw [ep]
    exact Int.mul_fdiv_cancel_left _ m0
  have e2 : b.fdiv (mst a b) = q := by
    conv => lhs; lhs; rw [eq]
    exact Int.mul_fdiv_cancel_left _ m0
  have na : a.natAbs = Nat.gcd a.natAbs b.natAbs * p.natAbs := by
    have := congrArg Int.natAbs ep
    rw [Int.natAbs_mul, hm] at this
    exact this
  have nb : b.natAbs = Nat.gcd a.natAbs b.natAbs * q.natAbs := by
    have := congrArg Int.natAbs eq
    rw [Int.natAbs_mul, hm] at this
    exact this
  have hgc : Nat.gcd p.natAbs q.natAbs = 1 := by
    have h1 : Nat.gcd a.natAbs b.natAbs = Nat.gcd a.natAbs b.natAbs * Nat.gcd p.natAbs q.natAbs := by
      rw [← Nat.gcd_mul_left, ← na, ← nb]
    exact Nat.eq_of_mul_eq_mul_left hg (by rw [← h1, Nat.mul_one])
  have qp : 0 < q := by
    by_cases hb : 0 < b
    · have hmp : mst a b = (Nat.gcd a.natAbs b.natAbs : Nat) := if_pos hb
      rw [hmp] at eq
      by_cases hq : 0 < q
      · exact hq
      · have := Int.mul_nonneg (a := ((Nat.gcd a.natAbs b.natAbs : Nat) : Int)) (b := -q) (by omega) (by omega)
        rw [Int.mul_neg, ← eq] at this
        omega
    · have hmp : mst a b = 0 - (Nat.gcd a.natAbs b.natAbs : Nat) := if_neg hb
      rw [hmp] at eq
      by_cases hq : 0 < q
      · exact hq
      · have := Int.mul_nonneg (a := ((Nat.gcd a.natAbs b.natAbs : Nat) : Int)) (b := -q) (by omega) (by omega)
        rw [Int.mul_neg, ← Int.neg_mul, ← Int.zero_sub, ← eq] at this
        omega
  refine ⟨p, q, by unfold frD; rw [e1, e2], ⟨qp, hgc⟩, ?_, ?_⟩
  · rw [na]
    exact Nat.le_mul_of_pos_left _ hg
  · rw [nb]
    exact Nat.le_mul_of_pos_left _ hg
end DL

set_option Elab.async false
set_option linter.all false
set_option maxRecDepth 100000
set_option maxHeartbeats 4000000
namespace DL
open PySem PySem.Spec PyProof.Rows L2
/-- a loop by what holds of what is left -/
theorem for_inv {t : GF} {b : SF} {I : List PyData → Rho → Sto → Prop} (step : ∀ d l ρ S, I (d :: l) ρ S → ∃ ρ1 ρ2 S2, t d ρ = some ρ1 ∧ b ρ1 S = .fl (.nx ρ2) S2 ∧ I l ρ2 S2) : ∀ l ρ S, I l ρ S → ∃ ρ' S', forRun t b l ρ S = .fl (.nx ρ') S' ∧ I [] ρ' S'
  | [], ρ, S, h => ⟨ρ, S, rfl, h⟩
  | d :: l, ρ, S, h => by
    obtain ⟨ρ1, ρ2, S2, h1, h2, h3⟩ := step d l ρ S h
    obtain ⟨ρ', S', h4, h5⟩ := for_inv step l ρ2 S2 h3
    refine ⟨ρ', S', ?_, h5⟩
    unfold forRun
    rw [h1]
    dsimp only
    rw [h2]
    exact h4
def frP (a b : Int) : Int × Int := (a.fdiv (mst a b), b.fdiv (mst a b))
theorem frD_frP (a b : Int) : frD a b = tp (frP a b).1 (frP a b).2 := rfl
theorem frP_is {a b : Int} (b0 : b ≠ 0) : Nf (frP a b).1 (frP a b).2 ∧ (frP a b).1.natAbs ≤ a.natAbs ∧ (frP a b).2.natAbs ≤ b.natAbs := by
  obtain ⟨p, q, e, h⟩ := frD_is (a := a) b0
  rw [frD_frP] at e
  injection e with e
  injection e with e1 e
  injection e with e2 e
  injection e1 with e1
  injection e2 with e2
  rw [e1, e2]
  exact h
/-- the sum of fractions, one after the other -/
def sumP : List (Int × Int) → Int × Int → Int × Int
  | [], x => x
  | (c, d) :: l, (a, b) => sumP l (frP (a * d + c * b) (b * d))
theorem total_run {S : Sto} {w0 : Option Wv} : ∀ (l : List (Int × Int)) (a b : Int) (B : Nat) (w2 : Option Wv), 0 < b → a.natAbs ≤ B * 2 ^ 84 → b.natAbs ≤ B → (∀ x ∈ l, 0 < x.2 ∧ x.1.natAbs ≤ 2 ^ 84 ∧ x.2.natAbs ≤ 2 ^ 41) → B * (2 ^ 42) ^ l.length < 2 ^ 200 →
    ∃ w, forRun (gNm 2) (sSet 1 (eCall 2 f_plus (lCons (eVar 1) (lCons (eVar 2) lNil)))) (l.map fun x => tp x.1 x.2) [w0, some (.d (tp a b)), w2] S = .fl (.nx [w0, some (.d (tp (sumP l (a, b)).1 (sumP l (a, b)).2)), w]) S
  | [], a, b, B, w2, _, _, _, _, _ => ⟨w2, rfl⟩
  | (c, d) :: l, a, b, B, w2, b0, ha, hb, hl, hz => by
    obtain ⟨d0, hc, hd⟩ := hl (c, d) (by simp)
    have hz' : B * 2 ^ 42 * (2 ^ 42) ^ l.length < 2 ^ 200 := by
      rw [List.length_cons, Nat.pow_succ, Nat.mul_comm ((2 ^ 42) ^ l.length), ← Nat.mul_assoc] at hz
      exact hz
    have hp : 1 ≤ (2 ^ 42) ^ l.length := Nat.one_le_pow _ _ (by decide)
    have hB : B * 2 ^ 42 < 2 ^ 200 := Nat.lt_of_le_of_lt (Nat.le_mul_of_pos_right _ hp) hz'
    have s1 : B < 2 ^ 200 := Nat.lt_of_le_of_lt (Nat.le_mul_of_pos_right _ (by decide)) hB
    have s2 : (2 : Nat) ^ 41 < 2 ^ 200 := Nat.pow_lt_pow_right (by decide) (by decide)
    have s3 : B * 2 ^ 84 < 2 ^ 400 := Nat.lt_of_lt_of_le (Nat.mul_lt_mul_of_pos_right s1 (by decide)) (by decide)
    have s4 : (2 : Nat) ^ 84 < 2 ^ 400 := Nat.pow_lt_pow_right (by decide) (by decide)
    have hne : b * d ≠ 0 := Int.mul_ne_zero (by omega) (by simp at d0; omega)
    have e := plus_sem (S := S) (a := a) (b := b) (c := c) (d := d) (Nat.lt_of_le_of_lt ha s3) (Nat.lt_of_le_of_lt hb s1) (Nat.lt_of_le_of_lt hc s4) (Nat.lt_of_le_of_lt hd s2) (by omega) (by simp at d0; omega)
    have n1 : (a * d + c * b).natAbs ≤ B * 2 ^ 42 * 2 ^ 84 := by
      refine Nat.le_trans (Int.natAbs_add_le _ _) ?_
      rw [Int.natAbs_mul, Int.natAbs_mul, Nat.mul_comm c.natAbs]
      have x1 : a.natAbs * d.natAbs ≤ B * 2 ^ 84 * 2 ^ 41 := Nat.mul_le_mul ha hd
      have x2 : b.natAbs * c.natAbs ≤ B * 2 ^ 84 := Nat.mul_le_mul hb hc
      refine Nat.le_trans (Nat.add_le_add x1 x2) ?_
      rw [Nat.mul_assoc B, ← Nat.mul_add, Nat.mul_assoc B]
      exact Nat.mul_le_mul_left _ (by decide)
    have n2 : (b * d).natAbs ≤ B * 2 ^ 42 := by
      rw [Int.natAbs_mul]
      have x1 : b.natAbs * d.natAbs ≤ B * 2 ^ 41 := Nat.mul_le_mul hb hd
      exact Nat.le_trans x1 (Nat.mul_le_mul_left _ (by decide))
    obtain ⟨nf, m1, m2⟩ := frP_is (a := a * d + c * b) hne
    obtain ⟨w, ih⟩ := total_run (S := S) (w0 := w0) l (frP (a * d + c * b) (b * d)).1 (frP (a * d + c * b) (b * d)).2 (B * 2 ^ 42) (some (.d (tp c d))) nf.1 (Nat.le_trans m1 n1) (Nat.le_trans m2 n2) (fun x hx => hl x (by simp [hx])) hz'
    refine ⟨w, ?_⟩
    rw [List.map_cons]
    unfold forRun
    simp only [gNm, e, frD_frP, sSeq, sIf, tCmpB, tChB, tTru, tAndB, tOrB, tNotB, eAnd, eOr, eNot, truW, truD, eBin, eCh, eIf, eVar, eC, Rs.bind, op2, bool2, view, List.getElem?_cons_zero, List.getElem?_cons_succ, ixD, at_0, at_1, at_2, at_3, gtD, ltD, leD, geD, decide_true, decide_false, bindS, seqR, sSet, eB, lCons, lNil, opN, views, Option.map, Option.some.injEq, intG, absG, lenG, modD, addD, subD, iaddD, if_true, if_false, reduceIte, call1, call2, lo0, lo1, lo2, lo3, lo4, lo5, List.set, sPut, sAugI, sAug, frzW, eFrz, ownL, ixSet4, sRet, sExpr, eOwn, eFz, mLst, dats, sNil, sRetN, eqD_int, neD_int, oSom, oNon, eSl, slD, Bool.false_eq_true, Bool.not_true, Bool.not_false, eTup, sPar, eCall, List.length_cons, List.length_nil, sAsg]
    exact ih
end DL

set_option Elab.async false
set_option linter.all false
set_option maxRecDepth 100000
set_option maxHeartbeats 4000000
namespace DL
open PySem PySem.Spec PyProof.Rows L2
theorem zero_tp : k_ZERO = tp 0 1 := rfl
theorem total_sem {S : Sto} {l : List (Int × Int)} {arg : PyData} (hs : seqD arg = some (l.map fun x => tp x.1 x.2)) (hl : ∀ x ∈ l, 0 < x.2 ∧ x.1.natAbs ≤ 2 ^ 84 ∧ x.2.natAbs ≤ 2 ^ 41) (hz : l.length ≤ 4) : f_total [.d arg] S = .ok (.d (tp (sumP l (0, 1)).1 (sumP l (0, 1)).2)) S := by
  have hp : 1 * (2 ^ 42) ^ l.length < 2 ^ 200 := by
    rw [Nat.one_mul]
    exact Nat.lt_of_le_of_lt (Nat.pow_le_pow_right (by decide) hz) (by decide)
  obtain ⟨w, e⟩ := total_run (S := S) (w0 := some (.d arg)) l 0 1 1 none (by decide) (by decide) (by decide) hl hp
  refine run_ret0 (ws := [.d arg]) (nn := 3) (ar := 1) ?_
  show b_total [some (.d arg), none, none] S = _
  simp only [b_total, zero_tp, sFor, iVal, hs, e, sSeq, sIf, tCmpB, tChB, tTru, tAndB, tOrB, tNotB, eAnd, eOr, eNot, truW, truD, eBin, eCh, eIf, eVar, eC, Rs.bind, op2, bool2, view, List.getElem?_cons_zero, List.getElem?_cons_succ, ixD, at_0, at_1, at_2, at_3, gtD, ltD, leD, geD, decide_true, decide_false, bindS, seqR, sSet, eB, lCons, lNil, opN, views, Option.map, Option.some.injEq, intG, absG, lenG, modD, addD, subD, iaddD, if_true, if_false, reduceIte, call1, call2, lo0, lo1, lo2, lo3, lo4, lo5, List.set, sPut, sAugI, sAug, frzW, eFrz, ownL, ixSet4, sRet, sExpr, eOwn, eFz, mLst, dats, sNil, sRetN, eqD_int, neD_int, oSom, oNon, eSl, slD, Bool.false_eq_true, Bool.not_true, Bool.not_false, eTup, sPar, eCall, List.length_cons, List.length_nil, sAsg]
end DL

set_option Elab.async false
set_option linter.all false
set_option maxRecDepth 100000
set_option maxHeartbeats 4000000
namespace DL
open PySem PySem.Spec PyProof.Rows L2
/-- weighed: what the law's own sum goes through -/
def wgP (x : Int × Int × Int) : Int × Int := frP (x.1 * x.2.1) x.2.2
theorem lweighed_run {S : Sto} {w0 w1 : Option Wv} : ∀ (l : List (Int × Int × Int)) (a b : Int) (B : Nat) (w3 w4 : Option Wv), 0 < b → a.natAbs ≤ B * 2 ^ 84 → b.natAbs ≤ B → (∀ x ∈ l, 0 < x.2.2 ∧ x.1.natAbs ≤ 2 ^ 41 ∧ x.2.1.natAbs ≤ 2 ^ 41 ∧ x.2.2.natAbs ≤ 2 ^ 41) → B * (2 ^ 42) ^ l.length < 2 ^ 200 →
    ∃ w w', forRun (gTp 2 (gsCons (gNm 3) (gsCons (gNm 4) gsNil))) (sSet 2 (eCall 2 f__law_fraction_plus (lCons (eVar 2) (lCons (eCall 2 f__law_fraction (lCons (eBin mulD (eVar 3) (eBin ixD (eVar 4) (eC (.int 0)))) (lCons (eBin ixD (eVar 4) (eC (.int 1))) lNil))) lNil)))) (l.map fun x => .tuple [.int x.1, tp x.2.1 x.2.2]) [w0, w1, some (.d (tp a b)), w3, w4] S
      = .fl (.nx [w0, w1, some (.d (tp (sumP (l.map wgP) (a, b)).1 (sumP (l.map wgP) (a, b)).2)), w, w']) S
  | [], a, b, B, w3, w4, _, _, _, _, _ => ⟨w3, w4, rfl⟩
  | (n, c, d) :: l, a, b, B, w3, w4, b0, ha, hb, hl, hz => by
    obtain ⟨d0, hn, hc, hd⟩ := hl (n, c, d) (by simp)
    have d0 : 0 < d := d0
    have hn : n.natAbs ≤ 2 ^ 41 := hn
    have hc : c.natAbs ≤ 2 ^ 41 := hc
    have hd : d.natAbs ≤ 2 ^ 41 := hd
    have hz' : B * 2 ^ 42 * (2 ^ 42) ^ l.length < 2 ^ 200 := by
      rw [List.length_cons, Nat.pow_succ, Nat.mul_comm ((2 ^ 42) ^ l.length), ← Nat.mul_assoc] at hz
      exact hz
    have hp : 1 ≤ (2 ^ 42) ^ l.length := Nat.one_le_pow _ _ (by decide)
    have hB : B * 2 ^ 42 < 2 ^ 200 := Nat.lt_of_le_of_lt (Nat.le_mul_of_pos_right _ hp) hz'
    have s1 : B < 2 ^ 200 := Nat.lt_of_le_of_lt (Nat.le_mul_of_pos_right _ (by decide)) hB
    have s2 : (2 : Nat) ^ 41 < 2 ^ 200 := Nat.pow_lt_pow_right (by decide) (by decide)
    have s3 : B * 2 ^ 84 < 2 ^ 400 := Nat.lt_of_lt_of_le (Nat.mul_lt_mul_of_pos_right s1 (by decide)) (by decide)
    have s4 : (2 : Nat) ^ 84 < 2 ^ 400 := Nat.pow_lt_pow_right (by decide) (by decide)
    have hnc : (n * c).natAbs ≤ 2 ^ 84 := by
      rw [Int.natAbs_mul]
      exact Nat.le_trans (Nat.mul_le_mul hn hc) (by decide)
    have mo : mulOk n c = true := mulOk_200 (Nat.lt_of_le_of_lt hn s2) (Nat.lt_of_le_of_lt hc s2)
    have e0 := lfraction_sem (S := S) (a := n * c) (b := d) (by omega) (up_small (Nat.lt_of_le_of_lt hd s2))
    obtain ⟨nf0, k1, k2⟩ := frP_is (a := n * c) (b := d) (by omega)
    have k1' := Nat.le_trans k1 hnc
    have k2' := Nat.le_trans k2 hd
    generalize hpq : frP (n * c) d = pq at *
    obtain ⟨p, q⟩ := pq
    have q0 : 0 < q := nf0.1
    have k1' : p.natAbs ≤ 2 ^ 84 := k1'
    have k2' : q.natAbs ≤ 2 ^ 41 := k2'
    have hne : b * q ≠ 0 := Int.mul_ne_zero (by omega) (by omega)
    have e := lplus_sem (S := S) (a := a) (b := b) (c := p) (d := q) (Nat.lt_of_le_of_lt ha s3) (Nat.lt_of_le_of_lt hb s1) (Nat.lt_of_le_of_lt k1' s4) (Nat.lt_of_le_of_lt k2' s2) (by omega) (by omega)
    have n1 : (a * q + p * b).natAbs ≤ B * 2 ^ 42 * 2 ^ 84 := by
      refine Nat.le_trans (Int.natAbs_add_le _ _) ?_
      rw [Int.natAbs_mul, Int.natAbs_mul, Nat.mul_comm p.natAbs]
      have x1 : a.natAbs * q.natAbs ≤ B * 2 ^ 84 * 2 ^ 41 := Nat.mul_le_mul ha k2'
      have x2 : b.natAbs * p.natAbs ≤ B * 2 ^ 84 := Nat.mul_le_mul hb k1'
      refine Nat.le_trans (Nat.add_le_add x1 x2) ?_
      rw [Nat.mul_assoc B, ← Nat.mul_add, Nat.mul_assoc B]
      exact Nat.mul_le_mul_left _ (by decide)
    have n2 : (b * q).natAbs ≤ B * 2 ^ 42 := by
      rw [Int.natAbs_mul]
      have x1 : b.natAbs * q.natAbs ≤ B * 2 ^ 41 := Nat.mul_le_mul hb k2'
      exact Nat.le_trans x1 (Nat.mul_le_mul_left _ (by decide))
    obtain ⟨nf, m1, m2⟩ := frP_is (a := a * q + p * b) hne
    obtain ⟨w, w', ih⟩ := lweighed_run (S := S) (w0 := w0) (w1 := w1) l (frP (a * q + p * b) (b * q)).1 (frP (a * q + p * b) (b * q)).2 (B * 2 ^ 42) (some (.d (.int n))) (some (.d (tp c d))) nf.1 (Nat.le_trans m1 n1) (Nat.le_trans m2 n2) (fun x hx => hl x (by simp [hx])) hz'
    refine ⟨w, w', ?_⟩
    rw [List.map_cons, List.map_cons]
    have hw : wgP (n, c, d) = (p, q) := hpq
    rw [hw]
    unfold forRun
    simp only [gTp, gsCons, gsNil, gNm, at2_0, at2_1, mulD, mo, e0, frD_frP, hpq, e, sSeq, sIf, tCmpB, tChB, tTru, tAndB, tOrB, tNotB, eAnd, eOr, eNot, truW, truD, eBin, eCh, eIf, eVar, eC, Rs.bind, op2, bool2, view, List.getElem?_cons_zero, List.getElem?_cons_succ, ixD, at_0, at_1, at_2, at_3, gtD, ltD, leD, geD, decide_true, decide_false, bindS, seqR, sSet, eB, lCons, lNil, opN, views, Option.map, Option.some.injEq, intG, absG, lenG, modD, addD, subD, iaddD, if_true, if_false, reduceIte, call1, call2, lo0, lo1, lo2, lo3, lo4, lo5, List.set, sPut, sAugI, sAug, frzW, eFrz, ownL, ixSet4, sRet, sExpr, eOwn, eFz, mLst, dats, sNil, sRetN, eqD_int, neD_int, oSom, oNon, eSl, slD, Bool.false_eq_true, Bool.not_true, Bool.not_false, eTup, sPar, eCall, List.length_cons, List.length_nil, sAsg]
    exact ih
end DL

set_option Elab.async false
set_option linter.all false
set_option maxRecDepth 100000
set_option maxHeartbeats 4000000
namespace DL
open PySem PySem.Spec PyProof.Rows L2
theorem lweighed_sem {S : Sto} {l : List (Int × Int × Int)} {x y : PyData} {xs ys : List PyData} {b1 b2 : Bool} (hx : kindB x = some (b1, xs)) (hy : kindB y = some (b2, ys)) (hz : zipD xs ys = l.map fun x => .tuple [.int x.1, tp x.2.1 x.2.2]) (hl : ∀ x ∈ l, 0 < x.2.2 ∧ x.1.natAbs ≤ 2 ^ 41 ∧ x.2.1.natAbs ≤ 2 ^ 41 ∧ x.2.2.natAbs ≤ 2 ^ 41) (h4 : l.length ≤ 4) :
    f__law_weighed [.d x, .d y] S = .ok (.d (tp (sumP (l.map wgP) (0, 1)).1 (sumP (l.map wgP) (0, 1)).2)) S := by
  have hp : 1 * (2 ^ 42) ^ l.length < 2 ^ 200 := by
    rw [Nat.one_mul]
    exact Nat.lt_of_le_of_lt (Nat.pow_le_pow_right (by decide) h4) (by decide)
  obtain ⟨w, w', e⟩ := lweighed_run (S := S) (w0 := some (.d x)) (w1 := some (.d y)) l 0 1 1 none none (by decide) (by decide) (by decide) hl hp
  refine run_ret0 (ws := [.d x, .d y]) (nn := 5) (ar := 2) ?_
  show b__law_weighed [some (.d x), some (.d y), none, none, none] S = _
  simp only [b__law_weighed, sFor, iZip, dats, hx, hy, hz, e, lit2, sSeq, sIf, tCmpB, tChB, tTru, tAndB, tOrB, tNotB, eAnd, eOr, eNot, truW, truD, eBin, eCh, eIf, eVar, eC, Rs.bind, op2, bool2, view, List.getElem?_cons_zero, List.getElem?_cons_succ, ixD, at_0, at_1, at_2, at_3, gtD, ltD, leD, geD, decide_true, decide_false, bindS, seqR, sSet, eB, lCons, lNil, opN, views, Option.map, Option.some.injEq, intG, absG, lenG, modD, addD, subD, iaddD, if_true, if_false, reduceIte, call1, call2, lo0, lo1, lo2, lo3, lo4, lo5, List.set, sPut, sAugI, sAug, frzW, eFrz, ownL, ixSet4, sRet, sExpr, eOwn, eFz, mLst, dats, sNil, sRetN, eqD_int, neD_int, oSom, oNon, eSl, slD, Bool.false_eq_true, Bool.not_true, Bool.not_false, eTup, sPar, eCall, List.length_cons, List.length_nil, sAsg]
end DL

set_option Elab.async false
set_option linter.all false
set_option maxRecDepth 100000
set_option maxHeartbeats 4000000
namespace DL
open PySem PySem.Spec PyProof.Rows L2
/-- an int or a truth: is_integer -/
def isI : PyData → Bool
  | .int _ => true
  | _ => false
theorem isint_sem {S : Sto} {x : PyData} : f_is_integer [.d x] S = .ok (.d (.bool (isI x))) S := by
  refine run_ret0 (ws := [.d x]) (nn := 1) (ar := 1) ?_
  show b_is_integer [some (.d x)] S = _
  cases x <;> rfl
theorem lisint_sem {S : Sto} {x : PyData} : f__law_is_int [.d x] S = .ok (.d (.bool (isI x))) S := by
  refine run_ret0 (ws := [.d x]) (nn := 1) (ar := 1) ?_
  show b__law_is_int [some (.d x)] S = _
  cases x <;> rfl
end DL

set_option Elab.async false
set_option linter.all false
set_option maxRecDepth 100000
set_option maxHeartbeats 4000000
namespace DL
open PySem PySem.Spec PyProof.Rows L2
/-- is it a fraction: two ints -/
theorem lisfrac_int {S : Sto} {a b : Int} (hb : b.natAbs < 2 ^ 400) : f__law_is_fraction [.d (tp a b)] S = .ok (.d (.bool (decide (1 ≤ b) && ((Nat.gcd a.natAbs b.natAbs : Nat) : Int) == 1))) S := by
  refine run_ret0 (ws := [.d (tp a b)]) (nn := 1) (ar := 1) ?_
  show b__law_is_fraction [some (.d (tp a b))] S = _
  have hl : lenG [tp a b] = some (.int 2) := rfl
  have h2 : (((0 + 1 + 1 : Nat) : Int) == 2) = true := rfl
  have i1 : isI (.int a) = true := rfl
  have i2 : isI (.int b) = true := rfl
  have t1 : subT (tyD (tp a b)) "tuple" = true := by rfl
  by_cases h : b < 1
  · have h' : decide (1 ≤ b) = false := decide_eq_false (by omega)
    simp only [b__law_is_fraction, eIsi, isiW, List.any_cons, List.any_nil, t1, Bool.or_false, Bool.true_or, h2, lisint_sem, i1, i2, at2_0, at2_1, h, h', Bool.false_and, sSeq, sIf, tCmpB, tChB, tTru, tAndB, tOrB, tNotB, eAnd, eOr, eNot, truW, truD, eBin, eCh, eIf, eVar, eC, Rs.bind, op2, bool2, view, List.getElem?_cons_zero, List.getElem?_cons_succ, ixD, at_0, at_1, at_2, at_3, gtD, ltD, leD, geD, decide_true, decide_false, bindS, seqR, sSet, eB, lCons, lNil, opN, views, Option.map, Option.some.injEq, intG, absG, lenG, modD, addD, subD, iaddD, if_true, if_false, reduceIte, call1, call2, lo0, lo1, lo2, lo3, lo4, lo5, List.set, sPut, sAugI, sAug, frzW, eFrz, ownL, ixSet4, sRet, sExpr, eOwn, eFz, mLst, dats, sNil, sRetN, eqD_int, neD_int, oSom, oNon, eSl, slD, Bool.false_eq_true, Bool.not_true, Bool.not_false, eTup, sPar, eCall, List.length_cons, List.length_nil, sAsg]
  · have h' : decide (1 ≤ b) = true := decide_eq_true (by omega)
    have hd := common_sem (a := (a.natAbs : Nat)) (b := b) (S := S) (by omega) (by omega) hb
    rw [Int.natAbs_natCast] at hd
    simp only [b__law_is_fraction, eIsi, isiW, List.any_cons, List.any_nil, t1, Bool.or_false, Bool.true_or, h2, lisint_sem, i1, i2, at2_0, at2_1, h, h', hd, Bool.true_and, sSeq, sIf, tCmpB, tChB, tTru, tAndB, tOrB, tNotB, eAnd, eOr, eNot, truW, truD, eBin, eCh, eIf, eVar, eC, Rs.bind, op2, bool2, view, List.getElem?_cons_zero, List.getElem?_cons_succ, ixD, at_0, at_1, at_2, at_3, gtD, ltD, leD, geD, decide_true, decide_false, bindS, seqR, sSet, eB, lCons, lNil, opN, views, Option.map, Option.some.injEq, intG, absG, lenG, modD, addD, subD, iaddD, if_true, if_false, reduceIte, call1, call2, lo0, lo1, lo2, lo3, lo4, lo5, List.set, sPut, sAugI, sAug, frzW, eFrz, ownL, ixSet4, sRet, sExpr, eOwn, eFz, mLst, dats, sNil, sRetN, eqD_int, neD_int, oSom, oNon, eSl, slD, Bool.false_eq_true, Bool.not_true, Bool.not_false, eTup, sPar, eCall, List.length_cons, List.length_nil, sAsg]
end DL

set_option Elab.async false
set_option linter.all false
set_option maxRecDepth 100000
set_option maxHeartbeats 4000000
namespace DL
open PySem PySem.Spec PyProof.Rows L2
theorem isfrac_int {S : Sto} {a b : Int} (hb : b.natAbs < 2 ^ 400) : f_is_fraction [.d (tp a b)] S = .ok (.d (.bool (decide (0 < b) && ((Nat.gcd a.natAbs b.natAbs : Nat) : Int) == 1))) S := by
  refine run_ret0 (ws := [.d (tp a b)]) (nn := 2) (ar := 1) ?_
  show b_is_fraction [some (.d (tp a b)), none] S = _
  have h2 : (((0 + 1 + 1 : Nat) : Int) == 2) = true := rfl
  have i1 : isI (.int a) = true := rfl
  have i2 : isI (.int b) = true := rfl
  have t1 : subT (tyD (tp a b)) "tuple" = true := by rfl
  have hl : lcRun (gNm 1) bYes (eCall 1 f_is_integer (lCons (eVar 1) lNil)) [some (.d (tp a b)), none] [.int a, .int b] [] S = .ok [.bool true, .bool true] S := by
    simp only [lcRun, gNm, bYes, isint_sem, i1, i2, sSeq, sIf, tCmpB, tChB, tTru, tAndB, tOrB, tNotB, eAnd, eOr, eNot, truW, truD, eBin, eCh, eIf, eVar, eC, Rs.bind, op2, bool2, view, List.getElem?_cons_zero, List.getElem?_cons_succ, ixD, at_0, at_1, at_2, at_3, gtD, ltD, leD, geD, decide_true, decide_false, bindS, seqR, sSet, eB, lCons, lNil, opN, views, Option.map, Option.some.injEq, intG, absG, lenG, modD, addD, subD, iaddD, if_true, if_false, reduceIte, call1, call2, lo0, lo1, lo2, lo3, lo4, lo5, List.set, sPut, sAugI, sAug, frzW, eFrz, ownL, ixSet4, sRet, sExpr, eOwn, eFz, mLst, dats, sNil, sRetN, eqD_int, neD_int, oSom, oNon, eSl, slD, Bool.false_eq_true, Bool.not_true, Bool.not_false, eTup, sPar, eCall, List.length_cons, List.length_nil, sAsg]
    rfl
  have ha : allG [.list [.bool true, .bool true]] = some (.bool true) := rfl
  have hd := divisor_sem (a := a) (b := b) (S := S) hb
  by_cases h : 0 < b
  · simp only [b_is_fraction, eIsi, isiW, List.any_cons, List.any_nil, t1, Bool.or_false, Bool.true_or, h2, mLc, iVal, seqD, wipeR, hl, ha, at2_0, at2_1, h, hd, Bool.true_and, sSeq, sIf, tCmpB, tChB, tTru, tAndB, tOrB, tNotB, eAnd, eOr, eNot, truW, truD, eBin, eCh, eIf, eVar, eC, Rs.bind, op2, bool2, view, List.getElem?_cons_zero, List.getElem?_cons_succ, ixD, at_0, at_1, at_2, at_3, gtD, ltD, leD, geD, decide_true, decide_false, bindS, seqR, sSet, eB, lCons, lNil, opN, views, Option.map, Option.some.injEq, intG, absG, lenG, modD, addD, subD, iaddD, if_true, if_false, reduceIte, call1, call2, lo0, lo1, lo2, lo3, lo4, lo5, List.set, sPut, sAugI, sAug, frzW, eFrz, ownL, ixSet4, sRet, sExpr, eOwn, eFz, mLst, dats, sNil, sRetN, eqD_int, neD_int, oSom, oNon, eSl, slD, Bool.false_eq_true, Bool.not_true, Bool.not_false, eTup, sPar, eCall, List.length_cons, List.length_nil, sAsg]
  · simp only [b_is_fraction, eIsi, isiW, List.any_cons, List.any_nil, t1, Bool.or_false, Bool.true_or, h2, mLc, iVal, seqD, wipeR, hl, ha, at2_0, at2_1, h, hd, Bool.false_and, sSeq, sIf, tCmpB, tChB, tTru, tAndB, tOrB, tNotB, eAnd, eOr, eNot, truW, truD, eBin, eCh, eIf, eVar, eC, Rs.bind, op2, bool2, view, List.getElem?_cons_zero, List.getElem?_cons_succ, ixD, at_0, at_1, at_2, at_3, gtD, ltD, leD, geD, decide_true, decide_false, bindS, seqR, sSet, eB, lCons, lNil, opN, views, Option.map, Option.some.injEq, intG, absG, lenG, modD, addD, subD, iaddD, if_true, if_false, reduceIte, call1, call2, lo0, lo1, lo2, lo3, lo4, lo5, List.set, sPut, sAugI, sAug, frzW, eFrz, ownL, ixSet4, sRet, sExpr, eOwn, eFz, mLst, dats, sNil, sRetN, eqD_int, neD_int, oSom, oNon, eSl, slD, Bool.false_eq_true, Bool.not_true, Bool.not_false, eTup, sPar, eCall, List.length_cons, List.length_nil, sAsg]
end DL

set_option Elab.async false
set_option linter.all false
set_option maxRecDepth 100000
set_option maxHeartbeats 4000000
namespace DL
open PySem PySem.Spec PyProof.Rows L2
/-- both answer False where the thing is no tuple of two ints -/
theorem nofrac_kind {S : Sto} {x : PyData} (h : subT (tyD x) "tuple" = false) : f_is_fraction [.d x] S = .ok (.d (.bool false)) S ∧ f__law_is_fraction [.d x] S = .ok (.d (.bool false)) S := by
  constructor
  · refine run_ret0 (ws := [.d x]) (nn := 2) (ar := 1) ?_
    show b_is_fraction [some (.d x), none] S = _
    simp only [b_is_fraction, eIsi, isiW, List.any_cons, List.any_nil, h, Bool.or_false, sSeq, sIf, tCmpB, tChB, tTru, tAndB, tOrB, tNotB, eAnd, eOr, eNot, truW, truD, eBin, eCh, eIf, eVar, eC, Rs.bind, op2, bool2, view, List.getElem?_cons_zero, List.getElem?_cons_succ, ixD, at_0, at_1, at_2, at_3, gtD, ltD, leD, geD, decide_true, decide_false, bindS, seqR, sSet, eB, lCons, lNil, opN, views, Option.map, Option.some.injEq, intG, absG, lenG, modD, addD, subD, iaddD, if_true, if_false, reduceIte, call1, call2, lo0, lo1, lo2, lo3, lo4, lo5, List.set, sPut, sAugI, sAug, frzW, eFrz, ownL, ixSet4, sRet, sExpr, eOwn, eFz, mLst, dats, sNil, sRetN, eqD_int, neD_int, oSom, oNon, eSl, slD, Bool.false_eq_true, Bool.not_true, Bool.not_false, eTup, sPar, eCall, List.length_cons, List.length_nil, sAsg]
  · refine run_ret0 (ws := [.d x]) (nn := 1) (ar := 1) ?_
    show b__law_is_fraction [some (.d x)] S = _
    simp only [b__law_is_fraction, eIsi, isiW, List.any_cons, List.any_nil, h, Bool.or_false, sSeq, sIf, tCmpB, tChB, tTru, tAndB, tOrB, tNotB, eAnd, eOr, eNot, truW, truD, eBin, eCh, eIf, eVar, eC, Rs.bind, op2, bool2, view, List.getElem?_cons_zero, List.getElem?_cons_succ, ixD, at_0, at_1, at_2, at_3, gtD, ltD, leD, geD, decide_true, decide_false, bindS, seqR, sSet, eB, lCons, lNil, opN, views, Option.map, Option.some.injEq, intG, absG, lenG, modD, addD, subD, iaddD, if_true, if_false, reduceIte, call1, call2, lo0, lo1, lo2, lo3, lo4, lo5, List.set, sPut, sAugI, sAug, frzW, eFrz, ownL, ixSet4, sRet, sExpr, eOwn, eFz, mLst, dats, sNil, sRetN, eqD_int, neD_int, oSom, oNon, eSl, slD, Bool.false_eq_true, Bool.not_true, Bool.not_false, eTup, sPar, eCall, List.length_cons, List.length_nil, sAsg]
end DL

set_option Elab.async false
set_option linter.all false
set_option maxRecDepth 100000
set_option maxHeartbeats 4000000
namespace DL
open PySem PySem.Spec PyProof.Rows L2
/-- both answer alike of a thing -/
def Gd (x : PyData) : Prop := ∀ S : Sto, ∃ b : Bool, f_is_fraction [.d x] S = .ok (.d (.bool b)) S ∧ f__law_is_fraction [.d x] S = .ok (.d (.bool b)) S
theorem gd_kind {x : PyData} (h : subT (tyD x) "tuple" = false) : Gd x := fun S => ⟨false, nofrac_kind h⟩
theorem gd_int {a b : Int} (hb : b.natAbs < 2 ^ 400) : Gd (tp a b) := fun S => ⟨_, isfrac_int hb, by
  rw [lisfrac_int hb]
  have : decide (0 < b) = decide (1 ≤ b) := by
    by_cases h : 0 < b
    · rw [decide_eq_true h, decide_eq_true (by omega)]
    · rw [decide_eq_false h, decide_eq_false (by omega)]
  rw [this]⟩
theorem gd_len {l : List PyData} (h : l.length ≠ 2) : Gd (.tuple l) := fun S => by
  have t1 : subT (tyD (PyData.tuple l)) "tuple" = true := rfl
  have h2 : (((l.length : Nat) : Int) == 2) = false := by
    have : ((l.length : Nat) : Int) ≠ 2 := by omega
    simpa using this
  have h3 : lenG [PyData.tuple l] = some (.int (l.length : Nat)) := rfl
  refine ⟨false, ?_, ?_⟩
  · refine run_ret0 (ws := [.d (.tuple l)]) (nn := 2) (ar := 1) ?_
    show b_is_fraction [some (.d (.tuple l)), none] S = _
    simp only [b_is_fraction, eIsi, isiW, List.any_cons, List.any_nil, t1, h3, h2, Bool.or_false, Bool.true_or, sSeq, sIf, tCmpB, tChB, tTru, tAndB, tOrB, tNotB, eAnd, eOr, eNot, truW, truD, eBin, eCh, eIf, eVar, eC, Rs.bind, op2, bool2, view, List.getElem?_cons_zero, List.getElem?_cons_succ, ixD, at_0, at_1, at_2, at_3, gtD, ltD, leD, geD, decide_true, decide_false, bindS, seqR, sSet, eB, lCons, lNil, opN, views, Option.map, Option.some.injEq, intG, absG, lenG, modD, addD, subD, iaddD, if_true, if_false, reduceIte, call1, call2, lo0, lo1, lo2, lo3, lo4, lo5, List.set, sPut, sAugI, sAug, frzW, eFrz, ownL, ixSet4, sRet, sExpr, eOwn, eFz, mLst, dats, sNil, sRetN, eqD_int, neD_int, oSom, oNon, eSl, slD, Bool.false_eq_true, Bool.not_true, Bool.not_false, eTup, sPar, eCall, List.length_cons, List.length_nil, sAsg]
  · refine run_ret0 (ws := [.d (.tuple l)]) (nn := 1) (ar := 1) ?_
    show b__law_is_fraction [some (.d (.tuple l))] S = _
    simp only [b__law_is_fraction, eIsi, isiW, List.any_cons, List.any_nil, t1, h3, h2, Bool.or_false, Bool.true_or, sSeq, sIf, tCmpB, tChB, tTru, tAndB, tOrB, tNotB, eAnd, eOr, eNot, truW, truD, eBin, eCh, eIf, eVar, eC, Rs.bind, op2, bool2, view, List.getElem?_cons_zero, List.getElem?_cons_succ, ixD, at_0, at_1, at_2, at_3, gtD, ltD, leD, geD, decide_true, decide_false, bindS, seqR, sSet, eB, lCons, lNil, opN, views, Option.map, Option.some.injEq, intG, absG, lenG, modD, addD, subD, iaddD, if_true, if_false, reduceIte, call1, call2, lo0, lo1, lo2, lo3, lo4, lo5, List.set, sPut, sAugI, sAug, frzW, eFrz, ownL, ixSet4, sRet, sExpr, eOwn, eFz, mLst, dats, sNil, sRetN, eqD_int, neD_int, oSom, oNon, eSl, slD, Bool.false_eq_true, Bool.not_true, Bool.not_false, eTup, sPar, eCall, List.length_cons, List.length_nil, sAsg]
theorem gd_first {x y : PyData} (h : isI x = false) : Gd (.tuple [x, y]) := fun S => by
  have t1 : subT (tyD (PyData.tuple [x, y])) "tuple" = true := rfl
  have h2 : (((0 + 1 + 1 : Nat) : Int) == 2) = true := rfl
  have h3 : lenG [PyData.tuple [x, y]] = some (.int (0 + 1 + 1 : Nat)) := rfl
  have hl : lcRun (gNm 1) bYes (eCall 1 f_is_integer (lCons (eVar 1) lNil)) [some (.d (.tuple [x, y])), none] [x, y] [] S = .ok [.bool false, .bool (isI y)] S := by
    simp only [lcRun, gNm, bYes, isint_sem, h, sSeq, sIf, tCmpB, tChB, tTru, tAndB, tOrB, tNotB, eAnd, eOr, eNot, truW, truD, eBin, eCh, eIf, eVar, eC, Rs.bind, op2, bool2, view, List.getElem?_cons_zero, List.getElem?_cons_succ, ixD, at_0, at_1, at_2, at_3, gtD, ltD, leD, geD, decide_true, decide_false, bindS, seqR, sSet, eB, lCons, lNil, opN, views, Option.map, Option.some.injEq, intG, absG, lenG, modD, addD, subD, iaddD, if_true, if_false, reduceIte, call1, call2, lo0, lo1, lo2, lo3, lo4, lo5, List.set, sPut, sAugI, sAug, frzW, eFrz, ownL, ixSet4, sRet, sExpr, eOwn, eFz, mLst, dats, sNil, sRetN, eqD_int, neD_int, oSom, oNon, eSl, slD, Bool.false_eq_true, Bool.not_true, Bool.not_false, eTup, sPar, eCall, List.length_cons, List.length_nil, sAsg]
    rfl
  have ha : allG [.list [.bool false, .bool (isI y)]] = some (.bool false) := rfl
  refine ⟨false, ?_, ?_⟩
  · refine run_ret0 (ws := [.d (.tuple [x, y])]) (nn := 2) (ar := 1) ?_
    show b_is_fraction [some (.d (.tuple [x, y])), none] S = _
    simp only [b_is_fraction, eIsi, isiW, List.any_cons, List.any_nil, t1, h3, h2, mLc, iVal, seqD, wipeR, hl, ha, Bool.or_false, Bool.true_or, sSeq, sIf, tCmpB, tChB, tTru, tAndB, tOrB, tNotB, eAnd, eOr, eNot, truW, truD, eBin, eCh, eIf, eVar, eC, Rs.bind, op2, bool2, view, List.getElem?_cons_zero, List.getElem?_cons_succ, ixD, at_0, at_1, at_2, at_3, gtD, ltD, leD, geD, decide_true, decide_false, bindS, seqR, sSet, eB, lCons, lNil, opN, views, Option.map, Option.some.injEq, intG, absG, lenG, modD, addD, subD, iaddD, if_true, if_false, reduceIte, call1, call2, lo0, lo1, lo2, lo3, lo4, lo5, List.set, sPut, sAugI, sAug, frzW, eFrz, ownL, ixSet4, sRet, sExpr, eOwn, eFz, mLst, dats, sNil, sRetN, eqD_int, neD_int, oSom, oNon, eSl, slD, Bool.false_eq_true, Bool.not_true, Bool.not_false, eTup, sPar, eCall, List.length_cons, List.length_nil, sAsg]
  · refine run_ret0 (ws := [.d (.tuple [x, y])]) (nn := 1) (ar := 1) ?_
    show b__law_is_fraction [some (.d (.tuple [x, y]))] S = _
    simp only [b__law_is_fraction, eIsi, isiW, List.any_cons, List.any_nil, t1, h3, h2, at2_0, lisint_sem, h, Bool.or_false, Bool.true_or, sSeq, sIf, tCmpB, tChB, tTru, tAndB, tOrB, tNotB, eAnd, eOr, eNot, truW, truD, eBin, eCh, eIf, eVar, eC, Rs.bind, op2, bool2, view, List.getElem?_cons_zero, List.getElem?_cons_succ, ixD, at_0, at_1, at_2, at_3, gtD, ltD, leD, geD, decide_true, decide_false, bindS, seqR, sSet, eB, lCons, lNil, opN, views, Option.map, Option.some.injEq, intG, absG, lenG, modD, addD, subD, iaddD, if_true, if_false, reduceIte, call1, call2, lo0, lo1, lo2, lo3, lo4, lo5, List.set, sPut, sAugI, sAug, frzW, eFrz, ownL, ixSet4, sRet, sExpr, eOwn, eFz, mLst, dats, sNil, sRetN, eqD_int, neD_int, oSom, oNon, eSl, slD, Bool.false_eq_true, Bool.not_true, Bool.not_false, eTup, sPar, eCall, List.length_cons, List.length_nil, sAsg]
/-- the odd things -/
def odds : List PyData := [.none, .bool true, .int 7, .str (PySem.Str.ofString "least"), .tuple [], .tuple [.tuple []], .list [], .dict [], .tuple [.str (PySem.Str.ofString "a"), .int 1], tp 0 0, .int (10 ^ 25), tp 1 (-1), tp 2 4]
theorem odds_gd : ∀ x ∈ odds, Gd x := fun x hx => by
  unfold odds at hx
  simp only [List.mem_cons, List.not_mem_nil, or_false] at hx
  rcases hx with e | e | e | e | e | e | e | e | e | e | e | e | e <;> subst e
  · exact gd_kind rfl
  · exact gd_kind rfl
  · exact gd_kind rfl
  · exact gd_kind rfl
  · exact gd_len (by simp)
  · exact gd_len (by simp)
  · exact gd_kind rfl
  · exact gd_kind rfl
  · exact gd_first rfl
  · exact gd_int (by decide)
  · exact gd_kind rfl
  · exact gd_int (by decide)
  · exact gd_int (by decide)
theorem li0 : litOk (0) = true := by decide
theorem li1 : litOk (0 + 1) = true := by decide
theorem li2 : litOk (0 + 1 + 1) = true := by decide
theorem li3 : litOk (0 + 1 + 1 + 1) = true := by decide
theorem li4 : litOk (0 + 1 + 1 + 1 + 1) = true := by decide
theorem li5 : litOk (0 + 1 + 1 + 1 + 1 + 1) = true := by decide
theorem li6 : litOk (0 + 1 + 1 + 1 + 1 + 1 + 1) = true := by decide
theorem li7 : litOk (0 + 1 + 1 + 1 + 1 + 1 + 1 + 1) = true := by decide
theorem li8 : litOk (0 + 1 + 1 + 1 + 1 + 1 + 1 + 1 + 1) = true := by decide
theorem li9 : litOk (0 + 1 + 1 + 1 + 1 + 1 + 1 + 1 + 1 + 1) = true := by decide
theorem li10 : litOk (0 + 1 + 1 + 1 + 1 + 1 + 1 + 1 + 1 + 1 + 1) = true := by decide
theorem li11 : litOk (0 + 1 + 1 + 1 + 1 + 1 + 1 + 1 + 1 + 1 + 1 + 1) = true := by decide
theorem li12 : litOk (0 + 1 + 1 + 1 + 1 + 1 + 1 + 1 + 1 + 1 + 1 + 1 + 1) = true := by decide
theorem li13 : litOk (0 + 1 + 1 + 1 + 1 + 1 + 1 + 1 + 1 + 1 + 1 + 1 + 1 + 1) = true := by decide
theorem powD_25 : powD (.int 10) (.int 25) = some (.int (10 ^ 25)) := rfl
theorem odd_sem {n : Nat} {pre rest S : Sto} (hB : Bag pre (n + 1) rest S) : ∃ x S', f__law_odd [.own pre.length] S = .ok (.d x) S' ∧ Gd x ∧ Bag pre n rest S' := by
  obtain ⟨x, S', e, hx, hB'⟩ := some_sem (things := odds) hB (by unfold odds; simp) (by unfold odds; simp)
  refine ⟨x, S', ?_, odds_gd x hx, hB'⟩
  have h2 : b__law_odd [some (.own pre.length)] S = .fl (.rt (.d x)) S' := by
    have e' := e
    unfold odds at e'
    simp only [b__law_odd, powD_25, negG, li0, li1, li2, li13, tp, sSeq, sIf, tCmpB, tChB, tTru, tAndB, tOrB, tNotB, eAnd, eOr, eNot, truW, truD, eBin, eCh, eIf, eVar, eC, Rs.bind, op2, bool2, view, List.getElem?_cons_zero, List.getElem?_cons_succ, ixD, at_0, at_1, at_2, at_3, gtD, ltD, leD, geD, decide_true, decide_false, bindS, seqR, sSet, eB, lCons, lNil, opN, views, Option.map, Option.some.injEq, intG, absG, lenG, modD, addD, subD, iaddD, if_true, if_false, reduceIte, call1, call2, lo0, lo1, lo2, lo3, lo4, lo5, List.set, sPut, sAugI, sAug, frzW, eFrz, ownL, ixSet4, sRet, sExpr, eOwn, eFz, mLst, dats, sNil, sRetN, eqD_int, neD_int, oSom, oNon, eSl, slD, Bool.false_eq_true, Bool.not_true, Bool.not_false, eTup, sPar, eCall, List.length_cons, List.length_nil, sAsg] at e' ⊢
    rw [e']
  have := run_ret (nn := 1) (ar := 1) (ws := [.own pre.length]) h2
  rw [hB'.cut hB.len] at this
  exact this
end DL

set_option Elab.async false
set_option linter.all false
set_option maxRecDepth 100000
set_option maxHeartbeats 4000000
namespace DL
open PySem PySem.Spec PyProof.Rows L2
def wgD : PyData → PyData
  | .tuple [.int n, .tuple [.int c, .int d]] => tp (wgP (n, c, d)).1 (wgP (n, c, d)).2
  | x => x
theorem filt_true : ∀ l : List PyData, (l.filter fun _ => true) = l := fun l => List.filter_eq_self.mpr (fun _ _ => rfl)
theorem weighed_sem {S : Sto} {l : List (Int × Int × Int)} {x y : PyData} {xs ys : List PyData} {b1 b2 : Bool} (hx : kindB x = some (b1, xs)) (hy : kindB y = some (b2, ys)) (hz : zipD xs ys = l.map fun x => .tuple [.int x.1, tp x.2.1 x.2.2]) (hl : ∀ x ∈ l, 0 < x.2.2 ∧ x.1.natAbs ≤ 2 ^ 41 ∧ x.2.1.natAbs ≤ 2 ^ 41 ∧ x.2.2.natAbs ≤ 2 ^ 41) (h4 : l.length ≤ 4) :
    f_weighed [.d x, .d y] S = .ok (.d (tp (sumP (l.map wgP) (0, 1)).1 (sumP (l.map wgP) (0, 1)).2)) S := by
  have s1 : (2 : Nat) ^ 41 < 2 ^ 400 := Nat.pow_lt_pow_right (by decide) (by decide)
  have s2 : (2 : Nat) ^ 41 < 2 ^ 200 := Nat.pow_lt_pow_right (by decide) (by decide)
  have hlc : lcRun (gTp 2 (gsCons (gNm 2) (gsCons (gNm 3) gsNil))) bYes (eCall 2 f_multiplied (lCons (eCall 1 f_whole (lCons (eVar 2) lNil)) (lCons (eVar 3) lNil))) [some (.d x), some (.d y), none, none] (l.map fun x => .tuple [.int x.1, tp x.2.1 x.2.2]) [] S = .ok ([] ++ (((l.map fun x => PyData.tuple [.int x.1, tp x.2.1 x.2.2]).filter fun _ => true).map wgD)) S := by
    refine lc_map _ _ fun d hd => ?_
    obtain ⟨⟨n, c, e⟩, hm, rfl⟩ := List.mem_map.mp hd
    obtain ⟨e0, h1, h2, h3⟩ := hl _ hm
    have e0 : 0 < e := e0
    have h1 : n.natAbs ≤ 2 ^ 41 := h1
    have h2 : c.natAbs ≤ 2 ^ 41 := h2
    have h3 : e.natAbs ≤ 2 ^ 41 := h3
    refine ⟨[some (.d x), some (.d y), some (.d (.int n)), some (.d (tp c e))], rfl, rfl, fun _ => ?_⟩
    have m := mult_sem (S := S) (a := n) (b := 1) (c := c) (d := e) (Nat.lt_of_le_of_lt h1 s1) (by decide) (Nat.lt_of_le_of_lt h2 s1) (Nat.lt_of_le_of_lt h3 s2) (by decide) (by omega)
    rw [Int.one_mul] at m
    simp only [whole_sem, m, wgD, wgP, frD_frP, sSeq, sIf, tCmpB, tChB, tTru, tAndB, tOrB, tNotB, eAnd, eOr, eNot, truW, truD, eBin, eCh, eIf, eVar, eC, Rs.bind, op2, bool2, view, List.getElem?_cons_zero, List.getElem?_cons_succ, ixD, at_0, at_1, at_2, at_3, gtD, ltD, leD, geD, decide_true, decide_false, bindS, seqR, sSet, eB, lCons, lNil, opN, views, Option.map, Option.some.injEq, intG, absG, lenG, modD, addD, subD, iaddD, if_true, if_false, reduceIte, call1, call2, lo0, lo1, lo2, lo3, lo4, lo5, List.set, sPut, sAugI, sAug, frzW, eFrz, ownL, ixSet4, sRet, sExpr, eOwn, eFz, mLst, dats, sNil, sRetN, eqD_int, neD_int, oSom, oNon, eSl, slD, Bool.false_eq_true, Bool.not_true, Bool.not_false, eTup, sPar, eCall, List.length_cons, List.length_nil, sAsg]
  have hmap : ((l.map fun x => PyData.tuple [.int x.1, tp x.2.1 x.2.2]).map wgD) = (l.map wgP).map fun x => tp x.1 x.2 := by
    rw [List.map_map, List.map_map]; rfl
  rw [List.nil_append, filt_true, hmap] at hlc
  have ht := total_sem (S := S) (l := l.map wgP) (arg := .list ((l.map wgP).map fun x => tp x.1 x.2)) rfl (fun z hz => by
    obtain ⟨⟨n, c, e⟩, hm, rfl⟩ := List.mem_map.mp hz
    obtain ⟨e0, h1, h2, h3⟩ := hl _ hm
    have e0 : 0 < e := e0
    have h1 : n.natAbs ≤ 2 ^ 41 := h1
    have h2 : c.natAbs ≤ 2 ^ 41 := h2
    have h3 : e.natAbs ≤ 2 ^ 41 := h3
    obtain ⟨nf, k1, k2⟩ := frP_is (a := n * c) (b := e) (by omega)
    refine ⟨nf.1, Nat.le_trans k1 ?_, Nat.le_trans k2 h3⟩
    rw [Int.natAbs_mul]
    exact Nat.le_trans (Nat.mul_le_mul h1 h2) (by decide)) (by rw [List.length_map]; exact h4)
  refine run_ret0 (ws := [.d x, .d y]) (nn := 4) (ar := 2) ?_
  show b_weighed [some (.d x), some (.d y), none, none] S = _
  simp only [b_weighed, mLc, iZip, dats, hx, hy, hz, wipeR, hlc, ht, sSeq, sIf, tCmpB, tChB, tTru, tAndB, tOrB, tNotB, eAnd, eOr, eNot, truW, truD, eBin, eCh, eIf, eVar, eC, Rs.bind, op2, bool2, view, List.getElem?_cons_zero, List.getElem?_cons_succ, ixD, at_0, at_1, at_2, at_3, gtD, ltD, leD, geD, decide_true, decide_false, bindS, seqR, sSet, eB, lCons, lNil, opN, views, Option.map, Option.some.injEq, intG, absG, lenG, modD, addD, subD, iaddD, if_true, if_false, reduceIte, call1, call2, lo0, lo1, lo2, lo3, lo4, lo5, List.set, sPut, sAugI, sAug, frzW, eFrz, ownL, ixSet4, sRet, sExpr, eOwn, eFz, mLst, dats, sNil, sRetN, eqD_int, neD_int, oSom, oNon, eSl, slD, Bool.false_eq_true, Bool.not_true, Bool.not_false, eTup, sPar, eCall, List.length_cons, List.length_nil, sAsg]
theorem frD_neg {a b p q : Int} (b0 : b ≠ 0) (h : frD a b = tp p q) : frD a (0 - b) = tp (0 - p) q := by
  by_cases hb : 0 < b
  · have hm : mst a b = (Nat.gcd a.natAbs b.natAbs : Nat) := if_pos hb
    have e : Nat.gcd a.natAbs (0 - b).natAbs = Nat.gcd a.natAbs b.natAbs := by rw [Int.zero_sub, Int.natAbs_neg]
    have hm2 : mst a (0 - b) = 0 - (Nat.gcd a.natAbs b.natAbs : Nat) := by
      unfold mst
      rw [if_neg (by omega), e]
    have hg : ((Nat.gcd a.natAbs b.natAbs : Nat) : Int) ∣ a := Int.natAbs_dvd_natAbs.mp (by rw [Int.natAbs_natCast]; exact Nat.gcd_dvd_left _ _)
    obtain ⟨k, hk⟩ := hg
    have g0 : ((Nat.gcd a.natAbs b.natAbs : Nat) : Int) ≠ 0 := by
      have := gcd_pos (a := a) b0
      omega
    unfold frD at h ⊢
    rw [hm] at h
    rw [hm2]
    injection h with h
    injection h with h1 h
    injection h with h2 h
    injection h1 with h1
    injection h2 with h2
    generalize ((Nat.gcd a.natAbs b.natAbs : Nat) : Int) = g at *
    have e1 : a.fdiv (0 - g) = 0 - p := by
      rw [← neg_fdiv, ← h1, hk, ← Int.mul_neg, Int.mul_fdiv_cancel_left _ g0, Int.mul_fdiv_cancel_left _ g0, Int.zero_sub]
    have e2 : (0 - b).fdiv (0 - g) = q := by
      rw [Int.zero_sub, Int.zero_sub, Int.neg_fdiv_neg, h2]
    rw [e1, e2]
  · have hm : mst a b = 0 - (Nat.gcd a.natAbs b.natAbs : Nat) := if_neg hb
    have e : Nat.gcd a.natAbs (0 - b).natAbs = Nat.gcd a.natAbs b.natAbs := by rw [Int.zero_sub, Int.natAbs_neg]
    have hm2 : mst a (0 - b) = (Nat.gcd a.natAbs b.natAbs : Nat) := by
      unfold mst
      rw [if_pos (by omega), e]
    have hg : ((Nat.gcd a.natAbs b.natAbs : Nat) : Int) ∣ a := Int.natAbs_dvd_natAbs.mp (by rw [Int.natAbs_natCast]; exact Nat.gcd_dvd_left _ _)
    obtain ⟨k, hk⟩ := hg
    have g0 : ((Nat.gcd a.natAbs b.natAbs : Nat) : Int) ≠ 0 := by
      have := gcd_pos (a := a) b0
      omega
    unfold frD at h ⊢
    rw [hm] at h
    rw [hm2]
    injection h with h
    injection h with h1 h
    injection h with h2 h
    injection h1 with h1
    injection h2 with h2
    generalize ((Nat.gcd a.natAbs b.natAbs : Nat) : Int) = g at *
    have e1 : a.fdiv g = 0 - p := by
      rw [← h1, ← neg_fdiv, hk, ← Int.mul_neg, Int.mul_fdiv_cancel_left _ g0, Int.mul_fdiv_cancel_left _ g0, Int.zero_sub, Int.neg_neg]
    have e2 : (0 - b).fdiv g = q := by
      rw [← h2, ← neg_fdiv, Int.zero_sub]
    rw [e1, e2]
end DL

set_option Elab.async false
set_option linter.all false
set_option maxRecDepth 100000
set_option maxHeartbeats 4000000
namespace DL
open PySem PySem.Spec PyProof.Rows L2
theorem seq_nx {f g : SF} {ρ ρ1 : Rho} {S S1 : Sto} (h : f ρ S = .fl (.nx ρ1) S1) : sSeq f g ρ S = g ρ1 S1 := by
  unfold sSeq
  rw [h]
  rfl
theorem rg_gen {i : Int} (h0 : 0 ≤ i) (h : i ≤ 1000) : (rngOk i && decide (i.toNat ≤ sizeLine)) = true := by
  have h1 : rngOk i = true := decide_eq_true (by omega)
  have h2 : i.toNat ≤ 1000 := by omega
  have h3 : decide (i.toNat ≤ sizeLine) = true := decide_eq_true (Nat.le_trans h2 (by decide))
  rw [h1, h3]
  rfl
theorem ir_gen {i : Int} {f : LF} {ρ : Rho} {S S0 : Sto} {k : Nat} (h0 : 0 ≤ i) (h : i ≤ 1000) (hk : i.toNat = k) (e : f ρ S0 = .ok [.d (.int i)] S) : iRange1 f ρ S0 = .ok (rangeD 0 k) S := by
  unfold iRange1
  rw [e]
  simp only [Rs.bind]
  rw [if_pos (rg_gen h0 h), hk]
noncomputable def q1 (tP : Addr) : SF := (sSet 1 (eCall 1 f__law_bag (lCons (eVar 0) lNil)))
noncomputable def q2_1 (tP : Addr) : SF := (sSet 3 (eCall 2 f__law_some (lCons (eVar 1) (lCons (eFz (mLst (lCons (eC (.int 4)) (lCons (eC (.int 30)) (lCons (eBin powD (eC (.int 10)) (eC (.int 12))) lNil))))) lNil))))
noncomputable def q2_2 (tP : Addr) : SF := (sSet 4 (eFz (mLc (iRange1 (lCons (eC (.int 4)) lNil)) (gNm 15) bYes (eBin subD (eCall 2 f__law_take (lCons (eVar 1) (lCons (eBin addD (eBin mulD (eC (.int 2)) (eVar 3)) (eC (.int 1))) lNil))) (eVar 3)) [15])))
noncomputable def q2_3 (tP : Addr) : SF := (sSet 5 (eFz (mLc (iRange1 (lCons (eC (.int 4)) lNil)) (gNm 15) bYes (eBin addD (eC (.int 1)) (eCall 2 f__law_take (lCons (eVar 1) (lCons (eVar 3) lNil)))) [15])))
noncomputable def q2_4 (tP : Addr) : SF := (sSet 6 (eFz (mLc (iZip (lCons (eVar 4) (lCons (eVar 5) lNil))) (gTp 2 (gsCons (gNm 16) (gsCons (gNm 17) gsNil))) bYes (eCall 2 f__law_fraction (lCons (eVar 16) (lCons (eVar 17) lNil))) [16, 17])))
noncomputable def q2_5 (tP : Addr) : SF := (sAsg (eSl (eVar 6) oNon (oSom (eC (.int 2)))) (gTp 2 (gsCons (gNm 7) (gsCons (gNm 8) gsNil))))
noncomputable def q2_6 (tP : Addr) : SF := (sIf (tNotB (tTru (eCall 2 f__law_alike (lCons (eFz (mLst (lCons (eCall 2 f_fraction (lCons (eBin ixD (eVar 4) (eC (.int 0))) (lCons (eBin ixD (eVar 5) (eC (.int 0))) lNil))) (lCons (eCall 2 f_fraction (lCons (eBin ixD (eVar 4) (eC (.int 0))) (lCons (eBin subD (eC (.int 0)) (eBin ixD (eVar 5) (eC (.int 0)))) lNil))) lNil)))) (lCons (eFz (mLst (lCons (eVar 7) (lCons (eTup (lCons (eBin subD (eC (.int 0)) (eBin ixD (eVar 7) (eC (.int 0)))) (lCons (eBin ixD (eVar 7) (eC (.int 1))) lNil))) lNil)))) lNil))))) (sRet (eC (.bool false))) sNil)
noncomputable def q2_7 (tP : Addr) : SF := (sSet 9 (eTup (lCons (eBin subD (eC (.int 0)) (eBin ixD (eVar 8) (eC (.int 0)))) (lCons (eBin ixD (eVar 8) (eC (.int 1))) lNil))))
noncomputable def q2_8 (tP : Addr) : SF := (sSet 10 (eFz (mLst (lCons (eCall 2 f__law_fraction_plus (lCons (eVar 7) (lCons (eVar 8) lNil))) (lCons (eCall 2 f__law_fraction_plus (lCons (eVar 7) (lCons (eVar 9) lNil))) (lCons (eCall 2 f__law_fraction_times (lCons (eVar 7) (lCons (eVar 8) lNil))) lNil))))))
noncomputable def q2_9 (tP : Addr) : SF := (sIf (tNotB (tTru (eCall 2 f__law_alike (lCons (eFz (mLst (lCons (eCall 2 f_plus (lCons (eVar 7) (lCons (eVar 8) lNil))) (lCons (eCall 2 f_minus (lCons (eVar 7) (lCons (eVar 8) lNil))) (lCons (eCall 2 f_multiplied (lCons (eVar 7) (lCons (eVar 8) lNil))) lNil))))) (lCons (eVar 10) lNil))))) (sRet (eC (.bool false))) sNil)
noncomputable def q2_10 (tP : Addr) : SF := (sSet 11 (eLam tP lamQ tt__law_refused (eCall 2 f_ratio (lCons (eVar 7) (lCons (eVar 8) lNil)))))
noncomputable def q2_11 (tP : Addr) : SF := (sIf (tNotB (tTru (eCall 2 f__law_alike (lCons (eVar 11) (lCons (eIf (tCmpB neD (eBin ixD (eVar 8) (eC (.int 0))) (eC (.int 0))) (eTup (lCons (eC (.str (PySem.Str.ofString "told"))) (lCons (eCall 2 f__law_fraction (lCons (eBin mulD (eBin ixD (eVar 7) (eC (.int 0))) (eBin ixD (eVar 8) (eC (.int 1)))) (lCons (eBin mulD (eBin ixD (eVar 7) (eC (.int 1))) (eBin ixD (eVar 8) (eC (.int 0)))) lNil))) lNil))) (eTup (lCons (eC (.str (PySem.Str.ofString "refused"))) (lCons (eC (.str (PySem.Str.ofString "zero"))) lNil)))) lNil))))) (sRet (eC (.bool false))) sNil)
noncomputable def q2_12 (tP : Addr) : SF := (sIf (tCmpB neD (eLam tP lamQ tt__law_refused (eCall 2 f_fraction (lCons (eBin ixD (eVar 4) (eC (.int 2))) (lCons (eC (.int 0)) lNil)))) (eTup (lCons (eC (.str (PySem.Str.ofString "refused"))) (lCons (eC (.str (PySem.Str.ofString "zero"))) lNil)))) (sRet (eC (.bool false))) sNil)
noncomputable def q2_13 (tP : Addr) : SF := (sSet 12 (eCall 1 f_floor_of (lCons (eVar 7) lNil)))
noncomputable def q2_14 (tP : Addr) : SF := (sIf (tOrB (tNotB (tTru (eCall 1 f__law_is_int (lCons (eVar 12) lNil)))) (tNotB (tChB leD ltD (eBin mulD (eVar 12) (eBin ixD (eVar 7) (eC (.int 1)))) (eBin ixD (eVar 7) (eC (.int 0))) (eBin mulD (eBin addD (eVar 12) (eC (.int 1))) (eBin ixD (eVar 7) (eC (.int 1))))))) (sRet (eC (.bool false))) sNil)
noncomputable def q2_15 (tP : Addr) : SF := (sIf (tNotB (tTru (eCall 2 f__law_alike (lCons (eFz (mLst (lCons (eCall 2 f_is_less (lCons (eVar 7) (lCons (eVar 8) lNil))) (lCons (eCall 2 f_is_less (lCons (eVar 7) (lCons (eVar 7) lNil))) lNil)))) (lCons (eFz (mLst (lCons (eCall 2 f__law_is_fraction_less (lCons (eVar 7) (lCons (eVar 8) lNil))) (lCons (eC (.bool false)) lNil)))) lNil))))) (sRet (eC (.bool false))) sNil)
noncomputable def q2_16 (tP : Addr) : SF := (sSet 13 (eCall 2 f__law_weighed (lCons (eFz (mRep (mLst (lCons (eC (.int 1)) lNil)) (eC (.int 4)))) (lCons (eVar 6) lNil))))
noncomputable def q2_17 (tP : Addr) : SF := (sIf (tNotB (tTru (eCall 2 f__law_alike (lCons (eFz (mLst (lCons (eCall 1 f_total (lCons (eB tupG (lCons (eVar 6) lNil)) lNil)) (lCons (eCall 1 f_total (lCons (eTup lNil) lNil)) (lCons (eCall 2 f_weighed (lCons (eB tupG (lCons (eVar 4) lNil)) (lCons (eB tupG (lCons (eVar 6) lNil)) lNil))) lNil))))) (lCons (eFz (mLst (lCons (eVar 13) (lCons (eTup (lCons (eC (.int 0)) (lCons (eC (.int 1)) lNil))) (lCons (eCall 2 f__law_weighed (lCons (eVar 4) (lCons (eVar 6) lNil))) lNil))))) lNil))))) (sRet (eC (.bool false))) sNil)
noncomputable def q2_18 (tP : Addr) : SF := (sFor (iVal (eBin addD (eVar 6) (eFz (mLst (lCons (eTup (lCons (eBin ixD (eVar 4) (eC (.int 0))) (lCons (eBin ixD (eVar 5) (eC (.int 0))) lNil))) (lCons (eTup (lCons (eC (.int 2)) (lCons (eC (.int 4)) lNil))) (lCons (eTup (lCons (eC (.int 0)) (lCons (eC (.int 3)) lNil))) (lCons (eTup (lCons (eC (.int 1)) (lCons (eC (.int 0)) lNil))) (lCons (eTup (lCons (eC (.int 1)) (lCons (eB negG (lCons (eC (.int 2)) lNil)) lNil))) (lCons (eTup (lCons (eC (.bool true)) (lCons (eC (.int 2)) lNil))) (lCons (eFz (mLst (lCons (eC (.int 1)) (lCons (eC (.int 2)) lNil)))) (lCons (eTup (lCons (eC (.int 1)) (lCons (eC (.int 2)) (lCons (eC (.int 3)) lNil)))) (lCons (eCall 1 f__law_odd (lCons (eVar 1) lNil)) lNil))))))))))))) (gNm 14) (sIf (tNotB (tTru (eCall 2 f__law_alike (lCons (eCall 1 f_is_fraction (lCons (eVar 14) lNil)) (lCons (eCall 1 f__law_is_fraction (lCons (eVar 14) lNil)) lNil))))) (sRet (eC (.bool false))) sNil))
noncomputable def q2_T (tP : Addr) : SF := (sSeq (q2_1 tP) (sSeq (q2_2 tP) (sSeq (q2_3 tP) (sSeq (q2_4 tP) (sSeq (q2_5 tP) (sSeq (q2_6 tP) (sSeq (q2_7 tP) (sSeq (q2_8 tP) (sSeq (q2_9 tP) (sSeq (q2_10 tP) (sSeq (q2_11 tP) (sSeq (q2_12 tP) (sSeq (q2_13 tP) (sSeq (q2_14 tP) (sSeq (q2_15 tP) (sSeq (q2_16 tP) (sSeq (q2_17 tP) (q2_18 tP))))))))))))))))))
noncomputable def q2 (tP : Addr) : SF := (sFor (iRange1 (lCons (eC (.int 12)) lNil)) (gNm 2) (q2_T tP))
noncomputable def q3 (tP : Addr) : SF := (sRet (eC (.bool true)))
theorem q_eq (tP : Addr) : b_law tP = (sSeq (q1 tP) (sSeq (q2 tP) (q3 tP))) := rfl
/-- a fraction and what it was made of -/
structure Fx (n u p q : Int) : Prop where
  e : frD n u = tp p q
  nf : Nf p q
  n0 : n.natAbs ≤ 2 ^ 40
  u0 : 0 < u
  u1 : u.natAbs ≤ 2 ^ 41
  p1 : p.natAbs ≤ 2 ^ 40
  q1 : q.natAbs ≤ 2 ^ 41
theorem fx_of {n u : Int} (h : n.natAbs ≤ 2 ^ 40) (u0 : 0 < u) (u1 : u.natAbs ≤ 2 ^ 41) : ∃ p q, Fx n u p q := by
  obtain ⟨p, q, e, nf, h1, h2⟩ := frD_is (a := n) (b := u) (by omega)
  exact ⟨p, q, e, nf, h, u0, u1, Nat.le_trans h1 h, Nat.le_trans h2 u1⟩
namespace Fx
variable {n u p q : Int} (f : Fx n u p q)
include f
theorem p2 : p.natAbs < 2 ^ 200 := Nat.lt_of_le_of_lt f.p1 (Nat.pow_lt_pow_right (by decide) (by decide))
theorem q2 : q.natAbs < 2 ^ 200 := Nat.lt_of_le_of_lt f.q1 (Nat.pow_lt_pow_right (by decide) (by decide))
theorem u2 : u.natAbs < 2 ^ 200 := Nat.lt_of_le_of_lt f.u1 (Nat.pow_lt_pow_right (by decide) (by decide))
theorem p4 : p.natAbs < 2 ^ 400 := up_small f.p2
theorem q4 : q.natAbs < 2 ^ 400 := up_small f.q2
theorem qp : 0 < q := f.nf.1
theorem qne : q ≠ 0 := by have := f.nf.1; omega
theorem une : u ≠ 0 := by have := f.u0; omega
end Fx
theorem frP_nf {p q : Int} (h : Nf p q) : frP p q = (p, q) := by
  have e := frD_nf h
  rw [frD_frP] at e
  injection e with e
  injection e with e1 e
  injection e with e2 e
  injection e1 with e1
  injection e2 with e2
  exact Prod.ext e1 e2
theorem four {α : Type} {l : List α} (h : l.length = 4) : ∃ a b c d, l = [a, b, c, d] := by
  match l, h with
  | [a, b, c, d], _ => exact ⟨a, b, c, d, rfl⟩
theorem ne_self2 (a b : Str) : neD (.tuple [.str a, .str b]) (.tuple [.str a, .str b]) = some (.bool false) := by
  unfold neD
  rw [if_pos (by rfl)]
  simp [PyData.eqv, PyData.eqvAll]
section
variable {tP : Addr} {pre rest S : Sto} {n : Nat} {x0 x1 x2 x3 x4 x5 x6 x7 x8 x9 x10 x11 x12 x13 x14 x15 x16 x17 : Option Wv} {n0 n1 n2 n3 u0 u1 u2 u3 p0 p1 p2 p3 q0 q1 q2 q3 : Int}
theorem p_12 : powD (.int 10) (.int 12) = some (.int (10 ^ 12)) := rfl

theorem q2_1_sem (hB : Bag pre (n + 1) rest S) : ∃ (z : Int) (S' : Sto), q2_1 tP [x0, some (.own pre.length), x2, x3, x4, x5, x6, x7, x8, x9, x10, x11, x12, x13, x14, x15, x16, x17] S
    = .fl (.nx [x0, some (.own pre.length), x2, some (.d (.int z)), x4, x5, x6, x7, x8, x9, x10, x11, x12, x13, x14, x15, x16, x17]) S' ∧ 4 ≤ z ∧ z ≤ 10 ^ 12 ∧ Bag pre n rest S' := by
  obtain ⟨x, S', e, hx, hB'⟩ := some_sem (things := [.int 4, .int 30, .int (10 ^ 12)]) hB (by simp) (by simp)
  have hz : ∃ z : Int, x = .int z ∧ 4 ≤ z ∧ z ≤ 10 ^ 12 := by
    simp only [List.mem_cons, List.not_mem_nil, or_false] at hx
    rcases hx with h | h | h <;> exact ⟨_, h, by decide, by decide⟩
  obtain ⟨z, rfl, h1, h2⟩ := hz
  refine ⟨z, S', ?_, h1, h2, hB'⟩
  simp only [q2_1, p_12, li3, e, sSeq, sIf, tCmpB, tChB, tTru, tAndB, tOrB, tNotB, eAnd, eOr, eNot, truW, truD, eBin, eCh, eIf, eVar, eC, Rs.bind, op2, bool2, view, List.getElem?_cons_zero, List.getElem?_cons_succ, ixD, at_0, at_1, at_2, at_3, gtD, ltD, leD, geD, decide_true, decide_false, bindS, seqR, sSet, eB, lCons, lNil, opN, views, Option.map, Option.some.injEq, intG, absG, lenG, modD, addD, subD, iaddD, if_true, if_false, reduceIte, call1, call2, lo0, lo1, lo2, lo3, lo4, lo5, List.set, sPut, sAugI, sAug, frzW, eFrz, ownL, ixSet4, sRet, sExpr, eOwn, eFz, mLst, dats, sNil, sRetN, eqD_int, neD_int, oSom, oNon, eSl, slD, Bool.false_eq_true, Bool.not_true, Bool.not_false, eTup, sPar, eCall, List.length_cons, List.length_nil, sAsg]
theorem q2_2_sem {z : Int} (h4 : 4 ≤ z) (hz : z ≤ 10 ^ 12) (hB : Bag pre (n + 4) rest S) : ∃ (n0 n1 n2 n3 : Int) (S' : Sto), q2_2 tP [x0, some (.own pre.length), x2, some (.d (.int z)), x4, x5, x6, x7, x8, x9, x10, x11, x12, x13, x14, x15, x16, x17] S
    = .fl (.nx [x0, some (.own pre.length), x2, some (.d (.int z)), some (.d (.list [.int n0, .int n1, .int n2, .int n3])), x5, x6, x7, x8, x9, x10, x11, x12, x13, x14, x15, x16, x17]) S' ∧ (n0.natAbs ≤ 2 ^ 40 ∧ n1.natAbs ≤ 2 ^ 40 ∧ n2.natAbs ≤ 2 ^ 40 ∧ n3.natAbs ≤ 2 ^ 40) ∧ Bag pre n rest S' := by
  have hm : mulOk 2 z = true := mulOk_small (by decide) (by omega)
  have hlg : (2 * z + 1).natAbs.log2 < 9000 := Nat.lt_trans (lg400 _ (by omega)) (by decide)
  obtain ⟨ys, S', e, hl, hP, hB'⟩ := lc_bag (t := gNm 15) (f := (eBin subD (eCall 2 f__law_take (lCons (eVar 1) (lCons (eBin addD (eBin mulD (eC (.int 2)) (eVar 3)) (eC (.int 1))) lNil))) (eVar 3))) (ρ := [x0, some (.own pre.length), x2, some (.d (.int z)), x4, x5, x6, x7, x8, x9, x10, x11, x12, x13, x14, none, x16, x17]) (pre := pre) (rest := rest) (P := fun y => ∃ i : Int, y = .int i ∧ i.natAbs ≤ 2 ^ 40) (k := 1) (rangeD 0 4) n [] S
    (fun d hd => ⟨_, rfl, fun m S hB => by
      obtain ⟨r, S', e, r0, r1, hB'⟩ := take_sem hB (many := 2 * z + 1) (by omega) hlg
      refine ⟨.int (r - z), S', ?_, ⟨_, rfl, by omega⟩, hB'⟩
      simp only [mulD, hm, e, sSeq, sIf, tCmpB, tChB, tTru, tAndB, tOrB, tNotB, eAnd, eOr, eNot, truW, truD, eBin, eCh, eIf, eVar, eC, Rs.bind, op2, bool2, view, List.getElem?_cons_zero, List.getElem?_cons_succ, ixD, at_0, at_1, at_2, at_3, gtD, ltD, leD, geD, decide_true, decide_false, bindS, seqR, sSet, eB, lCons, lNil, opN, views, Option.map, Option.some.injEq, intG, absG, lenG, modD, addD, subD, iaddD, if_true, if_false, reduceIte, call1, call2, lo0, lo1, lo2, lo3, lo4, lo5, List.set, sPut, sAugI, sAug, frzW, eFrz, ownL, ixSet4, sRet, sExpr, eOwn, eFz, mLst, dats, sNil, sRetN, eqD_int, neD_int, oSom, oNon, eSl, slD, Bool.false_eq_true, Bool.not_true, Bool.not_false, eTup, sPar, eCall, List.length_cons, List.length_nil, sAsg]⟩) (hB.mono (by simp [rangeD]))
  obtain ⟨a, b, c, d, rfl⟩ := four (l := ys) (by rw [hl]; rfl)
  obtain ⟨n0, rfl, h0⟩ := hP a (by simp)
  obtain ⟨n1, rfl, h1⟩ := hP b (by simp)
  obtain ⟨n2, rfl, h2⟩ := hP c (by simp)
  obtain ⟨n3, rfl, h3⟩ := hP d (by simp)
  refine ⟨n0, n1, n2, n3, S', ?_, ⟨h0, h1, h2, h3⟩, hB'⟩
  have hi := ir_gen (f := (lCons (eC (.int 4)) lNil)) (ρ := [x0, some (.own pre.length), x2, some (.d (.int z)), x4, x5, x6, x7, x8, x9, x10, x11, x12, x13, x14, x15, x16, x17]) (S0 := S) (S := S) (i := 4) (k := 4) (by decide) (by decide) (by decide) rfl
  rw [List.nil_append] at e
  simp only [q2_2, sSet, eFz, mLc, hi, Rs.bind, wipeR, List.set, e, bindS]
theorem q2_3_sem {z : Int} (h4 : 4 ≤ z) (hz : z ≤ 10 ^ 12) (hB : Bag pre (n + 4) rest S) : ∃ (n0 n1 n2 n3 : Int) (S' : Sto), q2_3 tP [x0, some (.own pre.length), x2, some (.d (.int z)), x4, x5, x6, x7, x8, x9, x10, x11, x12, x13, x14, x15, x16, x17] S
    = .fl (.nx [x0, some (.own pre.length), x2, some (.d (.int z)), x4, some (.d (.list [.int n0, .int n1, .int n2, .int n3])), x6, x7, x8, x9, x10, x11, x12, x13, x14, x15, x16, x17]) S' ∧ ((0 < n0 ∧ n0.natAbs ≤ 2 ^ 41) ∧ (0 < n1 ∧ n1.natAbs ≤ 2 ^ 41) ∧ (0 < n2 ∧ n2.natAbs ≤ 2 ^ 41) ∧ (0 < n3 ∧ n3.natAbs ≤ 2 ^ 41)) ∧ Bag pre n rest S' := by
  have hlg : (z).natAbs.log2 < 9000 := Nat.lt_trans (lg400 _ (by omega)) (by decide)
  obtain ⟨ys, S', e, hl, hP, hB'⟩ := lc_bag (t := gNm 15) (f := (eBin addD (eC (.int 1)) (eCall 2 f__law_take (lCons (eVar 1) (lCons (eVar 3) lNil))))) (ρ := [x0, some (.own pre.length), x2, some (.d (.int z)), x4, x5, x6, x7, x8, x9, x10, x11, x12, x13, x14, none, x16, x17]) (pre := pre) (rest := rest) (P := fun y => ∃ i : Int, y = .int i ∧ 0 < i ∧ i.natAbs ≤ 2 ^ 41) (k := 1) (rangeD 0 4) n [] S
    (fun d hd => ⟨_, rfl, fun m S hB => by
      obtain ⟨r, S', e, r0, r1, hB'⟩ := take_sem hB (many := z) (by omega) hlg
      refine ⟨.int (1 + r), S', ?_, ⟨_, rfl, by omega, by omega⟩, hB'⟩
      simp only [e, sSeq, sIf, tCmpB, tChB, tTru, tAndB, tOrB, tNotB, eAnd, eOr, eNot, truW, truD, eBin, eCh, eIf, eVar, eC, Rs.bind, op2, bool2, view, List.getElem?_cons_zero, List.getElem?_cons_succ, ixD, at_0, at_1, at_2, at_3, gtD, ltD, leD, geD, decide_true, decide_false, bindS, seqR, sSet, eB, lCons, lNil, opN, views, Option.map, Option.some.injEq, intG, absG, lenG, modD, addD, subD, iaddD, if_true, if_false, reduceIte, call1, call2, lo0, lo1, lo2, lo3, lo4, lo5, List.set, sPut, sAugI, sAug, frzW, eFrz, ownL, ixSet4, sRet, sExpr, eOwn, eFz, mLst, dats, sNil, sRetN, eqD_int, neD_int, oSom, oNon, eSl, slD, Bool.false_eq_true, Bool.not_true, Bool.not_false, eTup, sPar, eCall, List.length_cons, List.length_nil, sAsg]⟩) (hB.mono (by simp [rangeD]))
  obtain ⟨a, b, c, d, rfl⟩ := four (l := ys) (by rw [hl]; rfl)
  obtain ⟨n0, rfl, h0⟩ := hP a (by simp)
  obtain ⟨n1, rfl, h1⟩ := hP b (by simp)
  obtain ⟨n2, rfl, h2⟩ := hP c (by simp)
  obtain ⟨n3, rfl, h3⟩ := hP d (by simp)
  refine ⟨n0, n1, n2, n3, S', ?_, ⟨h0, h1, h2, h3⟩, hB'⟩
  have hi := ir_gen (f := (lCons (eC (.int 4)) lNil)) (ρ := [x0, some (.own pre.length), x2, some (.d (.int z)), x4, x5, x6, x7, x8, x9, x10, x11, x12, x13, x14, x15, x16, x17]) (S0 := S) (S := S) (i := 4) (k := 4) (by decide) (by decide) (by decide) rfl
  rw [List.nil_append] at e
  simp only [q2_3, sSet, eFz, mLc, hi, Rs.bind, wipeR, List.set, e, bindS]
end
end DL

set_option Elab.async false
set_option linter.all false
set_option maxRecDepth 100000
set_option maxHeartbeats 4000000
namespace DL
open PySem PySem.Spec PyProof.Rows L2

theorem cut2 (a b c d : PyData) : cutD [a, b, c, d] none (some 2) = [a, b] := rfl
section
variable {tP : Addr} {pre rest S : Sto} {n : Nat} {x0 x1 x2 x3 x4 x5 x6 x7 x8 x9 x10 x11 x12 x13 x14 x15 x16 x17 : Option Wv} {n0 n1 n2 n3 u0 u1 u2 u3 p0 p1 p2 p3 q0 q1 q2 q3 : Int}
variable (f0 : Fx n0 u0 p0 q0) (f1 : Fx n1 u1 p1 q1) (f2 : Fx n2 u2 p2 q2) (f3 : Fx n3 u3 p3 q3)
abbrev nsD (n0 n1 n2 n3 : Int) : Option Wv := some (.d (.list [.int n0, .int n1, .int n2, .int n3]))
abbrev msD (p0 q0 p1 q1 p2 q2 p3 q3 : Int) : Option Wv := some (.d (.list [tp p0 q0, tp p1 q1, tp p2 q2, tp p3 q3]))
abbrev tpW (p q : Int) : Option Wv := some (.d (tp p q))
include f0 f1 f2 f3
theorem q2_4_sem : q2_4 tP [x0, x1, x2, x3, nsD n0 n1 n2 n3, nsD u0 u1 u2 u3, x6, x7, x8, x9, x10, x11, x12, x13, x14, x15, x16, x17] S = .fl (.nx [x0, x1, x2, x3, nsD n0 n1 n2 n3, nsD u0 u1 u2 u3, msD p0 q0 p1 q1 p2 q2 p3 q3, x7, x8, x9, x10, x11, x12, x13, x14, x15, x16, x17]) S := by
  have e0 := lfraction_sem (S := S) (a := n0) f0.une (up_small f0.u2)
  have e1 := lfraction_sem (S := S) (a := n1) f1.une (up_small f1.u2)
  have e2 := lfraction_sem (S := S) (a := n2) f2.une (up_small f2.u2)
  have e3 := lfraction_sem (S := S) (a := n3) f3.une (up_small f3.u2)
  rw [f0.e] at e0
  rw [f1.e] at e1
  rw [f2.e] at e2
  rw [f3.e] at e3
  have hz : zipD [.int n0, .int n1, .int n2, .int n3] [.int u0, .int u1, .int u2, .int u3] = [tp n0 u0, tp n1 u1, tp n2 u2, tp n3 u3] := rfl
  simp only [q2_4, mLc, iZip, dats, kindB, hz, wipeR, lcRun, gTp, gsCons, gsNil, gNm, bYes, e0, e1, e2, e3, List.nil_append, List.cons_append, tp, sSeq, sIf, tCmpB, tChB, tTru, tAndB, tOrB, tNotB, eAnd, eOr, eNot, truW, truD, eBin, eCh, eIf, eVar, eC, Rs.bind, op2, bool2, view, List.getElem?_cons_zero, List.getElem?_cons_succ, ixD, at_0, at_1, at_2, at_3, gtD, ltD, leD, geD, decide_true, decide_false, bindS, seqR, sSet, eB, lCons, lNil, opN, views, Option.map, Option.some.injEq, intG, absG, lenG, modD, addD, subD, iaddD, if_true, if_false, reduceIte, call1, call2, lo0, lo1, lo2, lo3, lo4, lo5, List.set, sPut, sAugI, sAug, frzW, eFrz, ownL, ixSet4, sRet, sExpr, eOwn, eFz, mLst, dats, sNil, sRetN, eqD_int, neD_int, oSom, oNon, eSl, slD, Bool.false_eq_true, Bool.not_true, Bool.not_false, eTup, sPar, eCall, List.length_cons, List.length_nil, sAsg]
omit f0 f1 f2 f3 in
theorem q2_5_sem : q2_5 tP [x0, x1, x2, x3, x4, x5, msD p0 q0 p1 q1 p2 q2 p3 q3, x7, x8, x9, x10, x11, x12, x13, x14, x15, x16, x17] S = .fl (.nx [x0, x1, x2, x3, x4, x5, msD p0 q0 p1 q1 p2 q2 p3 q3, tpW p0 q0, tpW p1 q1, x9, x10, x11, x12, x13, x14, x15, x16, x17]) S := by
  simp only [q2_5, cut2, gTp, gsCons, gsNil, gNm, tp, sSeq, sIf, tCmpB, tChB, tTru, tAndB, tOrB, tNotB, eAnd, eOr, eNot, truW, truD, eBin, eCh, eIf, eVar, eC, Rs.bind, op2, bool2, view, List.getElem?_cons_zero, List.getElem?_cons_succ, ixD, at_0, at_1, at_2, at_3, gtD, ltD, leD, geD, decide_true, decide_false, bindS, seqR, sSet, eB, lCons, lNil, opN, views, Option.map, Option.some.injEq, intG, absG, lenG, modD, addD, subD, iaddD, if_true, if_false, reduceIte, call1, call2, lo0, lo1, lo2, lo3, lo4, lo5, List.set, sPut, sAugI, sAug, frzW, eFrz, ownL, ixSet4, sRet, sExpr, eOwn, eFz, mLst, dats, sNil, sRetN, eqD_int, neD_int, oSom, oNon, eSl, slD, Bool.false_eq_true, Bool.not_true, Bool.not_false, eTup, sPar, eCall, List.length_cons, List.length_nil, sAsg]
omit f1 f2 f3 in
theorem q2_6_sem : q2_6 tP [x0, x1, x2, x3, nsD n0 n1 n2 n3, nsD u0 u1 u2 u3, x6, tpW p0 q0, x8, x9, x10, x11, x12, x13, x14, x15, x16, x17] S = .fl (.nx [x0, x1, x2, x3, nsD n0 n1 n2 n3, nsD u0 u1 u2 u3, x6, tpW p0 q0, x8, x9, x10, x11, x12, x13, x14, x15, x16, x17]) S := by
  have e0 := fraction_sem (S := S) (a := n0) f0.une (up_small f0.u2)
  have e1 := fraction_sem (S := S) (a := n0) (b := 0 - u0) (by have := f0.une; omega) (by rw [Int.zero_sub, Int.natAbs_neg]; exact up_small f0.u2)
  rw [f0.e] at e0
  rw [frD_neg f0.une f0.e] at e1
  have al := alike_sem (d := .list [tp p0 q0, tp (0 - p0) q0]) (S := S) rfl (by simp [wgt, wgts])
  simp only [tp] at e0 e1 al
  simp only [q2_6, e0, e1, al, li2, at2_0, at2_1, tp, sSeq, sIf, tCmpB, tChB, tTru, tAndB, tOrB, tNotB, eAnd, eOr, eNot, truW, truD, eBin, eCh, eIf, eVar, eC, Rs.bind, op2, bool2, view, List.getElem?_cons_zero, List.getElem?_cons_succ, ixD, at_0, at_1, at_2, at_3, gtD, ltD, leD, geD, decide_true, decide_false, bindS, seqR, sSet, eB, lCons, lNil, opN, views, Option.map, Option.some.injEq, intG, absG, lenG, modD, addD, subD, iaddD, if_true, if_false, reduceIte, call1, call2, lo0, lo1, lo2, lo3, lo4, lo5, List.set, sPut, sAugI, sAug, frzW, eFrz, ownL, ixSet4, sRet, sExpr, eOwn, eFz, mLst, dats, sNil, sRetN, eqD_int, neD_int, oSom, oNon, eSl, slD, Bool.false_eq_true, Bool.not_true, Bool.not_false, eTup, sPar, eCall, List.length_cons, List.length_nil, sAsg]
omit f0 f1 f2 f3 in
theorem q2_7_sem : q2_7 tP [x0, x1, x2, x3, x4, x5, x6, x7, tpW p1 q1, x9, x10, x11, x12, x13, x14, x15, x16, x17] S = .fl (.nx [x0, x1, x2, x3, x4, x5, x6, x7, tpW p1 q1, tpW (0 - p1) q1, x10, x11, x12, x13, x14, x15, x16, x17]) S := by
  simp only [q2_7, li2, at2_0, at2_1, tp, sSeq, sIf, tCmpB, tChB, tTru, tAndB, tOrB, tNotB, eAnd, eOr, eNot, truW, truD, eBin, eCh, eIf, eVar, eC, Rs.bind, op2, bool2, view, List.getElem?_cons_zero, List.getElem?_cons_succ, ixD, at_0, at_1, at_2, at_3, gtD, ltD, leD, geD, decide_true, decide_false, bindS, seqR, sSet, eB, lCons, lNil, opN, views, Option.map, Option.some.injEq, intG, absG, lenG, modD, addD, subD, iaddD, if_true, if_false, reduceIte, call1, call2, lo0, lo1, lo2, lo3, lo4, lo5, List.set, sPut, sAugI, sAug, frzW, eFrz, ownL, ixSet4, sRet, sExpr, eOwn, eFz, mLst, dats, sNil, sRetN, eqD_int, neD_int, oSom, oNon, eSl, slD, Bool.false_eq_true, Bool.not_true, Bool.not_false, eTup, sPar, eCall, List.length_cons, List.length_nil, sAsg]
def dueD (p0 q0 p1 q1 : Int) : PyData := .list [frD (p0 * q1 + p1 * q0) (q0 * q1), frD (p0 * q1 - p1 * q0) (q0 * q1), frD (p0 * p1) (q0 * q1)]
omit f2 f3 in
theorem q2_8_sem : q2_8 tP [x0, x1, x2, x3, x4, x5, x6, tpW p0 q0, tpW p1 q1, tpW (0 - p1) q1, x10, x11, x12, x13, x14, x15, x16, x17] S = .fl (.nx [x0, x1, x2, x3, x4, x5, x6, tpW p0 q0, tpW p1 q1, tpW (0 - p1) q1, some (.d (dueD p0 q0 p1 q1)), x11, x12, x13, x14, x15, x16, x17]) S := by
  have e1 := lplus_sem (S := S) f0.p4 f0.q2 f1.p4 f1.q2 f0.qne f1.qne
  have e2 := lplus_sem (S := S) (c := 0 - p1) f0.p4 f0.q2 (by rw [Int.zero_sub, Int.natAbs_neg]; exact f1.p4) f1.q2 f0.qne f1.qne
  have e3 := ltimes_sem (S := S) f0.p4 f0.q2 f1.p4 f1.q2 f0.qne f1.qne
  have hs : p0 * q1 + (0 - p1) * q0 = p0 * q1 - p1 * q0 := by rw [Int.zero_sub, Int.neg_mul]; rfl
  rw [hs] at e2
  simp only [q2_8, e1, e2, e3, li3, dueD, sSeq, sIf, tCmpB, tChB, tTru, tAndB, tOrB, tNotB, eAnd, eOr, eNot, truW, truD, eBin, eCh, eIf, eVar, eC, Rs.bind, op2, bool2, view, List.getElem?_cons_zero, List.getElem?_cons_succ, ixD, at_0, at_1, at_2, at_3, gtD, ltD, leD, geD, decide_true, decide_false, bindS, seqR, sSet, eB, lCons, lNil, opN, views, Option.map, Option.some.injEq, intG, absG, lenG, modD, addD, subD, iaddD, if_true, if_false, reduceIte, call1, call2, lo0, lo1, lo2, lo3, lo4, lo5, List.set, sPut, sAugI, sAug, frzW, eFrz, ownL, ixSet4, sRet, sExpr, eOwn, eFz, mLst, dats, sNil, sRetN, eqD_int, neD_int, oSom, oNon, eSl, slD, Bool.false_eq_true, Bool.not_true, Bool.not_false, eTup, sPar, eCall, List.length_cons, List.length_nil, sAsg]
omit f2 f3 in
theorem q2_9_sem : q2_9 tP [x0, x1, x2, x3, x4, x5, x6, tpW p0 q0, tpW p1 q1, x9, some (.d (dueD p0 q0 p1 q1)), x11, x12, x13, x14, x15, x16, x17] S = .fl (.nx [x0, x1, x2, x3, x4, x5, x6, tpW p0 q0, tpW p1 q1, x9, some (.d (dueD p0 q0 p1 q1)), x11, x12, x13, x14, x15, x16, x17]) S := by
  have e1 := plus_sem (S := S) f0.p4 f0.q2 f1.p4 f1.q2 f0.qne f1.qne
  have e2 := minus_sem (S := S) f0.p4 f0.q2 f1.p4 f1.q2 f0.qne f1.qne
  have e3 := mult_sem (S := S) f0.p4 f0.q2 f1.p4 f1.q2 f0.qne f1.qne
  have al := alike_sem (d := dueD p0 q0 p1 q1) (S := S) rfl (by simp [dueD, frD, wgt, wgts])
  unfold dueD at al
  simp only [q2_9, e1, e2, e3, li3, dueD, al, sSeq, sIf, tCmpB, tChB, tTru, tAndB, tOrB, tNotB, eAnd, eOr, eNot, truW, truD, eBin, eCh, eIf, eVar, eC, Rs.bind, op2, bool2, view, List.getElem?_cons_zero, List.getElem?_cons_succ, ixD, at_0, at_1, at_2, at_3, gtD, ltD, leD, geD, decide_true, decide_false, bindS, seqR, sSet, eB, lCons, lNil, opN, views, Option.map, Option.some.injEq, intG, absG, lenG, modD, addD, subD, iaddD, if_true, if_false, reduceIte, call1, call2, lo0, lo1, lo2, lo3, lo4, lo5, List.set, sPut, sAugI, sAug, frzW, eFrz, ownL, ixSet4, sRet, sExpr, eOwn, eFz, mLst, dats, sNil, sRetN, eqD_int, neD_int, oSom, oNon, eSl, slD, Bool.false_eq_true, Bool.not_true, Bool.not_false, eTup, sPar, eCall, List.length_cons, List.length_nil, sAsg]
def toldD (p0 q0 p1 q1 : Int) : PyData := if p1 = 0 then .tuple [.str (PySem.Str.ofString "refused"), .str (PySem.Str.ofString "zero")] else .tuple [.str (PySem.Str.ofString "told"), frD (p0 * q1) (q0 * p1)]
omit f2 f3 in
theorem q2_10_sem (ht : hasTab S tP lamQ = true) : q2_10 tP [x0, x1, x2, x3, x4, x5, x6, tpW p0 q0, tpW p1 q1, x9, x10, x11, x12, x13, x14, x15, x16, x17] S = .fl (.nx [x0, x1, x2, x3, x4, x5, x6, tpW p0 q0, tpW p1 q1, x9, x10, some (.d (toldD p0 q0 p1 q1)), x12, x13, x14, x15, x16, x17]) S := by
  by_cases h : p1 = 0
  · subst h
    have e := ratio_zero (S := S) (a := p0) (b := q0) (d := q1) f0.p2 f0.q2 f1.q2
    simp only [q2_10, eLam, ht, e, tt__law_refused, tt1, toldD, List.lookup, beq_self_eq_true, sSeq, sIf, tCmpB, tChB, tTru, tAndB, tOrB, tNotB, eAnd, eOr, eNot, truW, truD, eBin, eCh, eIf, eVar, eC, Rs.bind, op2, bool2, view, List.getElem?_cons_zero, List.getElem?_cons_succ, ixD, at_0, at_1, at_2, at_3, gtD, ltD, leD, geD, decide_true, decide_false, bindS, seqR, sSet, eB, lCons, lNil, opN, views, Option.map, Option.some.injEq, intG, absG, lenG, modD, addD, subD, iaddD, if_true, if_false, reduceIte, call1, call2, lo0, lo1, lo2, lo3, lo4, lo5, List.set, sPut, sAugI, sAug, frzW, eFrz, ownL, ixSet4, sRet, sExpr, eOwn, eFz, mLst, dats, sNil, sRetN, eqD_int, neD_int, oSom, oNon, eSl, slD, Bool.false_eq_true, Bool.not_true, Bool.not_false, eTup, sPar, eCall, List.length_cons, List.length_nil, sAsg]
  · have e := ratio_sem (S := S) (a := p0) (b := q0) (c := p1) (d := q1) f0.p2 f0.q2 f1.p2 f1.q2 f0.qne h
    simp only [q2_10, eLam, ht, e, tt__law_refused, tt1, toldD, h, sSeq, sIf, tCmpB, tChB, tTru, tAndB, tOrB, tNotB, eAnd, eOr, eNot, truW, truD, eBin, eCh, eIf, eVar, eC, Rs.bind, op2, bool2, view, List.getElem?_cons_zero, List.getElem?_cons_succ, ixD, at_0, at_1, at_2, at_3, gtD, ltD, leD, geD, decide_true, decide_false, bindS, seqR, sSet, eB, lCons, lNil, opN, views, Option.map, Option.some.injEq, intG, absG, lenG, modD, addD, subD, iaddD, if_true, if_false, reduceIte, call1, call2, lo0, lo1, lo2, lo3, lo4, lo5, List.set, sPut, sAugI, sAug, frzW, eFrz, ownL, ixSet4, sRet, sExpr, eOwn, eFz, mLst, dats, sNil, sRetN, eqD_int, neD_int, oSom, oNon, eSl, slD, Bool.false_eq_true, Bool.not_true, Bool.not_false, eTup, sPar, eCall, List.length_cons, List.length_nil, sAsg]
omit f2 f3 in
theorem q2_11_sem : q2_11 tP [x0, x1, x2, x3, x4, x5, x6, tpW p0 q0, tpW p1 q1, x9, x10, some (.d (toldD p0 q0 p1 q1)), x12, x13, x14, x15, x16, x17] S = .fl (.nx [x0, x1, x2, x3, x4, x5, x6, tpW p0 q0, tpW p1 q1, x9, x10, some (.d (toldD p0 q0 p1 q1)), x12, x13, x14, x15, x16, x17]) S := by
  by_cases h : p1 = 0
  · subst h
    have h0 : (!((0 : Int) == 0)) = false := rfl
    have al := alike_sem (d := toldD p0 q0 0 q1) (S := S) rfl (by simp [toldD, wgt, wgts])
    simp only [toldD, if_true] at al
    simp only [q2_11, toldD, at2_0, at2_1, h0, li2, al, tp, sSeq, sIf, tCmpB, tChB, tTru, tAndB, tOrB, tNotB, eAnd, eOr, eNot, truW, truD, eBin, eCh, eIf, eVar, eC, Rs.bind, op2, bool2, view, List.getElem?_cons_zero, List.getElem?_cons_succ, ixD, at_0, at_1, at_2, at_3, gtD, ltD, leD, geD, decide_true, decide_false, bindS, seqR, sSet, eB, lCons, lNil, opN, views, Option.map, Option.some.injEq, intG, absG, lenG, modD, addD, subD, iaddD, if_true, if_false, reduceIte, call1, call2, lo0, lo1, lo2, lo3, lo4, lo5, List.set, sPut, sAugI, sAug, frzW, eFrz, ownL, ixSet4, sRet, sExpr, eOwn, eFz, mLst, dats, sNil, sRetN, eqD_int, neD_int, oSom, oNon, eSl, slD, Bool.false_eq_true, Bool.not_true, Bool.not_false, eTup, sPar, eCall, List.length_cons, List.length_nil, sAsg]
  · have h0 : (!(p1 == 0)) = true := by simpa using h
    have e := lfraction_sem (S := S) (a := p0 * q1) (b := q0 * p1) (Int.mul_ne_zero f0.qne h) (sq_small f0.q2 f1.p2)
    have m1 := mulOk_200 f0.p2 f1.q2
    have m2 := mulOk_200 f0.q2 f1.p2
    have al := alike_sem (d := toldD p0 q0 p1 q1) (S := S) (by unfold toldD; rw [if_neg h]; rfl) (by unfold toldD; rw [if_neg h]; simp [frD, wgt, wgts])
    simp only [toldD, h, if_false] at al
    simp only [q2_11, toldD, h, at2_0, at2_1, h0, li2, al, mulD, m1, m2, e, tp, sSeq, sIf, tCmpB, tChB, tTru, tAndB, tOrB, tNotB, eAnd, eOr, eNot, truW, truD, eBin, eCh, eIf, eVar, eC, Rs.bind, op2, bool2, view, List.getElem?_cons_zero, List.getElem?_cons_succ, ixD, at_0, at_1, at_2, at_3, gtD, ltD, leD, geD, decide_true, decide_false, bindS, seqR, sSet, eB, lCons, lNil, opN, views, Option.map, Option.some.injEq, intG, absG, lenG, modD, addD, subD, iaddD, if_true, if_false, reduceIte, call1, call2, lo0, lo1, lo2, lo3, lo4, lo5, List.set, sPut, sAugI, sAug, frzW, eFrz, ownL, ixSet4, sRet, sExpr, eOwn, eFz, mLst, dats, sNil, sRetN, eqD_int, neD_int, oSom, oNon, eSl, slD, Bool.false_eq_true, Bool.not_true, Bool.not_false, eTup, sPar, eCall, List.length_cons, List.length_nil, sAsg]
omit f0 f1 f2 f3 in
theorem q2_12_sem (ht : hasTab S tP lamQ = true) : q2_12 tP [x0, x1, x2, x3, nsD n0 n1 n2 n3, x5, x6, x7, x8, x9, x10, x11, x12, x13, x14, x15, x16, x17] S = .fl (.nx [x0, x1, x2, x3, nsD n0 n1 n2 n3, x5, x6, x7, x8, x9, x10, x11, x12, x13, x14, x15, x16, x17]) S := by
  have e := fraction_zero (S := S) (a := n2)
  have hn := ne_self2 (PySem.Str.ofString "refused") (PySem.Str.ofString "zero")
  have hl : (eLam tP lamQ tt__law_refused (eCall 2 f_fraction (lCons (eBin ixD (eVar 4) (eC (.int 2))) (lCons (eC (.int 0)) lNil)))) [x0, x1, x2, x3, nsD n0 n1 n2 n3, x5, x6, x7, x8, x9, x10, x11, x12, x13, x14, x15, x16, x17] S = .ok (.d (.tuple [.str (PySem.Str.ofString "refused"), .str (PySem.Str.ofString "zero")])) S := by
    simp only [eLam, ht, e, tt__law_refused, tt1, List.lookup, beq_self_eq_true, sSeq, sIf, tCmpB, tChB, tTru, tAndB, tOrB, tNotB, eAnd, eOr, eNot, truW, truD, eBin, eCh, eIf, eVar, eC, Rs.bind, op2, bool2, view, List.getElem?_cons_zero, List.getElem?_cons_succ, ixD, at_0, at_1, at_2, at_3, gtD, ltD, leD, geD, decide_true, decide_false, bindS, seqR, sSet, eB, lCons, lNil, opN, views, Option.map, Option.some.injEq, intG, absG, lenG, modD, addD, subD, iaddD, if_true, if_false, reduceIte, call1, call2, lo0, lo1, lo2, lo3, lo4, lo5, List.set, sPut, sAugI, sAug, frzW, eFrz, ownL, ixSet4, sRet, sExpr, eOwn, eFz, mLst, dats, sNil, sRetN, eqD_int, neD_int, oSom, oNon, eSl, slD, Bool.false_eq_true, Bool.not_true, Bool.not_false, eTup, sPar, eCall, List.length_cons, List.length_nil, sAsg]
  simp only [q2_12, tCmpB, hl, eTup, lCons, lNil, eC, dats, li2, hn, sSeq, sIf, tCmpB, tChB, tTru, tAndB, tOrB, tNotB, eAnd, eOr, eNot, truW, truD, eBin, eCh, eIf, eVar, eC, Rs.bind, op2, bool2, view, List.getElem?_cons_zero, List.getElem?_cons_succ, ixD, at_0, at_1, at_2, at_3, gtD, ltD, leD, geD, decide_true, decide_false, bindS, seqR, sSet, eB, lCons, lNil, opN, views, Option.map, Option.some.injEq, intG, absG, lenG, modD, addD, subD, iaddD, if_true, if_false, reduceIte, call1, call2, lo0, lo1, lo2, lo3, lo4, lo5, List.set, sPut, sAugI, sAug, frzW, eFrz, ownL, ixSet4, sRet, sExpr, eOwn, eFz, mLst, dats, sNil, sRetN, eqD_int, neD_int, oSom, oNon, eSl, slD, Bool.false_eq_true, Bool.not_true, Bool.not_false, eTup, sPar, eCall, List.length_cons, List.length_nil, sAsg]
end
end DL

set_option Elab.async false
set_option linter.all false
set_option maxRecDepth 100000
set_option maxHeartbeats 4000000
namespace DL
open PySem PySem.Spec PyProof.Rows L2
theorem fdiv_small {p q : Int} (h : p.natAbs ≤ 2 ^ 40) (q0 : 0 < q) : (p.fdiv q).natAbs ≤ 2 ^ 40 ∧ p.fdiv q * q ≤ p ∧ p < (p.fdiv q + 1) * q := by
  rw [Int.fdiv_eq_ediv_of_nonneg _ (by omega)]
  exact ⟨Nat.le_trans (Int.natAbs_ediv_le_natAbs p q) h, Int.ediv_mul_le p (by omega), Int.lt_ediv_add_one_mul_self p q0⟩
section
variable {tP : Addr} {pre rest S : Sto} {n : Nat} {x0 x1 x2 x3 x4 x5 x6 x7 x8 x9 x10 x11 x12 x13 x14 x15 x16 x17 : Option Wv} {n0 n1 n2 n3 u0 u1 u2 u3 p0 p1 p2 p3 q0 q1 q2 q3 : Int}
variable (f0 : Fx n0 u0 p0 q0) (f1 : Fx n1 u1 p1 q1) (f2 : Fx n2 u2 p2 q2) (f3 : Fx n3 u3 p3 q3)
include f0 f1 f2 f3
omit f1 f2 f3 in
theorem q2_13_sem : q2_13 tP [x0, x1, x2, x3, x4, x5, x6, tpW p0 q0, x8, x9, x10, x11, x12, x13, x14, x15, x16, x17] S = .fl (.nx [x0, x1, x2, x3, x4, x5, x6, tpW p0 q0, x8, x9, x10, x11, some (.d (.int (p0.fdiv q0))), x13, x14, x15, x16, x17]) S := by
  have e := floor_sem (S := S) (a := p0) f0.q2 f0.qne
  simp only [q2_13, e, sSeq, sIf, tCmpB, tChB, tTru, tAndB, tOrB, tNotB, eAnd, eOr, eNot, truW, truD, eBin, eCh, eIf, eVar, eC, Rs.bind, op2, bool2, view, List.getElem?_cons_zero, List.getElem?_cons_succ, ixD, at_0, at_1, at_2, at_3, gtD, ltD, leD, geD, decide_true, decide_false, bindS, seqR, sSet, eB, lCons, lNil, opN, views, Option.map, Option.some.injEq, intG, absG, lenG, modD, addD, subD, iaddD, if_true, if_false, reduceIte, call1, call2, lo0, lo1, lo2, lo3, lo4, lo5, List.set, sPut, sAugI, sAug, frzW, eFrz, ownL, ixSet4, sRet, sExpr, eOwn, eFz, mLst, dats, sNil, sRetN, eqD_int, neD_int, oSom, oNon, eSl, slD, Bool.false_eq_true, Bool.not_true, Bool.not_false, eTup, sPar, eCall, List.length_cons, List.length_nil, sAsg]
omit f1 f2 f3 in
theorem q2_14_sem : q2_14 tP [x0, x1, x2, x3, x4, x5, x6, tpW p0 q0, x8, x9, x10, x11, some (.d (.int (p0.fdiv q0))), x13, x14, x15, x16, x17] S = .fl (.nx [x0, x1, x2, x3, x4, x5, x6, tpW p0 q0, x8, x9, x10, x11, some (.d (.int (p0.fdiv q0))), x13, x14, x15, x16, x17]) S := by
  obtain ⟨h1, h2, h3⟩ := fdiv_small f0.p1 f0.qp
  have s2 : (2 : Nat) ^ 41 < 2 ^ 200 := Nat.pow_lt_pow_right (by decide) (by decide)
  have m1 : mulOk (p0.fdiv q0) q0 = true := mulOk_200 (by omega) f0.q2
  have m2 : mulOk (p0.fdiv q0 + 1) q0 = true := mulOk_200 (by omega) f0.q2
  generalize p0.fdiv q0 = k at *
  have i1 : isI (.int k) = true := rfl
  simp only [q2_14, lisint_sem, i1, mulD, m1, m2, h2, h3, at2_0, at2_1, tp, sSeq, sIf, tCmpB, tChB, tTru, tAndB, tOrB, tNotB, eAnd, eOr, eNot, truW, truD, eBin, eCh, eIf, eVar, eC, Rs.bind, op2, bool2, view, List.getElem?_cons_zero, List.getElem?_cons_succ, ixD, at_0, at_1, at_2, at_3, gtD, ltD, leD, geD, decide_true, decide_false, bindS, seqR, sSet, eB, lCons, lNil, opN, views, Option.map, Option.some.injEq, intG, absG, lenG, modD, addD, subD, iaddD, if_true, if_false, reduceIte, call1, call2, lo0, lo1, lo2, lo3, lo4, lo5, List.set, sPut, sAugI, sAug, frzW, eFrz, ownL, ixSet4, sRet, sExpr, eOwn, eFz, mLst, dats, sNil, sRetN, eqD_int, neD_int, oSom, oNon, eSl, slD, Bool.false_eq_true, Bool.not_true, Bool.not_false, eTup, sPar, eCall, List.length_cons, List.length_nil, sAsg]
omit f2 f3 in
theorem q2_15_sem : q2_15 tP [x0, x1, x2, x3, x4, x5, x6, tpW p0 q0, tpW p1 q1, x9, x10, x11, x12, x13, x14, x15, x16, x17] S = .fl (.nx [x0, x1, x2, x3, x4, x5, x6, tpW p0 q0, tpW p1 q1, x9, x10, x11, x12, x13, x14, x15, x16, x17]) S := by
  have e1 := less_sem (S := S) f0.p4 f0.q2 f1.p4 f1.q2 f0.qne
  have e2 := less_sem (S := S) f0.p4 f0.q2 f0.p4 f0.q2 f0.qne
  have e3 := lless_sem (S := S) f0.p4 f0.q2 f1.p4 f1.q2 f0.qne
  rw [decide_eq_false (Int.lt_irrefl _)] at e2
  have al := alike_sem (d := .list [.bool (decide (p0 * q1 < p1 * q0)), .bool false]) (S := S) rfl (by simp [wgt, wgts])
  simp only [q2_15, e1, e2, e3, li2, al, sSeq, sIf, tCmpB, tChB, tTru, tAndB, tOrB, tNotB, eAnd, eOr, eNot, truW, truD, eBin, eCh, eIf, eVar, eC, Rs.bind, op2, bool2, view, List.getElem?_cons_zero, List.getElem?_cons_succ, ixD, at_0, at_1, at_2, at_3, gtD, ltD, leD, geD, decide_true, decide_false, bindS, seqR, sSet, eB, lCons, lNil, opN, views, Option.map, Option.some.injEq, intG, absG, lenG, modD, addD, subD, iaddD, if_true, if_false, reduceIte, call1, call2, lo0, lo1, lo2, lo3, lo4, lo5, List.set, sPut, sAugI, sAug, frzW, eFrz, ownL, ixSet4, sRet, sExpr, eOwn, eFz, mLst, dats, sNil, sRetN, eqD_int, neD_int, oSom, oNon, eSl, slD, Bool.false_eq_true, Bool.not_true, Bool.not_false, eTup, sPar, eCall, List.length_cons, List.length_nil, sAsg]
def mL (p0 q0 p1 q1 p2 q2 p3 q3 : Int) : List (Int × Int) := [(p0, q0), (p1, q1), (p2, q2), (p3, q3)]
def nmL (n0 n1 n2 n3 p0 q0 p1 q1 p2 q2 p3 q3 : Int) : List (Int × Int × Int) := [(n0, p0, q0), (n1, p1, q1), (n2, p2, q2), (n3, p3, q3)]
abbrev wholeD (p0 q0 p1 q1 p2 q2 p3 q3 : Int) : PyData := tp (sumP (mL p0 q0 p1 q1 p2 q2 p3 q3) (0, 1)).1 (sumP (mL p0 q0 p1 q1 p2 q2 p3 q3) (0, 1)).2
theorem nm_ok {m0 m1 m2 m3 : Int} (h0 : m0.natAbs ≤ 2 ^ 40) (h1 : m1.natAbs ≤ 2 ^ 40) (h2 : m2.natAbs ≤ 2 ^ 40) (h3 : m3.natAbs ≤ 2 ^ 40) : ∀ x ∈ nmL m0 m1 m2 m3 p0 q0 p1 q1 p2 q2 p3 q3, 0 < x.2.2 ∧ x.1.natAbs ≤ 2 ^ 41 ∧ x.2.1.natAbs ≤ 2 ^ 41 ∧ x.2.2.natAbs ≤ 2 ^ 41 := fun x hx => by
  have s : (2 : Nat) ^ 40 ≤ 2 ^ 41 := Nat.pow_le_pow_right (by decide) (by decide)
  simp only [nmL, List.mem_cons, List.not_mem_nil, or_false] at hx
  rcases hx with rfl | rfl | rfl | rfl
  · exact ⟨f0.qp, Nat.le_trans h0 s, Nat.le_trans f0.p1 s, f0.q1⟩
  · exact ⟨f1.qp, Nat.le_trans h1 s, Nat.le_trans f1.p1 s, f1.q1⟩
  · exact ⟨f2.qp, Nat.le_trans h2 s, Nat.le_trans f2.p1 s, f2.q1⟩
  · exact ⟨f3.qp, Nat.le_trans h3 s, Nat.le_trans f3.p1 s, f3.q1⟩
theorem m_ok : ∀ x ∈ mL p0 q0 p1 q1 p2 q2 p3 q3, 0 < x.2 ∧ x.1.natAbs ≤ 2 ^ 84 ∧ x.2.natAbs ≤ 2 ^ 41 := fun x hx => by
  have s : (2 : Nat) ^ 40 ≤ 2 ^ 84 := Nat.pow_le_pow_right (by decide) (by decide)
  simp only [mL, List.mem_cons, List.not_mem_nil, or_false] at hx
  rcases hx with rfl | rfl | rfl | rfl
  · exact ⟨f0.qp, Nat.le_trans f0.p1 s, f0.q1⟩
  · exact ⟨f1.qp, Nat.le_trans f1.p1 s, f1.q1⟩
  · exact ⟨f2.qp, Nat.le_trans f2.p1 s, f2.q1⟩
  · exact ⟨f3.qp, Nat.le_trans f3.p1 s, f3.q1⟩
theorem ones_wg : (nmL 1 1 1 1 p0 q0 p1 q1 p2 q2 p3 q3).map wgP = mL p0 q0 p1 q1 p2 q2 p3 q3 := by
  simp only [nmL, mL, List.map_cons, List.map_nil, wgP, Int.one_mul, frP_nf f0.nf, frP_nf f1.nf, frP_nf f2.nf, frP_nf f3.nf]
theorem q2_16_sem : q2_16 tP [x0, x1, x2, x3, x4, x5, msD p0 q0 p1 q1 p2 q2 p3 q3, x7, x8, x9, x10, x11, x12, x13, x14, x15, x16, x17] S = .fl (.nx [x0, x1, x2, x3, x4, x5, msD p0 q0 p1 q1 p2 q2 p3 q3, x7, x8, x9, x10, x11, x12, some (.d (wholeD p0 q0 p1 q1 p2 q2 p3 q3)), x14, x15, x16, x17]) S := by
  have hr : ∀ ρ, mRep (mLst (lCons (eC (.int 1)) lNil)) (eC (.int 4)) ρ S = .ok [.int 1, .int 1, .int 1, .int 1] S := fun _ => rfl
  have e := lweighed_sem (S := S) (l := nmL 1 1 1 1 p0 q0 p1 q1 p2 q2 p3 q3) (x := .list [.int 1, .int 1, .int 1, .int 1]) (y := .list [tp p0 q0, tp p1 q1, tp p2 q2, tp p3 q3]) rfl rfl rfl (nm_ok f0 f1 f2 f3 (by decide) (by decide) (by decide) (by decide)) (by show 4 ≤ 4; decide)
  rw [ones_wg f0 f1 f2 f3] at e
  simp only [q2_16, hr, e, sSeq, sIf, tCmpB, tChB, tTru, tAndB, tOrB, tNotB, eAnd, eOr, eNot, truW, truD, eBin, eCh, eIf, eVar, eC, Rs.bind, op2, bool2, view, List.getElem?_cons_zero, List.getElem?_cons_succ, ixD, at_0, at_1, at_2, at_3, gtD, ltD, leD, geD, decide_true, decide_false, bindS, seqR, sSet, eB, lCons, lNil, opN, views, Option.map, Option.some.injEq, intG, absG, lenG, modD, addD, subD, iaddD, if_true, if_false, reduceIte, call1, call2, lo0, lo1, lo2, lo3, lo4, lo5, List.set, sPut, sAugI, sAug, frzW, eFrz, ownL, ixSet4, sRet, sExpr, eOwn, eFz, mLst, dats, sNil, sRetN, eqD_int, neD_int, oSom, oNon, eSl, slD, Bool.false_eq_true, Bool.not_true, Bool.not_false, eTup, sPar, eCall, List.length_cons, List.length_nil, sAsg]
theorem q2_17_sem : q2_17 tP [x0, x1, x2, x3, nsD n0 n1 n2 n3, x5, msD p0 q0 p1 q1 p2 q2 p3 q3, x7, x8, x9, x10, x11, x12, some (.d (wholeD p0 q0 p1 q1 p2 q2 p3 q3)), x14, x15, x16, x17] S = .fl (.nx [x0, x1, x2, x3, nsD n0 n1 n2 n3, x5, msD p0 q0 p1 q1 p2 q2 p3 q3, x7, x8, x9, x10, x11, x12, some (.d (wholeD p0 q0 p1 q1 p2 q2 p3 q3)), x14, x15, x16, x17]) S := by
  have e1 := total_sem (S := S) (l := mL p0 q0 p1 q1 p2 q2 p3 q3) (arg := .tuple [tp p0 q0, tp p1 q1, tp p2 q2, tp p3 q3]) rfl (m_ok f0 f1 f2 f3) (by show 4 ≤ 4; decide)
  have e2 := total_sem (S := S) (l := []) (arg := .tuple []) rfl (fun _ h => by cases h) (by decide)
  have e3 := weighed_sem (S := S) (l := nmL n0 n1 n2 n3 p0 q0 p1 q1 p2 q2 p3 q3) (x := .tuple [.int n0, .int n1, .int n2, .int n3]) (y := .tuple [tp p0 q0, tp p1 q1, tp p2 q2, tp p3 q3]) rfl rfl rfl (nm_ok f0 f1 f2 f3 f0.n0 f1.n0 f2.n0 f3.n0) (by show 4 ≤ 4; decide)
  have e4 := lweighed_sem (S := S) (l := nmL n0 n1 n2 n3 p0 q0 p1 q1 p2 q2 p3 q3) (x := .list [.int n0, .int n1, .int n2, .int n3]) (y := .list [tp p0 q0, tp p1 q1, tp p2 q2, tp p3 q3]) rfl rfl rfl (nm_ok f0 f1 f2 f3 f0.n0 f1.n0 f2.n0 f3.n0) (by show 4 ≤ 4; decide)
  generalize sumP ((nmL n0 n1 n2 n3 p0 q0 p1 q1 p2 q2 p3 q3).map wgP) (0, 1) = W at *
  have e2 : f_total [.d (.tuple [])] S = .ok (.d (tp 0 1)) S := e2
  generalize hV : sumP (mL p0 q0 p1 q1 p2 q2 p3 q3) (0, 1) = V at *
  have al := alike_sem (d := .list [tp V.1 V.2, tp 0 1, tp W.1 W.2]) (S := S) rfl (by simp [wgt, wgts])
  simp only [tp] at al e1 e2 e3 e4
  simp only [q2_17, tupG, e1, e2, e3, e4, wholeD, hV, tp, al, li0, li2, li3, sSeq, sIf, tCmpB, tChB, tTru, tAndB, tOrB, tNotB, eAnd, eOr, eNot, truW, truD, eBin, eCh, eIf, eVar, eC, Rs.bind, op2, bool2, view, List.getElem?_cons_zero, List.getElem?_cons_succ, ixD, at_0, at_1, at_2, at_3, gtD, ltD, leD, geD, decide_true, decide_false, bindS, seqR, sSet, eB, lCons, lNil, opN, views, Option.map, Option.some.injEq, intG, absG, lenG, modD, addD, subD, iaddD, if_true, if_false, reduceIte, call1, call2, lo0, lo1, lo2, lo3, lo4, lo5, List.set, sPut, sAugI, sAug, frzW, eFrz, ownL, ixSet4, sRet, sExpr, eOwn, eFz, mLst, dats, sNil, sRetN, eqD_int, neD_int, oSom, oNon, eSl, slD, Bool.false_eq_true, Bool.not_true, Bool.not_false, eTup, sPar, eCall, List.length_cons, List.length_nil, sAsg]
end
end DL

set_option Elab.async false
set_option linter.all false
set_option maxRecDepth 100000
set_option maxHeartbeats 4000000
namespace DL
open PySem PySem.Spec PyProof.Rows L2
section
variable {tP : Addr} {pre rest S : Sto} {n : Nat} {x0 x1 x2 x3 x4 x5 x6 x7 x8 x9 x10 x11 x12 x13 x14 x15 x16 x17 : Option Wv} {n0 n1 n2 n3 u0 u1 u2 u3 p0 p1 p2 p3 q0 q1 q2 q3 : Int}
variable (f0 : Fx n0 u0 p0 q0) (f1 : Fx n1 u1 p1 q1) (f2 : Fx n2 u2 p2 q2) (f3 : Fx n3 u3 p3 q3)
noncomputable def thB : SF := (sIf (tNotB (tTru (eCall 2 f__law_alike (lCons (eCall 1 f_is_fraction (lCons (eVar 14) lNil)) (lCons (eCall 1 f__law_is_fraction (lCons (eVar 14) lNil)) lNil))))) (sRet (eC (.bool false))) sNil)
theorem thB_sem {x : PyData} (h : Gd x) : thB [x0, x1, x2, x3, x4, x5, x6, x7, x8, x9, x10, x11, x12, x13, some (.d x), x15, x16, x17] S = .fl (.nx [x0, x1, x2, x3, x4, x5, x6, x7, x8, x9, x10, x11, x12, x13, some (.d x), x15, x16, x17]) S := by
  obtain ⟨b, e1, e2⟩ := h S
  have al := alike_sem (d := .bool b) (S := S) rfl (by simp [wgt])
  simp only [thB, e1, e2, al, sSeq, sIf, tCmpB, tChB, tTru, tAndB, tOrB, tNotB, eAnd, eOr, eNot, truW, truD, eBin, eCh, eIf, eVar, eC, Rs.bind, op2, bool2, view, List.getElem?_cons_zero, List.getElem?_cons_succ, ixD, at_0, at_1, at_2, at_3, gtD, ltD, leD, geD, decide_true, decide_false, bindS, seqR, sSet, eB, lCons, lNil, opN, views, Option.map, Option.some.injEq, intG, absG, lenG, modD, addD, subD, iaddD, if_true, if_false, reduceIte, call1, call2, lo0, lo1, lo2, lo3, lo4, lo5, List.set, sPut, sAugI, sAug, frzW, eFrz, ownL, ixSet4, sRet, sExpr, eOwn, eFz, mLst, dats, sNil, sRetN, eqD_int, neD_int, oSom, oNon, eSl, slD, Bool.false_eq_true, Bool.not_true, Bool.not_false, eTup, sPar, eCall, List.length_cons, List.length_nil, sAsg]
def thL (n0 u0 p0 q0 p1 q1 p2 q2 p3 q3 : Int) (o : PyData) : List PyData := [tp p0 q0, tp p1 q1, tp p2 q2, tp p3 q3, tp n0 u0, tp 2 4, tp 0 3, tp 1 0, tp 1 (-2), .tuple [.bool true, .int 2], .list [.int 1, .int 2], .tuple [.int 1, .int 2, .int 3], o]
include f0 f1 f2 f3 in
theorem thL_ok {o : PyData} (h : Gd o) : ∀ x ∈ thL n0 u0 p0 q0 p1 q1 p2 q2 p3 q3 o, Gd x := fun x hx => by
  simp only [thL, List.mem_cons, List.not_mem_nil, or_false] at hx
  rcases hx with e | e | e | e | e | e | e | e | e | e | e | e | e <;> subst e
  · exact gd_int f0.q4
  · exact gd_int f1.q4
  · exact gd_int f2.q4
  · exact gd_int f3.q4
  · exact gd_int (up_small f0.u2)
  · exact gd_int (by decide)
  · exact gd_int (by decide)
  · exact gd_int (by decide)
  · exact gd_int (by decide)
  · exact gd_first rfl
  · exact gd_kind rfl
  · exact gd_len (by simp)
  · exact h
theorem h13 : 0 + 1 + 1 + 1 + 1 + (0 + 1 + 1 + 1 + 1 + 1 + 1 + 1 + 1 + 1) ≤ sizeLine := by show 13 ≤ sizeLine; decide
theorem q2_18_eq : q2_18 tP = sFor (iVal (eBin addD (eVar 6) (eFz (mLst (lCons (eTup (lCons (eBin ixD (eVar 4) (eC (.int 0))) (lCons (eBin ixD (eVar 5) (eC (.int 0))) lNil))) (lCons (eTup (lCons (eC (.int 2)) (lCons (eC (.int 4)) lNil))) (lCons (eTup (lCons (eC (.int 0)) (lCons (eC (.int 3)) lNil))) (lCons (eTup (lCons (eC (.int 1)) (lCons (eC (.int 0)) lNil))) (lCons (eTup (lCons (eC (.int 1)) (lCons (eB negG (lCons (eC (.int 2)) lNil)) lNil))) (lCons (eTup (lCons (eC (.bool true)) (lCons (eC (.int 2)) lNil))) (lCons (eFz (mLst (lCons (eC (.int 1)) (lCons (eC (.int 2)) lNil)))) (lCons (eTup (lCons (eC (.int 1)) (lCons (eC (.int 2)) (lCons (eC (.int 3)) lNil)))) (lCons (eCall 1 f__law_odd (lCons (eVar 1) lNil)) lNil))))))))))))) (gNm 14) thB := rfl
include f0 f1 f2 f3 in
theorem q2_18_sem (hB : Bag pre (n + 1) rest S) : ∃ y S', q2_18 tP [x0, some (.own pre.length), x2, x3, nsD n0 n1 n2 n3, nsD u0 u1 u2 u3, msD p0 q0 p1 q1 p2 q2 p3 q3, x7, x8, x9, x10, x11, x12, x13, x14, x15, x16, x17] S = .fl (.nx [x0, some (.own pre.length), x2, x3, nsD n0 n1 n2 n3, nsD u0 u1 u2 u3, msD p0 q0 p1 q1 p2 q2 p3 q3, x7, x8, x9, x10, x11, x12, x13, y, x15, x16, x17]) S' ∧ Bag pre n rest S' := by
  obtain ⟨o, S', e, ho, hB'⟩ := odd_sem hB
  obtain ⟨ρ', S2, hr, y, e1, e2, _⟩ := for_inv (t := gNm 14) (b := thB) (I := fun L ρ S1 => ∃ y, ρ = [x0, some (.own pre.length), x2, x3, nsD n0 n1 n2 n3, nsD u0 u1 u2 u3, msD p0 q0 p1 q1 p2 q2 p3 q3, x7, x8, x9, x10, x11, x12, x13, y, x15, x16, x17] ∧ S1 = S' ∧ ∀ x ∈ L, Gd x)
    (fun d L ρ S1 ⟨y, e1, e2, h⟩ => by
      subst e1
      subst e2
      exact ⟨_, _, _, rfl, thB_sem (h d (by simp)), _, rfl, rfl, fun x hx => h x (by simp [hx])⟩)
    (thL n0 u0 p0 q0 p1 q1 p2 q2 p3 q3 o) [x0, some (.own pre.length), x2, x3, nsD n0 n1 n2 n3, nsD u0 u1 u2 u3, msD p0 q0 p1 q1 p2 q2 p3 q3, x7, x8, x9, x10, x11, x12, x13, x14, x15, x16, x17] S' ⟨x14, rfl, rfl, thL_ok f0 f1 f2 f3 ho⟩
  subst e1
  subst e2
  refine ⟨y, S2, ?_, hB'⟩
  rw [← hr, q2_18_eq]
  have hi : (iVal (eBin addD (eVar 6) (eFz (mLst (lCons (eTup (lCons (eBin ixD (eVar 4) (eC (.int 0))) (lCons (eBin ixD (eVar 5) (eC (.int 0))) lNil))) (lCons (eTup (lCons (eC (.int 2)) (lCons (eC (.int 4)) lNil))) (lCons (eTup (lCons (eC (.int 0)) (lCons (eC (.int 3)) lNil))) (lCons (eTup (lCons (eC (.int 1)) (lCons (eC (.int 0)) lNil))) (lCons (eTup (lCons (eC (.int 1)) (lCons (eB negG (lCons (eC (.int 2)) lNil)) lNil))) (lCons (eTup (lCons (eC (.bool true)) (lCons (eC (.int 2)) lNil))) (lCons (eFz (mLst (lCons (eC (.int 1)) (lCons (eC (.int 2)) lNil)))) (lCons (eTup (lCons (eC (.int 1)) (lCons (eC (.int 2)) (lCons (eC (.int 3)) lNil)))) (lCons (eCall 1 f__law_odd (lCons (eVar 1) lNil)) lNil))))))))))))) [x0, some (.own pre.length), x2, x3, nsD n0 n1 n2 n3, nsD u0 u1 u2 u3, msD p0 q0 p1 q1 p2 q2 p3 q3, x7, x8, x9, x10, x11, x12, x13, x14, x15, x16, x17] S = .ok (thL n0 u0 p0 q0 p1 q1 p2 q2 p3 q3 o) S2 := by
    simp only [iVal, negG, e, li2, li3, li9, h13, thL, seqD, tp, List.cons_append, List.nil_append, sSeq, sIf, tCmpB, tChB, tTru, tAndB, tOrB, tNotB, eAnd, eOr, eNot, truW, truD, eBin, eCh, eIf, eVar, eC, Rs.bind, op2, bool2, view, List.getElem?_cons_zero, List.getElem?_cons_succ, ixD, at_0, at_1, at_2, at_3, gtD, ltD, leD, geD, decide_true, decide_false, bindS, seqR, sSet, eB, lCons, lNil, opN, views, Option.map, Option.some.injEq, intG, absG, lenG, modD, addD, subD, iaddD, if_true, if_false, reduceIte, call1, call2, lo0, lo1, lo2, lo3, lo4, lo5, List.set, sPut, sAugI, sAug, frzW, eFrz, ownL, ixSet4, sRet, sExpr, eOwn, eFz, mLst, dats, sNil, sRetN, eqD_int, neD_int, oSom, oNon, eSl, slD, Bool.false_eq_true, Bool.not_true, Bool.not_false, eTup, sPar, eCall, List.length_cons, List.length_nil, sAsg]
  unfold sFor
  rw [hi]
  rfl
end
theorem bag_tab {tP : Addr} {n : Nat} {rest S : Sto} (h : Bag [.tab tP lamQ] n rest S) : hasTab S tP lamQ = true := by
  obtain ⟨b0, b1, b2, cs, e, _⟩ := h
  subst e
  simp [hasTab]
section
variable {tP : Addr} {rest S : Sto} {n : Nat} {x0 x1 x2 x3 x4 x5 x6 x7 x8 x9 x10 x11 x12 x13 x14 x15 x16 x17 : Option Wv}
theorem turn_sem (hB : Bag [.tab tP lamQ] (n + 10) rest S) : ∃ y3 y4 y5 y6 y7 y8 y9 y10 y11 y12 y13 y14 S', q2_T tP [x0, some (.own 1), x2, x3, x4, x5, x6, x7, x8, x9, x10, x11, x12, x13, x14, x15, x16, x17] S = .fl (.nx [x0, some (.own 1), x2, y3, y4, y5, y6, y7, y8, y9, y10, y11, y12, y13, y14, x15, x16, x17]) S' ∧ Bag [.tab tP lamQ] n rest S' := by
  obtain ⟨z, S1, e1, z1, z2, hB1⟩ := q2_1_sem (tP := tP) (n := n + 9) (x0 := x0) (x2 := x2) (x3 := x3) (x4 := x4) (x5 := x5) (x6 := x6) (x7 := x7) (x8 := x8) (x9 := x9) (x10 := x10) (x11 := x11) (x12 := x12) (x13 := x13) (x14 := x14) (x15 := x15) (x16 := x16) (x17 := x17) hB
  obtain ⟨n0, n1, n2, n3, S2, e2, ⟨a0, a1, a2, a3⟩, hB2⟩ := q2_2_sem (tP := tP) (n := n + 5) (x0 := x0) (x2 := x2) (x4 := x4) (x5 := x5) (x6 := x6) (x7 := x7) (x8 := x8) (x9 := x9) (x10 := x10) (x11 := x11) (x12 := x12) (x13 := x13) (x14 := x14) (x15 := x15) (x16 := x16) (x17 := x17) z1 z2 hB1
  obtain ⟨u0, u1, u2, u3, S3, e3, ⟨⟨b0, c0⟩, ⟨b1, c1⟩, ⟨b2, c2⟩, b3, c3⟩, hB3⟩ := q2_3_sem (tP := tP) (n := n + 1) (x0 := x0) (x2 := x2) (x4 := nsD n0 n1 n2 n3) (x5 := x5) (x6 := x6) (x7 := x7) (x8 := x8) (x9 := x9) (x10 := x10) (x11 := x11) (x12 := x12) (x13 := x13) (x14 := x14) (x15 := x15) (x16 := x16) (x17 := x17) z1 z2 hB2
  obtain ⟨p0, q0, f0⟩ := fx_of a0 b0 c0
  obtain ⟨p1, q1, f1⟩ := fx_of a1 b1 c1
  obtain ⟨p2, q2, f2⟩ := fx_of a2 b2 c2
  obtain ⟨p3, q3, f3⟩ := fx_of a3 b3 c3
  have ht := bag_tab hB3
  obtain ⟨y14, S4, e4, hB4⟩ := q2_18_sem (tP := tP) (n := n) (x0 := x0) (x2 := x2) (x3 := some (.d (.int z))) (x7 := tpW p0 q0) (x8 := tpW p1 q1) (x9 := tpW (0 - p1) q1) (x10 := some (.d (dueD p0 q0 p1 q1))) (x11 := some (.d (toldD p0 q0 p1 q1))) (x12 := some (.d (.int (p0.fdiv q0)))) (x13 := some (.d (wholeD p0 q0 p1 q1 p2 q2 p3 q3))) (x14 := x14) (x15 := x15) (x16 := x16) (x17 := x17) f0 f1 f2 f3 hB3
  have l1 : ([MO.tab tP lamQ] : Sto).length = 1 := rfl
  rw [l1] at e1 e2 e3 e4
  refine ⟨some (.d (.int z)), nsD n0 n1 n2 n3, nsD u0 u1 u2 u3, msD p0 q0 p1 q1 p2 q2 p3 q3, tpW p0 q0, tpW p1 q1, tpW (0 - p1) q1, some (.d (dueD p0 q0 p1 q1)), some (.d (toldD p0 q0 p1 q1)), some (.d (.int (p0.fdiv q0))), some (.d (wholeD p0 q0 p1 q1 p2 q2 p3 q3)), y14, S4, ?_, hB4⟩
  unfold q2_T
  rw [seq_nx e1, seq_nx e2, seq_nx e3, seq_nx (q2_4_sem f0 f1 f2 f3), seq_nx q2_5_sem, seq_nx (q2_6_sem f0), seq_nx q2_7_sem, seq_nx (q2_8_sem f0 f1), seq_nx (q2_9_sem f0 f1), seq_nx (q2_10_sem f0 f1 ht), seq_nx (q2_11_sem f0 f1), seq_nx (q2_12_sem ht), seq_nx (q2_13_sem f0), seq_nx (q2_14_sem f0), seq_nx (q2_15_sem f0 f1), seq_nx (q2_16_sem f0 f1 f2 f3), seq_nx (q2_17_sem f0 f1 f2 f3), e4]
end
theorem law_true {tP : Addr} : ∀ ns : List Int, ns.length ≤ 63 → (∀ z ∈ ns, Builtin.Int.intBits z ≤ 1048576) → f_law tP [.d (.list (ns.map PyData.int))] [.tab tP lamQ] = .ok (.d (.bool true)) [.tab tP lamQ] := by
  intro ns _ _
  obtain ⟨S0, e0, hB0⟩ := bag_sem [.tab tP lamQ] ns
  have key : ∃ S', b_law tP [some (.d (.list (ns.map PyData.int))), none, none, none, none, none, none, none, none, none, none, none, none, none, none, none, none, none] [.tab tP lamQ] = .fl (.rt (.d (.bool true))) S' ∧ S'.take 1 = [.tab tP lamQ] := by
    rw [q_eq]
    have e1 : q1 tP [some (.d (.list (ns.map PyData.int))), none, none, none, none, none, none, none, none, none, none, none, none, none, none, none, none, none] [.tab tP lamQ] = .fl (.nx [some (.d (.list (ns.map PyData.int))), some (.own 1), none, none, none, none, none, none, none, none, none, none, none, none, none, none, none, none]) S0 := by
      simp only [q1, e0, sSeq, sIf, tCmpB, tChB, tTru, tAndB, tOrB, tNotB, eAnd, eOr, eNot, truW, truD, eBin, eCh, eIf, eVar, eC, Rs.bind, op2, bool2, view, List.getElem?_cons_zero, List.getElem?_cons_succ, ixD, at_0, at_1, at_2, at_3, gtD, ltD, leD, geD, decide_true, decide_false, bindS, seqR, sSet, eB, lCons, lNil, opN, views, Option.map, Option.some.injEq, absG, lenG, modD, addD, subD, iaddD, if_true, if_false, reduceIte, call1, call2, lo0, lo1, lo2, lo3, lo4, lo5, List.set, sPut, sAugI, sAug, frzW, eFrz, ownL, ixSet4, sRet, sExpr, eOwn, eFz, mLst, dats, sNil, sRetN, eqD_int, neD_int, oSom, oNon, eSl, slD, Bool.false_eq_true, Bool.not_true, Bool.not_false, eTup, sPar, eCall, sAsg]
      rfl
    rw [seq_nx e1]
    obtain ⟨ρ', S', e, z2, z3, z4, z5, z6, z7, z8, z9, z10, z11, z12, z13, z14, e2, hB'⟩ := for_inv (t := gNm 2) (b := q2_T tP) (I := fun L ρ S1 => ∃ z2 z3 z4 z5 z6 z7 z8 z9 z10 z11 z12 z13 z14, ρ = [some (.d (.list (ns.map PyData.int))), some (.own 1), z2, z3, z4, z5, z6, z7, z8, z9, z10, z11, z12, z13, z14, none, none, none] ∧ Bag [.tab tP lamQ] (10 * L.length) [] S1)
      (fun d L ρ S1 ⟨z2, z3, z4, z5, z6, z7, z8, z9, z10, z11, z12, z13, z14, e1, h⟩ => by
        subst e1
        obtain ⟨y3, y4, y5, y6, y7, y8, y9, y10, y11, y12, y13, y14, S2, e, h2⟩ := turn_sem (S := S1) (n := 10 * L.length) (x0 := some (.d (.list (ns.map PyData.int)))) (x2 := some (.d d)) (x3 := z3) (x4 := z4) (x5 := z5) (x6 := z6) (x7 := z7) (x8 := z8) (x9 := z9) (x10 := z10) (x11 := z11) (x12 := z12) (x13 := z13) (x14 := z14) (x15 := none) (x16 := none) (x17 := none) (h.mono (by rw [List.length_cons]; omega))
        exact ⟨_, _, S2, rfl, e, _, y3, y4, y5, y6, y7, y8, y9, y10, y11, y12, y13, y14, rfl, h2⟩) (rangeD 0 12) [some (.d (.list (ns.map PyData.int))), some (.own 1), none, none, none, none, none, none, none, none, none, none, none, none, none, none, none, none] S0 ⟨none, none, none, none, none, none, none, none, none, none, none, none, none, rfl, hB0.mono (by simp [rangeD])⟩
    have hi := ir_gen (f := (lCons (eC (.int 12)) lNil)) (ρ := [some (.d (.list (ns.map PyData.int))), some (.own 1), none, none, none, none, none, none, none, none, none, none, none, none, none, none, none, none]) (S0 := S0) (S := S0) (i := 12) (k := 12) (by decide) (by decide) (by decide) rfl
    have e3 : q2 tP [some (.d (.list (ns.map PyData.int))), some (.own 1), none, none, none, none, none, none, none, none, none, none, none, none, none, none, none, none] S0 = .fl (.nx ρ') S' := by
      unfold q2 sFor
      rw [hi]
      simp only [bindS]
      exact e
    refine ⟨S', ?_, ?_⟩
    · rw [seq_nx e3, e2]
      simp only [q3, sSeq, sIf, tCmpB, tChB, tTru, tAndB, tOrB, tNotB, eAnd, eOr, eNot, truW, truD, eBin, eCh, eIf, eVar, eC, Rs.bind, op2, bool2, view, List.getElem?_cons_zero, List.getElem?_cons_succ, ixD, at_0, at_1, at_2, at_3, gtD, ltD, leD, geD, decide_true, decide_false, bindS, seqR, sSet, eB, lCons, lNil, opN, views, Option.map, Option.some.injEq, absG, lenG, modD, addD, subD, iaddD, if_true, if_false, reduceIte, call1, call2, lo0, lo1, lo2, lo3, lo4, lo5, List.set, sPut, sAugI, sAug, frzW, eFrz, ownL, ixSet4, sRet, sExpr, eOwn, eFz, mLst, dats, sNil, sRetN, eqD_int, neD_int, oSom, oNon, eSl, slD, Bool.false_eq_true, Bool.not_true, Bool.not_false, eTup, sPar, eCall, sAsg]
    · obtain ⟨b0, b1, b2, cs, e, _⟩ := hB'
      subst e
      rfl
  obtain ⟨S', e, ht⟩ := key
  have := run_ret (nn := 18) (ar := 1) (ws := [.d (.list (ns.map PyData.int))]) e
  show runDef 18 1 (b_law tP) _ _ = _
  rw [this]
  show Rs.ok _ (S'.take 1) = _
  rw [ht]
end DL

set_option Elab.async false
set_option linter.all false
set_option maxRecDepth 100000
set_option maxHeartbeats 4000000
open PySem PySem.W PyProof.Rows
set_option maxRecDepth 100000 in
set_option maxHeartbeats 0 in
theorem PySem.Challenge.cw_basketfair_k35_fractions_holds : PySem.Challenge.rw_basketfair_k35_fractions.Holds := by
  w_on; o_law; k_head; (case hw => w_witness2)
  k_fill
  refine' DL.walkDT (l := PySem.Challenge.rw_basketfair_k35_fractions) (k := 7) rfl rfl ⟨rfl, by decide, by decide⟩ (fun w h Y => PySem.W.km_in_of Y) ?rec ?tab ?no ?F
  (case rec => rfl)
  (case tab => intro w; first | k_is | rfl)
  (case no => intro w; first | kernel_rfl | rfl)
  case F =>
    intro w mg fa h KX G hmg
    refine' DL.all_mk KX G hmg DL.law_true ?xa_Refused ?xb_Refused ?xc_Refused ?xd_Refused ?xe_Refused ?xf_Refused ?xg_Refused ?xh_Refused ?xi_Refused ?xj_Refused ?xk_Refused ?xl_Refused ?xm_Refused ?xn_Refused ?xo_Refused ?xp_Refused ?xq_Refused ?xr_Refused ?xs_Refused ?xtwhy_Refused ?xu_Refused ?xv_Refused ?z_abs ?z_all ?z_bool ?z_int ?z_isinstance ?z_len ?z_list ?z_range ?z_str ?z_tuple ?z_zip ?v_ZERO ?w_ZERO ?a_is_integer ?l_is_integer ?c_is_integer ?k_is_integer ?a_divisor ?l_divisor ?c_divisor ?k_divisor ?a_fraction ?l_fraction ?c_fraction ?k_fraction ?a_is_fraction ?l_is_fraction ?c_is_fraction ?k_is_fraction ?a_whole ?l_whole ?c_whole ?k_whole ?a_plus ?l_plus ?c_plus ?k_plus ?a_minus ?l_minus ?c_minus ?k_minus ?a_multiplied ?l_multiplied ?c_multiplied ?k_multiplied ?a_ratio ?l_ratio ?c_ratio ?k_ratio ?a_is_less ?l_is_less ?c_is_less ?k_is_less ?a_floor_of ?l_floor_of ?c_floor_of ?k_floor_of ?a_total ?l_total ?c_total ?k_total ?a_weighed ?l_weighed ?c_weighed ?k_weighed ?a__law_bag ?l__law_bag ?c__law_bag ?k__law_bag ?a__law_take ?l__law_take ?c__law_take ?k__law_take ?a__law_some ?l__law_some ?c__law_some ?k__law_some ?a__law_alike ?l__law_alike ?c__law_alike ?k__law_alike ?a__law_is_int ?l__law_is_int ?c__law_is_int ?k__law_is_int ?a__law_common ?l__law_common ?c__law_common ?k__law_common ?a__law_fraction ?l__law_fraction ?c__law_fraction ?k__law_fraction ?a__law_fraction_plus ?l__law_fraction_plus ?c__law_fraction_plus ?k__law_fraction_plus ?a__law_fraction_times ?l__law_fraction_times ?c__law_fraction_times ?k__law_fraction_times ?a__law_is_fraction_less ?l__law_is_fraction_less ?c__law_is_fraction_less ?k__law_is_fraction_less ?a__law_weighed ?l__law_weighed ?c__law_weighed ?k__law_weighed ?a__law_is_fraction ?l__law_is_fraction ?c__law_is_fraction ?k__law_is_fraction ?a__law_odd ?l__law_odd ?c__law_odd ?k__law_odd ?a_law ?l_law ?c_law ?k_law ?a__law_refused ?l__law_refused ?c__law_refused ?k__law_refused
    (case xa_Refused => k_is)
    (case xb_Refused => k_is)
    (case xc_Refused => first | k_is | kernel_rfl | rfl | decide +kernel)
    (case xd_Refused => k_is)
    (case xe_Refused => k_is)
    (case xf_Refused => k_is)
    (case xg_Refused => k_is)
    (case xh_Refused => k_is)
    (case xi_Refused => k_is)
    (case xj_Refused => k_is)
    (case xk_Refused => k_is)
    (case xl_Refused => first | k_is | kernel_rfl | rfl | decide +kernel)
    (case xm_Refused => k_is)
    (case xn_Refused => first | k_is | kernel_rfl | rfl | decide +kernel)
    (case xo_Refused => k_is)
    (case xp_Refused => k_is)
    (case xq_Refused => first | k_is | kernel_rfl | rfl | decide +kernel)
    (case xr_Refused => k_is)
    (case xs_Refused => k_is)
    (case xtwhy_Refused => k_is)
    (case xu_Refused => first | k_is | kernel_rfl | rfl | decide +kernel)
    (case xv_Refused => first | k_is | kernel_rfl | rfl | decide +kernel)
    (case z_abs => k_is)
    (case z_all => k_is)
    (case z_bool => k_is)
    (case z_int => k_is)
    (case z_isinstance => k_is)
    (case z_len => k_is)
    (case z_list => k_is)
    (case z_range => k_is)
    (case z_str => k_is)
    (case z_tuple => k_is)
    (case z_zip => k_is)
    (case v_ZERO => k_is)
    (case w_ZERO => k_is)
    (case a_is_integer => k_is)
    (case l_is_integer => k_is)
    (case c_is_integer => k_is)
    (case k_is_integer => k_is)
    (case a_divisor => k_is)
    (case l_divisor => k_is)
    (case c_divisor => k_is)
    (case k_divisor => k_is)
    (case a_fraction => k_is)
    (case l_fraction => k_is)
    (case c_fraction => k_is)
    (case k_fraction => k_is)
    (case a_is_fraction => k_is)
    (case l_is_fraction => k_is)
    (case c_is_fraction => k_is)
    (case k_is_fraction => k_is)
    (case a_whole => k_is)
    (case l_whole => k_is)
    (case c_whole => k_is)
    (case k_whole => k_is)
    (case a_plus => k_is)
    (case l_plus => k_is)
    (case c_plus => k_is)
    (case k_plus => k_is)
    (case a_minus => k_is)
    (case l_minus => k_is)
    (case c_minus => k_is)
    (case k_minus => k_is)
    (case a_multiplied => k_is)
    (case l_multiplied => k_is)
    (case c_multiplied => k_is)
    (case k_multiplied => k_is)
    (case a_ratio => k_is)
    (case l_ratio => k_is)
    (case c_ratio => k_is)
    (case k_ratio => k_is)
    (case a_is_less => k_is)
    (case l_is_less => k_is)
    (case c_is_less => k_is)
    (case k_is_less => k_is)
    (case a_floor_of => k_is)
    (case l_floor_of => k_is)
    (case c_floor_of => k_is)
    (case k_floor_of => k_is)
    (case a_total => k_is)
    (case l_total => k_is)
    (case c_total => k_is)
    (case k_total => k_is)
    (case a_weighed => k_is)
    (case l_weighed => k_is)
    (case c_weighed => k_is)
    (case k_weighed => k_is)
    (case a__law_bag => k_is)
    (case l__law_bag => k_is)
    (case c__law_bag => k_is)
    (case k__law_bag => k_is)
    (case a__law_take => k_is)
    (case l__law_take => k_is)
    (case c__law_take => k_is)
    (case k__law_take => k_is)
    (case a__law_some => k_is)
    (case l__law_some => k_is)
    (case c__law_some => k_is)
    (case k__law_some => k_is)
    (case a__law_alike => k_is)
    (case l__law_alike => k_is)
    (case c__law_alike => k_is)
    (case k__law_alike => k_is)
    (case a__law_is_int => k_is)
    (case l__law_is_int => k_is)
    (case c__law_is_int => k_is)
    (case k__law_is_int => k_is)
    (case a__law_common => k_is)
    (case l__law_common => k_is)
    (case c__law_common => k_is)
    (case k__law_common => k_is)
    (case a__law_fraction => k_is)
    (case l__law_fraction => k_is)
    (case c__law_fraction => k_is)
    (case k__law_fraction => k_is)
    (case a__law_fraction_plus => k_is)
    (case l__law_fraction_plus => k_is)
    (case c__law_fraction_plus => k_is)
    (case k__law_fraction_plus => k_is)
    (case a__law_fraction_times => k_is)
    (case l__law_fraction_times => k_is)
    (case c__law_fraction_times => k_is)
    (case k__law_fraction_times => k_is)
    (case a__law_is_fraction_less => k_is)
    (case l__law_is_fraction_less => k_is)
    (case c__law_is_fraction_less => k_is)
    (case k__law_is_fraction_less => k_is)
    (case a__law_weighed => k_is)
    (case l__law_weighed => k_is)
    (case c__law_weighed => k_is)
    (case k__law_weighed => k_is)
    (case a__law_is_fraction => k_is)
    (case l__law_is_fraction => k_is)
    (case c__law_is_fraction => k_is)
    (case k__law_is_fraction => k_is)
    (case a__law_odd => k_is)
    (case l__law_odd => k_is)
    (case c__law_odd => k_is)
    (case k__law_odd => k_is)
    (case a_law => k_is)
    (case l_law => k_is)
    (case c_law => k_is)
    (case k_law => k_is)
    (case a__law_refused => k_is)
    (case l__law_refused => k_is)
    (case c__law_refused => k_is)
    (case k__law_refused => k_is)

