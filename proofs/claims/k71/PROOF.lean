import PyProof.Rows.All
import Wide.All
import OpenK.AllK
import Wide.FinOn
import PyProof.EqAt
import PyProof.EqKinds
import PyProof.TupleCall
import HandS.ForMost
import HandS.ForExc
import HandS.Flow
import HandS.IsInst
import HandS.Wide
import HandS.TupAny
import HandS.Zip
import KE.GoesEnum
import KE.KDictZip
import PyProof.EnumMake
import PyProof.ListNew
import HandS.Text
import PyProof.CollectWalk
import PyProof.Rows.FactsT1
import HandS.Dict
import HandS.Star
import HandS.Replace
import PyProof.ListStr
import HandS.RaiseMore
import HandS.Ends
import HandS.EndBits
import HandS.Codes
import PySem.Challenge.RW_basketfair_k71_frames_and_texts_of_entri
set_option Elab.async false
set_option linter.all false
set_option maxRecDepth 100000
set_option maxHeartbeats 4000000
/-! D1: data, stores, results; what represents what; frames of heaps. -/
namespace DL
open PySem PySem.Spec PyProof.Rows L2

/-- what stays as it is whatever is done: tuples, things that are locked -/
def Imm : HO → Prop
  | .tup _ => True
  | .frz _ _ => True
  | _ => False
def Stb (H H' : Hp) : Prop := ∀ a o, Imm o → H a = some o → H' a = some o
theorem Stb.refl (H : Hp) : Stb H H := fun _ _ _ h => h
theorem Stb.trans {H H1 H2 : Hp} (a : Stb H H1) (b : Stb H1 H2) : Stb H H2 := fun x o i h => b x o i (a x o i h)
def WrL (K : PySem.W.Frag) (a : Addr) (xs : List V) : Prop :=
  ∃ (o : Obj) (its : Array Value) (n : Nat), K.lookup a = some o ∧ o.cls = .type "list" ∧ o.dict = none ∧ o.data = .seq its n ∧ its.size ≤ sizeLine ∧ Vals xs its.toList
def FzL (K : PySem.W.Frag) (H : Hp) (a : Addr) (xs : List V) : Prop := (∃ o, H a = some (.frz o (.lst xs))) ∨ WrL K a xs
theorem FzL.sq {K : PySem.W.Frag} {H : Hp} {a : Addr} {xs : List V} (h : FzL K H a xs) : SqL K H a xs := by
  rcases h with ⟨o, h⟩ | h
  · exact .inl (.inr ⟨o, h⟩)
  · exact .inr h
theorem FzL.stb {K : PySem.W.Frag} {H H' : Hp} {a : Addr} {xs : List V} (s : Stb H H') (h : FzL K H a xs) : FzL K H' a xs := by
  rcases h with ⟨o, h⟩ | h
  · exact .inl ⟨o, s _ _ trivial h⟩
  · exact .inr h
theorem sqT_stb {K : PySem.W.Frag} {H H' : Hp} {a : Addr} {xs : List V} (s : Stb H H') (h : SqT K H a xs) : SqT K H' a xs := by
  rcases h with (h | ⟨o, h⟩) | h
  · exact .inl (.inl (s _ _ trivial h))
  · exact .inl (.inr ⟨o, s _ _ trivial h⟩)
  · exact .inr h

def kD : Key → PyData
  | .inl i => .int i
  | .inr x => .str x
/-- a text of the model: not too long, of signs that are -/
def strG (x : Str) : Bool := decide (x.length ≤ sizeLine) && PyData.strOk x
theorem strG_len {x : Str} (h : strG x = true) : x.length ≤ sizeLine := of_decide_eq_true (Bool.and_eq_true_iff.mp h).1
theorem strG_ok {x : Str} (h : strG x = true) : PyData.strOk x = true := (Bool.and_eq_true_iff.mp h).2
theorem strG_mk {x : Str} (h : x.length ≤ sizeLine) (h' : PyData.strOk x = true) : strG x = true := Bool.and_eq_true_iff.mpr ⟨decide_eq_true h, h'⟩
mutual
/-- a value stands for data that nobody changes -/
inductive Rep (K : PySem.W.Frag) (H : Hp) : V → PyData → Prop
  | non : Rep K H .non .none
  | bl (b : Bool) : Rep K H (.bl b) (.bool b)
  | int (i : Int) : Rep K H (.int i) (.int i)
  | str (x : Str) : strG x = true → Rep K H (.str x) (.str x)
  | lst {a : Addr} {xs : List V} {ds : List PyData} : FzL K H a xs → Reps K H xs ds → Rep K H (.ref a) (.list ds)
  | tup {a : Addr} {xs : List V} {ds : List PyData} : SqT K H a xs → Reps K H xs ds → Rep K H (.ref a) (.tuple ds)
  | dic {a : Addr} {o : Obj} {kvs : List (Key × V)} {ps : List (PyData × PyData)} : H a = some (.frz o (.dK kvs)) → RepKV K H kvs ps → Rep K H (.ref a) (.dict ps)
inductive Reps (K : PySem.W.Frag) (H : Hp) : List V → List PyData → Prop
  | nil : Reps K H [] []
  | cons {v : V} {vs : List V} {d : PyData} {ds : List PyData} : Rep K H v d → Reps K H vs ds → Reps K H (v :: vs) (d :: ds)
inductive RepKV (K : PySem.W.Frag) (H : Hp) : List (Key × V) → List (PyData × PyData) → Prop
  | nil : RepKV K H [] []
  | cons {k : Key} {v : V} {vs : List (Key × V)} {d : PyData} {ds : List (PyData × PyData)} : Rep K H v d → RepKV K H vs ds → RepKV K H ((k, v) :: vs) ((kD k, d) :: ds)
end
section
variable {K : PySem.W.Frag} {H H' : Hp}
mutual
theorem Rep.stb (s : Stb H H') : ∀ (d : PyData) {v : V}, Rep K H v d → Rep K H' v d
  | .none, _, h => by cases h; exact .non
  | .bool _, _, h => by cases h; exact .bl _
  | .int _, _, h => by cases h; exact .int _
  | .str _, _, h => by
    cases h with
    | str _ z => exact .str _ z
  | .list ds, _, h => by
    cases h with
    | lst h1 h2 => exact .lst (h1.stb s) (Reps.stb s ds h2)
  | .tuple ds, _, h => by
    cases h with
    | tup h1 h2 => exact .tup (sqT_stb s h1) (Reps.stb s ds h2)
  | .dict ds, _, h => by
    cases h with
    | dic h1 h2 => exact .dic (s _ _ trivial h1) (RepKV.stb s ds h2)
theorem Reps.stb (s : Stb H H') : ∀ (ds : List PyData) {vs : List V}, Reps K H vs ds → Reps K H' vs ds
  | [], _, h => by cases h; exact .nil
  | d :: ds, _, h => by
    cases h with
    | cons h1 h2 => exact .cons (Rep.stb s d h1) (Reps.stb s ds h2)
theorem RepKV.stb (s : Stb H H') : ∀ (ds : List (PyData × PyData)) {vs : List (Key × V)}, RepKV K H vs ds → RepKV K H' vs ds
  | [], _, h => by cases h; exact .nil
  | (_, d) :: ds, _, h => by
    cases h with
    | cons h1 h2 => exact .cons (Rep.stb s d h1) (RepKV.stb s ds h2)
end
theorem Reps.length : ∀ {vs : List V} {ds : List PyData}, Reps K H vs ds → vs.length = ds.length
  | [], _, h => by cases h; rfl
  | _ :: vs, _, h => by
    cases h with
    | cons h1 h2 => simp [Reps.length h2]
theorem Reps.get : ∀ {vs : List V} {ds : List PyData} {i : Nat} {d : PyData}, Reps K H vs ds → ds[i]? = some d → ∃ v, vs[i]? = some v ∧ Rep K H v d
  | [], _, i, d, h, e => by cases h; simp at e
  | _ :: vs, _, 0, d, h, e => by
    cases h with
    | cons h1 h2 =>
      simp at e
      subst e
      exact ⟨_, rfl, h1⟩
  | _ :: vs, _, i + 1, d, h, e => by
    cases h with
    | cons h1 h2 =>
      obtain ⟨v, e1, e2⟩ := Reps.get (i := i) (d := d) h2 (by simpa using e)
      exact ⟨v, by simpa using e1, e2⟩
theorem Reps.getV : ∀ {vs : List V} {ds : List PyData} {i : Nat} {v : V}, Reps K H vs ds → vs[i]? = some v → ∃ d, ds[i]? = some d ∧ Rep K H v d
  | [], _, i, d, h, e => by simp at e
  | _ :: vs, _, 0, d, h, e => by
    cases h with
    | cons h1 h2 =>
      simp at e
      subst e
      exact ⟨_, rfl, h1⟩
  | _ :: vs, _, i + 1, d, h, e => by
    cases h with
    | cons h1 h2 =>
      obtain ⟨v, e1, e2⟩ := Reps.getV (i := i) (v := d) h2 (by simpa using e)
      exact ⟨v, by simpa using e1, e2⟩
theorem Reps.append : ∀ {vs us : List V} {ds es : List PyData}, Reps K H vs ds → Reps K H us es → Reps K H (vs ++ us) (ds ++ es)
  | [], _, _, _, h, h' => by cases h; exact h'
  | _ :: vs, _, _, _, h, h' => by
    cases h with
    | cons h1 h2 => exact .cons h1 (Reps.append h2 h')
theorem Reps.take : ∀ {vs : List V} {ds : List PyData} (n : Nat), Reps K H vs ds → Reps K H (vs.take n) (ds.take n)
  | _, _, 0, _ => .nil
  | [], _, _ + 1, h => by cases h; exact .nil
  | _ :: vs, _, n + 1, h => by
    cases h with
    | cons h1 h2 => exact .cons h1 (Reps.take n h2)
theorem Reps.drop : ∀ {vs : List V} {ds : List PyData} (n : Nat), Reps K H vs ds → Reps K H (vs.drop n) (ds.drop n)
  | _, _, 0, h => h
  | [], _, _ + 1, h => by cases h; exact .nil
  | _ :: vs, _, n + 1, h => by
    cases h with
    | cons h1 h2 => exact Reps.drop n h2
theorem Reps.set : ∀ {vs : List V} {ds : List PyData} (n : Nat) {v : V} {d : PyData}, Reps K H vs ds → Rep K H v d → Reps K H (vs.set n v) (ds.set n d)
  | [], _, _, _, _, h, _ => by cases h; exact .nil
  | _ :: vs, _, 0, _, _, h, h' => by
    cases h with
    | cons h1 h2 => exact .cons h' h2
  | _ :: vs, _, n + 1, _, _, h, h' => by
    cases h with
    | cons h1 h2 => exact .cons h1 (Reps.set n h2 h')
theorem Reps.reverse : ∀ {vs : List V} {ds : List PyData}, Reps K H vs ds → Reps K H vs.reverse ds.reverse
  | [], _, h => by cases h; exact .nil
  | _ :: vs, _, h => by
    cases h with
    | cons h1 h2 =>
      rw [List.reverse_cons, List.reverse_cons]
      exact Reps.append (Reps.reverse h2) (.cons h1 .nil)
end

/-- a def's own changing things; a list that was locked -/
inductive MO where
  | lst (l : List PyData) | frz (l : List PyData)
abbrev Sto := List MO
/-- what a name may hold: data, or the k-th of the changing things -/
inductive Wv where
  | d (x : PyData) | own (k : Nat)
abbrev Rho := List (Option Wv)
/-- an error: its class, its fields -/
structure Xc where
  c : Str
  fs : List (Str × PyData)
inductive Rs (α : Type) where
  | bad | ok (a : α) (S : Sto) | exc (x : Xc) (S : Sto)
@[simp] def Rs.bind {α β : Type} (r : Rs α) (k : α → Sto → Rs β) : Rs β := match r with
  | .bad => .bad
  | .ok a S => k a S
  | .exc x S => .exc x S
abbrev EF := Rho → Sto → Rs Wv

def ObR (K : PySem.W.Frag) (H : Hp) (a : Addr) : MO → Prop
  | .lst l => ∃ vs, H a = some (.lst vs) ∧ Reps K H vs l
  | .frz l => ∃ vs o, H a = some (.frz o (.lst vs)) ∧ Reps K H vs l
def RepW (K : PySem.W.Frag) (ad : List Addr) (H : Hp) (v : V) : Wv → Prop
  | .d x => Rep K H v x
  | .own k => ∃ a, ad[k]? = some a ∧ v = .ref a
abbrev RepWs (K : PySem.W.Frag) (ad : List Addr) (H : Hp) : List V → List Wv → Prop := Paired (RepW K ad H)
structure RS (K : PySem.W.Frag) (ad : List Addr) (H : Hp) (S : Sto) : Prop where
  len : ad.length = S.length
  nd : ad.Nodup
  ob : ∀ (k : Nat) (o : MO), S[k]? = some o → ∃ a, ad[k]? = some a ∧ ObR K H a o
structure Sig (K : PySem.W.Frag) (ad : List Addr) (H : Hp) (σ : L2.St) (ρ : Rho) : Prop where
  len : σ.length = ρ.length
  sl : ∀ (i : Nat) (w : Wv), ρ[i]? = some (some w) → ∃ v, σ[i]? = some (some v) ∧ RepW K ad H v w
structure Fr (ad : List Addr) (H : Hp) (ad' : List Addr) (H' : Hp) : Prop where
  ext : ∃ t, ad' = ad ++ t
  keep : ∀ a o, H a = some o → a ∉ ad → H' a = some o
  new : ∀ a, a ∈ ad' → a ∉ ad → H a = none
  stb : Stb H H'
section
variable {K : PySem.W.Frag} {ad ad1 ad2 : List Addr} {H H1 H2 : Hp} {v : V} {w : Wv}
theorem Fr.refl (ad : List Addr) (H : Hp) : Fr ad H ad H := ⟨⟨[], by simp⟩, fun _ _ h _ => h, fun _ h h' => absurd h h', Stb.refl H⟩
theorem Fr.trans (a : Fr ad H ad1 H1) (b : Fr ad1 H1 ad2 H2) : Fr ad H ad2 H2 := by
  have notIn1 : ∀ x o, H x = some o → x ∉ ad → x ∉ ad1 := fun x o h hx hm => by
    have := a.new x hm hx
    rw [h] at this; cases this
  refine ⟨?_, fun x o h hx => b.keep x o (a.keep x o h hx) (notIn1 x o h hx), fun x hm hx => ?_, a.stb.trans b.stb⟩
  · obtain ⟨t, e⟩ := a.ext
    obtain ⟨u, e'⟩ := b.ext
    exact ⟨t ++ u, by rw [e', e, List.append_assoc]⟩
  · by_cases h1 : x ∈ ad1
    · exact a.new x h1 hx
    · have h2 := b.new x hm h1
      cases q : H x with
      | none => rfl
      | some o =>
        have := a.keep x o q hx
        rw [h2] at this; cases this
theorem Fr.at (a : Fr ad H ad1 H1) {k : Nat} {x : Addr} (h : ad[k]? = some x) : ad1[k]? = some x := by
  obtain ⟨t, e⟩ := a.ext
  rw [e, List.getElem?_append_left (List.getElem?_eq_some_iff.mp h).1]
  exact h
theorem RepW.fr (a : Fr ad H ad1 H1) (h : RepW K ad H v w) : RepW K ad1 H1 v w := by
  cases w with
  | d x => exact Rep.stb a.stb x h
  | own k =>
    obtain ⟨x, e, e'⟩ := h
    exact ⟨x, a.at e, e'⟩
theorem RepWs.fr (a : Fr ad H ad1 H1) : ∀ {vs : List V} {ws : List Wv}, RepWs K ad H vs ws → RepWs K ad1 H1 vs ws
  | _, _, .nil => .nil
  | _, _, .cons h t => .cons (RepW.fr a h) (RepWs.fr a t)
theorem Sig.fr {σ : L2.St} {ρ : Rho} (a : Fr ad H ad1 H1) (h : Sig K ad H σ ρ) : Sig K ad1 H1 σ ρ :=
  ⟨h.len, fun i w e => let ⟨v, e1, e2⟩ := h.sl i w e; ⟨v, e1, e2.fr a⟩⟩
/-- all that was tracked stands, new things may have come -/
def Ex (H H' : Hp) : Prop := ∀ a o, H a = some o → H' a = some o
theorem Ex.refl (H : Hp) : Ex H H := fun _ _ h => h
theorem Ex.trans {H H1 H2 : Hp} (a : Ex H H1) (b : Ex H1 H2) : Ex H H2 := fun x o h => b x o (a x o h)
theorem Ex.new {p : Addr} {o : HO} (h : H p = none) : Ex H (upd H p o) := fun a u e => by
  rw [upd_ne (ne_of_none e h)]; exact e
theorem Ex.stb (a : Ex H H1) : Stb H H1 := fun x o _ h => a x o h
theorem Ex.fr (a : Ex H H1) : Fr ad H ad H1 := ⟨⟨[], by simp⟩, fun x o h _ => a x o h, fun _ h h' => absurd h h', a.stb⟩
theorem ObR.ex {a : Addr} {o : MO} (e : Ex H H1) (h : ObR K H a o) : ObR K H1 a o := by
  cases o with
  | lst l =>
    obtain ⟨vs, h1, h2⟩ := h
    exact ⟨vs, e _ _ h1, Reps.stb e.stb l h2⟩
  | frz l =>
    obtain ⟨vs, q, h1, h2⟩ := h
    exact ⟨vs, q, e _ _ h1, Reps.stb e.stb l h2⟩
theorem ObR.here {a : Addr} {o : MO} (h : ObR K H a o) : ∃ u, H a = some u := by
  cases o with
  | lst l => exact ⟨_, h.choose_spec.1⟩
  | frz l => exact ⟨_, h.choose_spec.choose_spec.1⟩
theorem RS.here {S : Sto} (h : RS K ad H S) {p : Addr} (hp : p ∈ ad) : ∃ u, H p = some u := by
  obtain ⟨k, hk, e⟩ := List.mem_iff_getElem.mp hp
  have hk' : k < S.length := by rw [← h.len]; exact hk
  obtain ⟨a, e1, e2⟩ := h.ob k S[k] (by simp [hk'])
  have : a = p := by
    rw [List.getElem?_eq_getElem hk] at e1
    rw [← Option.some.inj e1]; exact e
  subst this
  exact e2.here
theorem RS.ex {S : Sto} (e : Ex H H1) (h : RS K ad H S) : RS K ad H1 S := ⟨h.len, h.nd, fun k o q => let ⟨a, e1, e2⟩ := h.ob k o q; ⟨a, e1, e2.ex e⟩⟩
end

/-! ### the results' readings -/
def XRep (K : PySem.W.Frag) (mg : Str → Option Value) (H : Hp) (cls : Value) (d : Option Addr) (x : Xc) : Prop :=
  ∃ C, mg x.c = some (.ref C) ∧ cls = .ref C ∧ (x.fs = [] ∨ ∃ dd fs, d = some dd ∧ H dd = some (.xd fs) ∧ Paired (fun (p : Str × V) (q : Str × PyData) => p.1 = q.1 ∧ Rep K H p.2 q.2) fs x.fs)
def post {α β : Type} (K : PySem.W.Frag) (mg : Str → Option Value) (Wx : WX) (σ : L2.St) (ad : List Addr) (H : Hp) (Rel : List Addr → Hp → β → α → Prop) (r : Rs α) (Q : β → Hp → Prop) : Prop :=
  match r with
  | .bad => False
  | .ok w S' => ∀ v H' ad', Fr ad H ad' H' → Rel ad' H' v w → RS K ad' H' S' → Q v H'
  | .exc x S' => ∀ cls d H' ad', Fr ad H ad' H' → XRep K mg H' cls d x → RS K ad' H' S' → Wx cls d σ H'
section
variable {K : PySem.W.Frag} {mg : Str → Option Value} {Wx : WX} {σ : L2.St} {ad ad1 : List Addr} {H H1 : Hp}
theorem post_bind {α β γ δ : Type} {Rel1 : List Addr → Hp → β → α → Prop} {Rel2 : List Addr → Hp → δ → γ → Prop} {r : Rs α} {k : α → Sto → Rs γ} {Q : δ → Hp → Prop}
    (h : post K mg Wx σ ad H Rel2 (r.bind k) Q) : post K mg Wx σ ad H Rel1 r (fun v H1 => ∃ ad1 w S1, Fr ad H ad1 H1 ∧ Rel1 ad1 H1 v w ∧ RS K ad1 H1 S1 ∧ post K mg Wx σ ad1 H1 Rel2 (k w S1) Q) := by
  cases r with
  | bad => exact h
  | exc x S' => exact h
  | ok w S' =>
    intro v H1 ad1 fr rel rs
    refine ⟨ad1, w, S', fr, rel, rs, ?_⟩
    have h' : post K mg Wx σ ad H Rel2 (k w S') Q := h
    revert h'
    cases k w S' with
    | bad => exact fun z => z
    | ok w2 S2 => exact fun z v2 H2 ad2 fr2 rel2 rs2 => z v2 H2 ad2 (fr.trans fr2) rel2 rs2
    | exc x S2 => exact fun z cls d H2 ad2 fr2 xr rs2 => z cls d H2 ad2 (fr.trans fr2) xr rs2
theorem post_mono {α β : Type} {Rel : List Addr → Hp → β → α → Prop} {r : Rs α} {Q Q' : β → Hp → Prop} (h : post K mg Wx σ ad H Rel r Q) (hq : ∀ v H', Q v H' → Q' v H') : post K mg Wx σ ad H Rel r Q' := by
  cases r with
  | bad => exact h
  | exc x S' => exact h
  | ok w S' => exact fun v H' ad' a b c => hq _ _ (h v H' ad' a b c)
end
def tD (K : PySem.W.Frag) (mg : Str → Option Value) (Wx : WX) (f : EF) : TE := fun σ H Q => ∃ ad ρ S, Sig K ad H σ ρ ∧ RS K ad H S ∧ post K mg Wx σ ad H (RepW K) (f ρ S) Q
abbrev DE (X : Cx) (Wx : WX) (e : Expr) (f : EF) : Prop := PE X e (tD X.K X.mg Wx f)
theorem PE.conv {X : Cx} {e : Expr} {t t' : TE} (h : PE X e t) (c : ∀ σ H Q, t' σ H Q → t σ H Q) : PE X e t' := ⟨fun pins s σ H Q I q => h.run pins s σ H Q I (c _ _ _ q)⟩
theorem PT.conv {X : Cx} {e : Expr} {t t' : TT} (h : PT X e t) (c : ∀ σ H Q, t' σ H Q → t σ H Q) : PT X e t' := ⟨fun pins s σ H Q I q => h.run pins s σ H Q I (c _ _ _ q)⟩
theorem PW.conv {X : Cx} {e : Expr} {t t' : TT} (h : PW X e t) (c : ∀ σ H Q, t' σ H Q → t σ H Q) : PW X e t' := ⟨fun wh pins s σ H Q I q => h.run wh pins s σ H Q I (c _ _ _ q)⟩
theorem PA.conv {X : Cx} {e : List Expr} {t t' : TA} (h : PA X e t) (c : ∀ σ H Q, t' σ H Q → t σ H Q) : PA X e t' := ⟨fun pos pins s σ H Q I q => h.run pos pins s σ H Q I (c _ _ _ q)⟩
theorem PS.conv {X : Cx} {e : Stmt} {t t' : TS} (h : PS X e t) (c : ∀ D σ H, t' D σ H → t D σ H) : PS X e t' := ⟨fun pins s σ H D I q => h.run pins s σ H D I (c _ _ _ q)⟩
theorem PSs.conv {X : Cx} {e : List Stmt} {t t' : TS} (h : PSs X e t) (c : ∀ D σ H, t' D σ H → t D σ H) : PSs X e t' := ⟨fun pins s σ H D I q => h.run pins s σ H D I (c _ _ _ q)⟩

/-! ### a list is locked for good -/
theorem freeze {X : Cx} {pins : List (Addr × Obj)} {σ : L2.St} {H : Hp} {s : Shared} {a : Addr} {vs : List V} (I : Inv X pins σ H s) (h : H a = some (.lst vs)) :
    ∃ o, Inv X pins σ (upd H a (.frz o (.lst vs))) s := by
  have ok := I.hok a _ h
  obtain ⟨z, its, n, rv, e⟩ := id ok
  refine ⟨{ cls := .type "list", data := .seq its.toArray n }, ?_⟩
  have ne : ∀ {b : Addr} {o : HO}, H b = some o → (∀ xs, o ≠ .lst xs) → b ≠ a := fun {b o} hb hn z => by
    subst z
    rw [h] at hb
    cases hb
    exact hn _ rfl
  have un : Un X.fs [] H (upd H a (.frz { cls := .type "list", data := .seq its.toArray n } (.lst vs))) s.heap s.heap := by
    refine ⟨fun b o q _ _ _ => q, fun b o q _ _ _ => ⟨o.slots, q⟩, fun b o q hn _ => ?_, fun b o q _ => ⟨o, q⟩, fun b xs q => ?_, fun b o u q => ?_, fun b ps q => ⟨#[], ?_⟩⟩
    · have : b ≠ a := fun z => by subst z; rw [h] at hn; cases hn
      rw [upd_ne this]; exact hn
    · rw [upd_ne (ne q fun _ z => nomatch z)]; exact q
    · rw [upd_ne (ne q fun _ z => nomatch z)]; exact q
    · rw [upd_ne (ne q fun _ z => nomatch z), q]; simp
  have hok : HOk X.prog X.w (upd H a (.frz { cls := .type "list", data := .seq its.toArray n } (.lst vs))) s.heap := fun b u q => by
    by_cases hb : b = a
    · subst hb
      rw [upd_same] at q; cases q
      exact ⟨e, z, its, n, rv, e⟩
    · rw [upd_ne hb] at q
      refine (I.hok b u q).stay (fun c v _ r => r) (fun c r => ?_) fun c xs r => ?_
      · rw [upd_ne (ne r fun _ z => nomatch z)]; exact r
      · rw [upd_ne (ne r fun _ z => nomatch z)]; exact r
  have := I.un (h' := s.heap) (t' := s.toks) un hok
  exact this
theorem EP.freeze {X : Cx} {pins : List (Addr × Obj)} {σ : L2.St} {Q : VK} {u : Value} {s : Shared}
    (h : EP X pins σ (fun v H' => ∃ a vs, v = .ref a ∧ H' a = some (.lst vs) ∧ ∀ o, Q v (upd H' a (.frz o (.lst vs)))) u s) : EP X pins σ Q u s := by
  obtain ⟨v, H', I, r, a, vs, e, hl, q⟩ := h
  obtain ⟨o, I'⟩ := DL.freeze I hl
  exact ⟨v, _, I', r, q o⟩
def tFrz (te : TE) : TE := fun σ H Q => te σ H fun v H' => ∃ a vs, v = .ref a ∧ H' a = some (.lst vs) ∧ ∀ o, Q v (upd H' a (.frz o (.lst vs)))
theorem pe_freeze {X : Cx} {e : Expr} {te : TE} (h : PE X e te) : PE X e (tFrz te) := ⟨fun pins s σ H Q I q => thn (h.run pins s σ H _ I q) fun _ _ z => EP.freeze z⟩
theorem OpR.freeze {X : Cx} {f : Value → Value → Sem Value} {r : R2} (h : OpR X f r) : OpR X f (fun x y H Q => r x y H fun v H' => ∃ a vs, v = .ref a ∧ H' a = some (.lst vs) ∧ ∀ o, Q v (upd H' a (.frz o (.lst vs)))) :=
  fun pins s σ H x y v u Q I rx ry q => thn (h pins s σ H x y v u _ I rx ry q) fun _ _ z => EP.freeze z
theorem CallR.freeze {X : Cx} {f : Value} {r : List V → Hp → VK → Prop} (h : CallR X f r) : CallR X f (fun xs H Q => r xs H fun v H' => ∃ a vs, v = .ref a ∧ H' a = some (.lst vs) ∧ ∀ o, Q v (upd H' a (.frz o (.lst vs)))) :=
  fun pins s σ H xs us Q I r q => thn (h pins s σ H xs us _ I r q) fun _ _ z => EP.freeze z
/-- a new thing, then locked: all that was stands -/
theorem Ex.upd2 {H H' : Hp} {p : Addr} {o : HO} (e : Ex H H') (h : H p = none) : Ex H (upd H' p o) := fun a u q => by
  rw [upd_ne (ne_of_none q h)]; exact e a u q
end DL

set_option Elab.async false
set_option linter.all false
set_option maxRecDepth 100000
set_option maxHeartbeats 4000000
/-! D2: operations on data: what they give, and that the model does so. -/
namespace DL
open PySem PySem.Spec PyProof.Rows L2

/-- what a value shows when it is read -/
def RepV (K : PySem.W.Frag) (H : Hp) (v : V) (d : PyData) : Prop := Rep K H v d ∨ ∃ a vs l, v = .ref a ∧ d = .list l ∧ H a = some (.lst vs) ∧ Reps K H vs l
def view (S : Sto) : Wv → Option PyData
  | .d x => some x
  | .own k => match S[k]? with
    | some (.lst l) => some (.list l)
    | some (.frz l) => some (.list l)
    | none => none
@[simp] theorem view_d (S : Sto) (x : PyData) : view S (.d x) = some x := rfl
section
variable {K : PySem.W.Frag} {ad : List Addr} {H H' : Hp} {v : V} {w : Wv} {S : Sto} {d : PyData}
theorem view_rep (r : RepW K ad H v w) (rs : RS K ad H S) (e : view S w = some d) : RepV K H v d := by
  cases w with
  | d x =>
    cases e
    exact .inl r
  | own k =>
    obtain ⟨a, ha, rfl⟩ := r
    dsimp only [view] at e
    cases hk : S[k]? with
    | none =>
      rw [hk] at e
      cases e
    | some o =>
      rw [hk] at e
      obtain ⟨a', ha', ob⟩ := rs.ob k o hk
      rw [ha] at ha'
      cases ha'
      cases o with
      | lst l =>
        cases e
        obtain ⟨vs, h1, h2⟩ := ob
        exact .inr ⟨a, vs, l, rfl, rfl, h1, h2⟩
      | frz l =>
        cases e
        obtain ⟨vs, o1, h1, h2⟩ := ob
        exact .inl (.lst (.inl ⟨o1, h1⟩) h2)
theorem RepV.ex (e : Ex H H') (h : RepV K H v d) : RepV K H' v d := by
  rcases h with h | ⟨a, vs, l, e1, e2, e3, e4⟩
  · exact .inl (Rep.stb e.stb d h)
  · exact .inr ⟨a, vs, l, e1, e2, e _ _ e3, Reps.stb e.stb l e4⟩
theorem RepV.none (h : RepV K H v .none) : v = .non := by
  rcases h with h | ⟨_, _, _, _, z, _⟩
  · cases h; rfl
  · cases z
theorem RepV.bool {b : Bool} (h : RepV K H v (.bool b)) : v = .bl b := by
  rcases h with h | ⟨_, _, _, _, z, _⟩
  · cases h; rfl
  · cases z
theorem RepV.int {b : Int} (h : RepV K H v (.int b)) : v = .int b := by
  rcases h with h | ⟨_, _, _, _, z, _⟩
  · cases h; rfl
  · cases z
theorem RepV.str {b : Str} (h : RepV K H v (.str b)) : v = .str b ∧ strG b = true := by
  rcases h with h | ⟨_, _, _, _, z, _⟩
  · cases h with
    | str _ z => exact ⟨rfl, z⟩
  · cases z
theorem RepV.tup {l : List PyData} (h : RepV K H v (.tuple l)) : ∃ a vs, v = .ref a ∧ SqT K H a vs ∧ Reps K H vs l := by
  rcases h with h | ⟨_, _, _, _, z, _⟩
  · cases h with
    | tup h1 h2 => exact ⟨_, _, rfl, h1, h2⟩
  · cases z
theorem RepV.lst {l : List PyData} (h : RepV K H v (.list l)) : ∃ a vs, v = .ref a ∧ SqL K H a vs ∧ Reps K H vs l := by
  rcases h with h | ⟨a, vs, l', e, z, h1, h2⟩
  · cases h with
    | lst h1 h2 => exact ⟨_, _, rfl, h1.sq, h2⟩
  · cases z
    exact ⟨a, vs, e, SqL.of h1, h2⟩
end

def rP2 (K : PySem.W.Frag) (g : PyData → PyData → Option PyData) : R2 := fun x y H Q => ∃ dx dy d, RepV K H x dx ∧ RepV K H y dy ∧ g dx dy = some d ∧ ∀ v H', Ex H H' → Rep K H' v d → Q v H'
def OpP (X : Cx) (f : Value → Value → Sem Value) (g : PyData → PyData → Option PyData) : Prop := OpR X f (rP2 X.K g)
/-- the ways of a rule, by what the data are -/
theorem opP_of {X : Cx} {f : Value → Value → Sem Value} {g : PyData → PyData → Option PyData}
    (h : ∀ (dx dy d : PyData), g dx dy = some d → ∀ (pins : List (Addr × Obj)) (s : Shared) (σ : L2.St) (H : Hp) (x y : V) (v u : Value) (Q : VK), Inv X pins σ H s → RelV x v → RelV y u →
      RepV X.K H x dx → RepV X.K H y dy → (∀ v H', Ex H H' → Rep X.K H' v d → Q v H') → wpAny (model X.prog X.w) X.A (f v u) (EP X pins σ Q) X.xe s) : OpP X f g := by
  intro pins s σ H x y v u Q I rx ry ⟨dx, dy, d, h1, h2, e, q⟩
  exact h dx dy d e pins s σ H x y v u Q I rx ry h1 h2 q

theorem strOk_append {x y : Str} (h1 : PyData.strOk x = true) (h2 : PyData.strOk y = true) : PyData.strOk (x ++ y) = true := by
  unfold PyData.strOk at *
  rw [PySem.Str.cps_append, ← Array.all_toList] at *
  rw [Array.toList_append, List.all_append, Bool.and_eq_true]
  exact ⟨by simpa using h1, by simpa using h2⟩
theorem strG_append {x y : Str} (h1 : strG x = true) (h2 : strG y = true) (hz : x.length + y.length ≤ sizeLine) : strG (x ++ y) = true :=
  strG_mk (by rw [PySem.Str.length_append]; exact hz) (strOk_append (strG_ok h1) (strG_ok h2))
/-! ### arithmetic -/
def subD : PyData → PyData → Option PyData
  | .int i, .int j => some (.int (i - j))
  | _, _ => none
def mulOk (i j : Int) : Bool := decide (i.natAbs.log2 + j.natAbs.log2 < 1000000)
def mulD : PyData → PyData → Option PyData
  | .int i, .int j => if mulOk i j then some (.int (i * j)) else none
  | _, _ => none
def divOk (j : Int) : Bool := decide (j ≠ 0 ∧ j.natAbs.log2 < 9000)
def fdivD : PyData → PyData → Option PyData
  | .int i, .int j => if divOk j then some (.int (i.fdiv j)) else none
  | _, _ => none
def modD : PyData → PyData → Option PyData
  | .int i, .int j => if j = 0 then none else some (.int (i.fmod j))
  | _, _ => none
def powD : PyData → PyData → Option PyData
  | .int i, .int j => if 0 ≤ j ∧ j ≤ 1000000 ∧ i.natAbs < 2 ^ 64 then some (.int (i ^ j.toNat)) else none
  | _, _ => none
def addD : PyData → PyData → Option PyData
  | .int i, .int j => some (.int (i + j))
  | .str x, .str y => if x.length + y.length ≤ sizeLine then some (.str (x ++ y)) else none
  | .tuple l, .tuple m => if l.length + m.length ≤ sizeLine then some (.tuple (l ++ m)) else none
  | .list l, .list m => if l.length + m.length ≤ sizeLine then some (.list (l ++ m)) else none
  | _, _ => none
section
variable {X : Cx}
theorem rep_int {K : PySem.W.Frag} {H : Hp} {i : Int} : Rep K H (.int i) (.int i) := .int i
theorem op_subD : OpP X (binaryOp .Sub) subD := opP_of fun dx dy d e pins s σ H x y v u Q I rx ry h1 h2 q => by
  unfold subD at e
  split at e
  · cases e
    cases h1.int; cases h2.int
    exact op_sub pins s σ H _ _ v u Q I rx ry ⟨_, _, rfl, rfl, q _ H (Ex.refl H) (.int _)⟩
  · cases e
theorem op_mulD : OpP X (binaryOp .Mult) mulD := opP_of fun dx dy d e pins s σ H x y v u Q I rx ry h1 h2 q => by
  unfold mulD at e
  split at e
  · split at e
    · rename_i hm
      cases e
      cases h1.int; cases h2.int
      exact op_mulW pins s σ H _ _ v u Q I rx ry ⟨_, _, rfl, rfl, (show CMulW _ _ from of_decide_eq_true (p := _ < _) hm), q _ H (Ex.refl H) (.int _)⟩
    · cases e
  · cases e
theorem op_fdivG : OpR X (binaryOp .FloorDiv) (rI (fun _ j => j ≠ 0 ∧ j.natAbs.log2 < 9000) fun i j => .int (i.fdiv j)) := opI fun _ _ _ _ _ _ _ hc q => floordiv_int hc.1 q (.inl (PyProof.noPylong_of_log2 hc.2))
theorem op_fdivD : OpP X (binaryOp .FloorDiv) fdivD := opP_of fun dx dy d e pins s σ H x y v u Q I rx ry h1 h2 q => by
  unfold fdivD at e
  split at e
  · split at e
    · rename_i hm
      cases e
      cases h1.int; cases h2.int
      exact op_fdivG pins s σ H _ _ v u Q I rx ry ⟨_, _, rfl, rfl, of_decide_eq_true hm, q _ H (Ex.refl H) (.int _)⟩
    · cases e
  · cases e
theorem op_modD : OpP X (binaryOp .Mod) modD := opP_of fun dx dy d e pins s σ H x y v u Q I rx ry h1 h2 q => by
  unfold modD at e
  split at e
  · split at e
    · cases e
    · rename_i hm
      cases e
      cases h1.int; cases h2.int
      exact op_modN pins s σ H _ _ v u Q I rx ry ⟨_, _, rfl, rfl, hm, q _ H (Ex.refl H) (.int _)⟩
  · cases e
theorem op_powD : OpP X (binaryOp .Pow) powD := opP_of fun dx dy d e pins s σ H x y v u Q I rx ry h1 h2 q => by
  unfold powD at e
  split at e
  · split at e
    · rename_i hm
      cases e
      cases h1.int; cases h2.int
      exact op_pow pins s σ H _ _ v u Q I rx ry ⟨_, _, rfl, rfl, hm, q _ H (Ex.refl H) (.int _)⟩
    · cases e
  · cases e
/-- a list + a list, whatever they are -/
theorem cat_lists {A : Around} {E : Value → Shared → Prop} {s : Shared} {prog : Program} {w : World} {t b : Addr} {vs ws : List Value} {Q : Value → Shared → Prop} (ht : PlainL s.heap t vs.toArray) (hb : PlainL s.heap b ws.toArray)
    (hz : vs.length + ws.length ≤ sizeLine) (h : Q (.ref s.heap.objs.size) { s with heap := s.heap.push { cls := .type "list", data := .seq (vs ++ ws).toArray } }) : wpAny (model prog w) A (binaryOp .Add (.ref t) (.ref b)) Q E s := by
  obtain ⟨⟨cls, dd, data, sl⟩, n, ho, hc, hdd, hd⟩ := id ht
  obtain ⟨⟨cls2, dd2, data2, sl2⟩, n2, ho2, hc2, hdd2, hd2⟩ := id hb
  simp only at hc hd hc2 hd2 hdd hdd2
  subst hc hd hc2 hd2 hdd hdd2
  have e : vs.toArray ++ ws.toArray = (vs ++ ws).toArray := by simp
  exact concat_meets ⟨_, ho, rfl⟩ ⟨_, ho2, rfl⟩ noFill_list_add seq_list_add PySem.F.slot_list_add PySem.F.entry_list_add (PySem.F.args_list_add_2 _ _)
    (PyProof.Rows.list_addW t b vs.toArray ws.toArray n n2 Option.none Option.none sl sl2 (by rw [List.size_toArray, List.size_toArray]; exact hz)) ⟨ho, ho2, by rw [e]; exact h⟩
theorem op_addD : OpP X (binaryOp .Add) addD := opP_of fun dx dy d e pins s σ H x y v u Q I rx ry h1 h2 q => by
  unfold addD at e
  split at e
  · cases e
    cases h1.int; cases h2.int
    exact op_add pins s σ H _ _ v u Q I rx ry ⟨_, _, rfl, rfl, q _ H (Ex.refl H) (.int _)⟩
  · split at e
    · rename_i hz
      cases e
      obtain ⟨rfl, z1⟩ := h1.str
      obtain ⟨rfl, z2⟩ := h2.str
      exact op_add_str pins s σ H _ _ v u Q I rx ry ⟨_, _, rfl, rfl, hz, q _ H (Ex.refl H) (.str _ (strG_append z1 z2 hz))⟩
    · cases e
  · split at e
    · rename_i hz
      cases e
      obtain ⟨a, vs, rfl, t1, r1⟩ := h1.tup
      obtain ⟨b, us, rfl, t2, r2⟩ := h2.tup
      refine op_catA pins s σ H _ _ v u Q I rx ry ⟨a, b, vs, us, rfl, rfl, t1, t2, by rw [r1.length, r2.length]; exact hz, fun z => ?_, fun _ z => ?_, fun _ _ p hp => ?_⟩
      · subst z
        cases r1
        exact q _ H (Ex.refl H) (.tup t2 r2)
      · subst z
        cases r2
        rw [List.append_nil] at q
        exact q _ H (Ex.refl H) (.tup t1 r1)
      · have ex : Ex H (upd H p (.tup (vs ++ us))) := Ex.new hp
        exact q _ _ ex (.tup (SqT.of upd_same) (Reps.append (Reps.stb ex.stb _ r1) (Reps.stb ex.stb _ r2)))
    · cases e
  · split at e
    · rename_i hz
      cases e
      obtain ⟨a, vs, rfl, t1, r1⟩ := h1.lst
      obtain ⟨b, us, rfl, t2, r2⟩ := h2.lst
      cases rx
      cases ry
      obtain ⟨its, rv1, p1, z1⟩ := I.list t1
      obtain ⟨its2, rv2, p2, z2⟩ := I.list t2
      have hl : its.length + its2.length ≤ sizeLine := by rw [← rv1.length, ← rv2.length, r1.length, r2.length]; exact hz
      refine cat_lists p1 p2 hl (EP.freeze ?_)
      refine ⟨.ref _, _, I.lnew (t' := s.toks) (rv1.append rv2) (by rw [List.length_append, r1.length, r2.length]; exact hz), rfl, _, _, rfl, upd_same, fun o => ?_⟩
      have ex : Ex H (upd (upd H s.heap.objs.size (.lst (vs ++ us))) s.heap.objs.size (.frz o (.lst (vs ++ us)))) := (Ex.new I.fresh).upd2 I.fresh
      exact q _ _ ex (.lst (.inl ⟨o, upd_same⟩) (Reps.append (Reps.stb ex.stb _ r1) (Reps.stb ex.stb _ r2)))
    · cases e
  · cases e

/-! ### comparisons -/
def ltD : PyData → PyData → Option PyData
  | .int i, .int j => some (.bool (decide (i < j)))
  | _, _ => none
def leD : PyData → PyData → Option PyData
  | .int i, .int j => some (.bool (decide (i ≤ j)))
  | _, _ => none
def gtD : PyData → PyData → Option PyData
  | .int i, .int j => some (.bool (decide (j < i)))
  | _, _ => none
def geD : PyData → PyData → Option PyData
  | .int i, .int j => some (.bool (decide (j ≤ i)))
  | _, _ => none
theorem op_ltD : OpP X (compareOp .Lt) ltD := opP_of fun dx dy d e pins s σ H x y v u Q I rx ry h1 h2 q => by
  unfold ltD at e
  split at e
  · cases e
    cases h1.int; cases h2.int
    exact op_lt pins s σ H _ _ v u Q I rx ry ⟨_, _, rfl, rfl, q _ H (Ex.refl H) (.bl _)⟩
  · cases e
theorem op_leD : OpP X (compareOp .LtE) leD := opP_of fun dx dy d e pins s σ H x y v u Q I rx ry h1 h2 q => by
  unfold leD at e
  split at e
  · cases e
    cases h1.int; cases h2.int
    exact op_le pins s σ H _ _ v u Q I rx ry ⟨_, _, rfl, rfl, q _ H (Ex.refl H) (.bl _)⟩
  · cases e
theorem op_gtD : OpP X (compareOp .Gt) gtD := opP_of fun dx dy d e pins s σ H x y v u Q I rx ry h1 h2 q => by
  unfold gtD at e
  split at e
  · cases e
    cases h1.int; cases h2.int
    exact op_gt pins s σ H _ _ v u Q I rx ry ⟨_, _, rfl, rfl, q _ H (Ex.refl H) (.bl _)⟩
  · cases e
theorem op_geD : OpP X (compareOp .GtE) geD := opP_of fun dx dy d e pins s σ H x y v u Q I rx ry h1 h2 q => by
  unfold geD at e
  split at e
  · cases e
    cases h1.int; cases h2.int
    exact op_ge pins s σ H _ _ v u Q I rx ry ⟨_, _, rfl, rfl, q _ H (Ex.refl H) (.bl _)⟩
  · cases e
/-! data without dicts may be compared -/
mutual
def noDict : PyData → Bool
  | .none | .bool _ | .int _ | .str _ => true
  | .list xs | .tuple xs => noDicts xs
  | .dict _ => false
def noDicts : List PyData → Bool
  | [] => true
  | x :: xs => noDict x && noDicts xs
end
def cmpOk (d : PyData) : Bool := noDict d && decide (d.depth ≤ 64)
mutual
theorem Rep.dp {K : PySem.W.Frag} {H : Hp} : ∀ (d : PyData) {v : V}, Rep K H v d → noDict d = true → Dp K H v d ∧ d.canLay0 = true
  | .none, _, h, _ => by cases h; exact ⟨.non, by simp [PyData.canLay0]⟩
  | .bool _, _, h, _ => by cases h; exact ⟨.bl _, by simp [PyData.canLay0]⟩
  | .int _, _, h, _ => by cases h; exact ⟨.int _, by simp [PyData.canLay0]⟩
  | .str _, _, h, _ => by
    cases h with
    | str _ z => exact ⟨.str _, by simp [PyData.canLay0, strG_ok z]⟩
  | .list ds, _, h, c => by
    cases h with
    | lst h1 h2 =>
      obtain ⟨q1, q2⟩ := Reps.dp ds h2 (by simpa [noDict] using c)
      exact ⟨.lst h1.sq q1, by simpa [PyData.canLay0] using q2⟩
  | .tuple ds, _, h, c => by
    cases h with
    | tup h1 h2 =>
      obtain ⟨q1, q2⟩ := Reps.dp ds h2 (by simpa [noDict] using c)
      exact ⟨.tup h1 q1, by simpa [PyData.canLay0] using q2⟩
  | .dict ds, _, h, c => by simp [noDict] at c
theorem Reps.dp {K : PySem.W.Frag} {H : Hp} : ∀ (ds : List PyData) {vs : List V}, Reps K H vs ds → noDicts ds = true → DpAll K H vs ds ∧ PyData.canLayAll0 ds = true
  | [], _, h, _ => by cases h; exact ⟨.nil, by simp [PyData.canLayAll0]⟩
  | d :: ds, _, h, c => by
    cases h with
    | cons h1 h2 =>
      rw [noDicts, Bool.and_eq_true] at c
      obtain ⟨q1, q2⟩ := Rep.dp d h1 c.1
      obtain ⟨q3, q4⟩ := Reps.dp ds h2 c.2
      exact ⟨.cons q1 q3, by rw [PyData.canLayAll0, q2, q4]; rfl⟩
end
theorem RepV.dp {K : PySem.W.Frag} {H : Hp} {v : V} {d : PyData} (h : RepV K H v d) (c : cmpOk d = true) : Dp K H v d ∧ SeqAt.shaped d = true := by
  unfold cmpOk at c
  rw [Bool.and_eq_true] at c
  have sh : d.canLay0 = true → SeqAt.shaped d = true := fun q => by
    unfold SeqAt.shaped
    rw [q, Bool.true_and]
    exact c.2
  rcases h with h | ⟨a, vs, l, e1, e2, e3, e4⟩
  · obtain ⟨q1, q2⟩ := Rep.dp d h c.1
    exact ⟨q1, sh q2⟩
  · subst e1 e2
    obtain ⟨q1, q2⟩ := Reps.dp l e4 (by simpa [noDict] using c.1)
    exact ⟨.lst (SqL.of e3) q1, sh (by simpa [PyData.canLay0] using q2)⟩
def eqD (x y : PyData) : Option PyData := if cmpOk x && cmpOk y then some (.bool (PyData.eqv x y)) else none
def neD (x y : PyData) : Option PyData := if cmpOk x && cmpOk y then some (.bool (!PyData.eqv x y)) else none
theorem op_eqDD (hu : X.A.units + 64 < cLine) : OpP X (compareOp .Eq) eqD := opP_of fun dx dy d e pins s σ H x y v u Q I rx ry h1 h2 q => by
  unfold eqD at e
  split at e
  · rename_i hc
    cases e
    rw [Bool.and_eq_true] at hc
    obtain ⟨p1, s1⟩ := h1.dp hc.1
    obtain ⟨p2, s2⟩ := h2.dp hc.2
    exact op_eqD hu pins s σ H _ _ v u Q I rx ry ⟨dx, dy, p1, p2, s1, s2, q _ H (Ex.refl H) (.bl _)⟩
  · cases e
theorem op_neDD (hu : X.A.units + 64 < cLine) : OpP X (compareOp .NotEq) neD := opP_of fun dx dy d e pins s σ H x y v u Q I rx ry h1 h2 q => by
  unfold neD at e
  split at e
  · rename_i hc
    cases e
    rw [Bool.and_eq_true] at hc
    obtain ⟨p1, s1⟩ := h1.dp hc.1
    obtain ⟨p2, s2⟩ := h2.dp hc.2
    exact op_neD hu pins s σ H _ _ v u Q I rx ry ⟨dx, dy, p1, p2, s1, s2, q _ H (Ex.refl H) (.bl _)⟩
  · cases e
def flatD : PyData → Bool
  | .none | .bool _ | .int _ | .str _ => true
  | _ => false
theorem flat_rep {K : PySem.W.Frag} {H : Hp} {v : V} {d : PyData} (h : Rep K H v d) (c : flatD d = true) : flatV v = true := by
  cases h <;> first | rfl | (simp [flatD] at c)
theorem flat_repV {K : PySem.W.Frag} {H : Hp} {v : V} {d : PyData} (h : RepV K H v d) (c : flatD d = true) : Rep K H v d := by
  rcases h with h | ⟨a, vs, l, e1, e2, e3, e4⟩
  · exact h
  · subst e2
    simp [flatD] at c
theorem flat_eqV {K : PySem.W.Frag} {H : Hp} {v u : V} {d e : PyData} (h : Rep K H v d) (h' : Rep K H u e) (c : flatD d = true) (c' : flatD e = true) : eqV v u = PyData.eqv d e := by
  cases h <;> first
    | (simp [flatD] at c; done)
    | (cases h' <;> first | (simp [flatD] at c'; done) | (simp [eqV, PyData.eqv]))
theorem flats_rep {K : PySem.W.Frag} {H : Hp} {x : V} {dx : PyData} (hx : Rep K H x dx) (cx : flatD dx = true) : ∀ {vs : List V} {ds : List PyData}, Reps K H vs ds → ds.all flatD = true → vs.all flatV = true ∧ inV x vs = ds.any fun d => PyData.eqv d dx
  | [], _, h, _ => by cases h; exact ⟨rfl, rfl⟩
  | v :: vs, _, h, c => by
    cases h with
    | cons h1 h2 =>
      rw [List.all_cons, Bool.and_eq_true] at c
      obtain ⟨q1, q2⟩ := flats_rep hx cx h2 c.2
      refine ⟨by rw [List.all_cons, q1, flat_rep h1 c.1]; rfl, ?_⟩
      unfold inV at q2 ⊢
      rw [List.any_cons, List.any_cons, q2, flat_eqV h1 hx c.1 cx]
def inD : PyData → PyData → Option PyData
  | .str x, .str z => if x.cps.size = 1 then some (.bool (decide (x.cps.getD 0 0 ∈ z.cps.toList))) else none
  | x, .list l => if flatD x && l.all flatD then some (.bool (l.any fun d => PyData.eqv d x)) else none
  | x, .tuple l => if flatD x && l.all flatD then some (.bool (l.any fun d => PyData.eqv d x)) else none
  | _, _ => none
def notInD (x y : PyData) : Option PyData := match inD x y with
  | some (.bool b) => some (.bool (!b))
  | _ => none
theorem sign_of {x : Str} (h : x.cps.size = 1) : x = ⟨#[x.cps.getD 0 0]⟩ := by
  cases x with
  | mk c =>
    congr 1
    apply Array.ext
    · simpa using h
    · intro i h1 h2
      have : i = 0 := by simp at h2; omega
      subst this
      simp [Array.getD, h]
theorem op_inD : OpP X (compareOp .In) inD := opP_of fun dx dy d e pins s σ H x y v u Q I rx ry h1 h2 q => by
  unfold inD at e
  split at e
  · split at e
    · rename_i hs
      cases e
      obtain ⟨rfl, z1⟩ := h1.str
      obtain ⟨rfl, z2⟩ := h2.str
      exact op_in_sign pins s σ H _ _ v u Q I rx ry ⟨_, _, congrArg V.str (sign_of hs), rfl, q _ H (Ex.refl H) (.bl _)⟩
    · cases e
  · split at e
    · rename_i hc
      cases e
      rw [Bool.and_eq_true] at hc
      obtain ⟨a, vs, rfl, t, r⟩ := h2.lst
      obtain ⟨q1, q2⟩ := flats_rep (flat_repV h1 hc.1) hc.1 r hc.2
      refine op_in_seq pins s σ H _ _ v u Q I rx ry ⟨a, vs, rfl, .inl t, flat_rep (flat_repV h1 hc.1) hc.1, q1, ?_⟩
      rw [if_neg Bool.false_ne_true, q2]
      exact q _ H (Ex.refl H) (.bl _)
    · cases e
  · split at e
    · rename_i hc
      cases e
      rw [Bool.and_eq_true] at hc
      obtain ⟨a, vs, rfl, t, r⟩ := h2.tup
      obtain ⟨q1, q2⟩ := flats_rep (flat_repV h1 hc.1) hc.1 r hc.2
      refine op_in_seq pins s σ H _ _ v u Q I rx ry ⟨a, vs, rfl, .inr t, flat_rep (flat_repV h1 hc.1) hc.1, q1, ?_⟩
      rw [if_neg Bool.false_ne_true, q2]
      exact q _ H (Ex.refl H) (.bl _)
    · cases e
  · cases e
theorem op_notInD : OpP X (compareOp .NotIn) notInD := opP_of fun dx dy d e pins s σ H x y v u Q I rx ry h1 h2 q => by
  unfold notInD at e
  split at e
  · rename_i b0 e0
    cases e
    unfold inD at e0
    split at e0
    · split at e0
      · rename_i hs
        cases e0
        obtain ⟨rfl, z1⟩ := h1.str
        obtain ⟨rfl, z2⟩ := h2.str
        exact op_notIn_sign pins s σ H _ _ v u Q I rx ry ⟨_, _, congrArg V.str (sign_of hs), rfl, q _ H (Ex.refl H) (.bl _)⟩
      · cases e0
    · split at e0
      · rename_i hc
        cases e0
        rw [Bool.and_eq_true] at hc
        obtain ⟨a, vs, rfl, t, r⟩ := h2.lst
        obtain ⟨q1, q2⟩ := flats_rep (flat_repV h1 hc.1) hc.1 r hc.2
        refine op_notIn_seq pins s σ H _ _ v u Q I rx ry ⟨a, vs, rfl, .inl t, flat_rep (flat_repV h1 hc.1) hc.1, q1, ?_⟩
        rw [if_pos rfl, q2]
        exact q _ H (Ex.refl H) (.bl _)
      · cases e0
    · split at e0
      · rename_i hc
        cases e0
        rw [Bool.and_eq_true] at hc
        obtain ⟨a, vs, rfl, t, r⟩ := h2.tup
        obtain ⟨q1, q2⟩ := flats_rep (flat_repV h1 hc.1) hc.1 r hc.2
        refine op_notIn_seq pins s σ H _ _ v u Q I rx ry ⟨a, vs, rfl, .inr t, flat_rep (flat_repV h1 hc.1) hc.1, q1, ?_⟩
        rw [if_pos rfl, q2]
        exact q _ H (Ex.refl H) (.bl _)
      · cases e0
    · cases e0
  · cases e
def isNon : PyData → Bool
  | .none => true
  | _ => false
def isNoneD (x y : PyData) : Option PyData := match y with
  | .none => some (.bool (isNon x))
  | _ => none
def isNotNoneD (x y : PyData) : Option PyData := match y with
  | .none => some (.bool (!isNon x))
  | _ => none
theorem none_dec {K : PySem.W.Frag} {H : Hp} {v : V} {d : PyData} (h : RepV K H v d) : decide (v = V.non) = isNon d := by
  rcases h with h | ⟨a, vs, l, e1, e2, e3, e4⟩
  · cases h <;> simp [isNon]
  · subst e1 e2
    simp [isNon]
theorem op_isNoneD : OpP X (compareOp .Is) isNoneD := opP_of fun dx dy d e pins s σ H x y v u Q I rx ry h1 h2 q => by
  unfold isNoneD at e
  split at e
  · cases e
    refine op_isN pins s σ H _ _ v u Q I rx ry ⟨h2.none, ?_⟩
    rw [none_dec h1]
    exact q _ H (Ex.refl H) (.bl _)
  · cases e
theorem op_isNotNoneD : OpP X (compareOp .IsNot) isNotNoneD := opP_of fun dx dy d e pins s σ H x y v u Q I rx ry h1 h2 q => by
  unfold isNotNoneD at e
  split at e
  · cases e
    refine op_notN pins s σ H _ _ v u Q I rx ry ⟨h2.none, ?_⟩
    rw [none_dec h1]
    exact q _ H (Ex.refl H) (.bl _)
  · cases e
/-! ### truth -/
def truD : PyData → Option Bool
  | .none => some false
  | .bool b => some b
  | .int i => some (i != 0)
  | .str x => some ((x.length : Int) != 0)
  | .list l => some (!l.isEmpty)
  | .tuple l => some (!l.isEmpty)
  | .dict _ => none
theorem emp_rep {K : PySem.W.Frag} {H : Hp} {vs : List V} {ds : List PyData} (h : Reps K H vs ds) : vs.isEmpty = ds.isEmpty := by
  cases h <;> rfl
theorem truV_of {H : Hp} {v : V} {d : PyData} {b : Bool} (h : RepV X.K H v d) (e : truD d = some b) : TruV X.K v H b := by
  cases d with
  | none => cases h.none; cases e; rfl
  | bool x => cases h.bool; cases e; rfl
  | int i => cases h.int; cases e; rfl
  | str x =>
    obtain ⟨rfl, z⟩ := h.str
    cases e
    exact ⟨strG_len z, rfl⟩
  | list l =>
    obtain ⟨a, vs, rfl, t, r⟩ := h.lst
    cases e
    exact .inl ⟨vs, t, by rw [emp_rep r]⟩
  | tuple l =>
    obtain ⟨a, vs, rfl, t, r⟩ := h.tup
    cases e
    exact .inr (.inl ⟨vs, t, by rw [emp_rep r]⟩)
  | dict _ => cases e
/-! ### items -/
def ixD : PyData → PyData → Option PyData
  | .list l, .int i => atI l i
  | .tuple l, .int i => atI l i
  | .str z, .int i => (atI z.cps.toList i).map fun c => .str ⟨#[c]⟩
  | _, _ => none
theorem atI_rep {K : PySem.W.Frag} {H : Hp} {vs : List V} {ds : List PyData} {i : Int} {d : PyData} (r : Reps K H vs ds) (e : atI ds i = some d) : ∃ v, atI vs i = some v ∧ Rep K H v d := by
  unfold atI at *
  rw [r.length]
  cases q : ixN ds.length i with
  | none => rw [q] at e; cases e
  | some j =>
    rw [q] at e
    exact r.get e
theorem atI_mem {α : Type} {xs : List α} {i : Int} {x : α} (e : atI xs i = some x) : x ∈ xs := by
  unfold atI at e
  cases q : ixN xs.length i with
  | none => rw [q] at e; cases e
  | some j =>
    rw [q] at e
    exact List.mem_of_getElem? e
theorem sign_G {z : Str} {c : Nat} (h : strG z = true) (m : c ∈ z.cps.toList) : strG ⟨#[c]⟩ = true := by
  refine strG_mk (by show 1 ≤ sizeLine; decide) ?_
  have q := strG_ok h
  unfold PyData.strOk at q ⊢
  rw [← Array.all_toList, List.all_eq_true] at q
  have := q c m
  simpa using this
theorem ix_D : IxR X (rP2 X.K ixD) := by
  intro value slice pins s σ H x y v u Q I rx ry ⟨dx, dy, d, h1, h2, e, q⟩ hs
  unfold ixD at e
  split at e
  · obtain ⟨a, vs, rfl, t, r⟩ := h1.lst
    cases h2.int
    obtain ⟨w, e1, e2⟩ := atI_rep r e
    exact ix_list value slice pins s σ H _ _ v u Q I rx ry ⟨a, vs, _, w, rfl, rfl, t, e1, q _ H (Ex.refl H) e2⟩ hs
  · obtain ⟨a, vs, rfl, t, r⟩ := h1.tup
    cases h2.int
    obtain ⟨w, e1, e2⟩ := atI_rep r e
    exact ix_tup value slice pins s σ H _ _ v u Q I rx ry ⟨a, vs, _, w, rfl, rfl, t, e1, q _ H (Ex.refl H) e2⟩ hs
  · obtain ⟨rfl, z⟩ := h1.str
    cases h2.int
    rename_i z0 i0
    cases hc : atI z0.cps.toList i0 with
    | none => rw [hc] at e; cases e
    | some c =>
      rw [hc] at e
      cases e
      exact ix_str value slice pins s σ H _ _ v u Q I rx ry ⟨z0, i0, c, rfl, rfl, strG_len z, hc, q _ H (Ex.refl H) (.str _ (sign_G z (atI_mem hc)))⟩ hs
  · cases e
end
end DL

set_option Elab.async false
set_option linter.all false
set_option maxRecDepth 100000
set_option maxHeartbeats 4000000
/-! D3: expressions: what they give, as functions of the names' values and the store. -/
namespace DL
open PySem PySem.Spec PyProof.Rows L2

def eVar (i : Nat) : EF := fun ρ S => match ρ[i]? with
  | some (some w) => .ok w S
  | _ => .bad
def eC (d : PyData) : EF := fun _ S => .ok (.d d) S
def op2 (g : PyData → PyData → Option PyData) (x y : Wv) (S : Sto) : Rs Wv := match view S x with
  | some a => match view S y with
    | some b => match g a b with
      | some d => .ok (.d d) S
      | none => .bad
    | none => .bad
  | none => .bad
def eBin (g : PyData → PyData → Option PyData) (f1 f2 : EF) : EF := fun ρ S => (f1 ρ S).bind fun x S1 => (f2 ρ S1).bind fun y S2 => op2 g x y S2
def truW (x : Wv) (S : Sto) : Rs Bool := match view S x with
  | some a => match truD a with
    | some b => .ok b S
    | none => .bad
  | none => .bad
def eAnd (f g : EF) : EF := fun ρ S => (f ρ S).bind fun x S1 => (truW x S1).bind fun b S2 => if b = true then g ρ S2 else .ok x S2
def eOr (f g : EF) : EF := fun ρ S => (f ρ S).bind fun x S1 => (truW x S1).bind fun b S2 => if b = true then .ok x S2 else g ρ S2
def eNot (f : EF) : EF := fun ρ S => (f ρ S).bind fun x S1 => (truW x S1).bind fun b S2 => .ok (.d (.bool (!b))) S2
abbrev BF := Rho → Sto → Rs Bool
def tTru (f : EF) : BF := fun ρ S => (f ρ S).bind fun x S1 => truW x S1
def tAndB (f g : BF) : BF := fun ρ S => (f ρ S).bind fun b S1 => if b = true then g ρ S1 else .ok false S1
def tOrB (f g : BF) : BF := fun ρ S => (f ρ S).bind fun b S1 => if b = true then .ok true S1 else g ρ S1
def tNotB (f : BF) : BF := fun ρ S => (f ρ S).bind fun b S1 => .ok (!b) S1
def eIf (c : BF) (f g : EF) : EF := fun ρ S => (c ρ S).bind fun b S1 => if b = true then f ρ S1 else g ρ S1
def bool2 (g : PyData → PyData → Option PyData) (x y : Wv) (S : Sto) : Rs Bool := match view S x with
  | some a => match view S y with
    | some b => match g a b with
      | some (.bool k) => .ok k S
      | _ => .bad
    | none => .bad
  | none => .bad
def tCmpB (g : PyData → PyData → Option PyData) (f1 f2 : EF) : BF := fun ρ S => (f1 ρ S).bind fun x S1 => (f2 ρ S1).bind fun y S2 => bool2 g x y S2
def eCh (g g' : PyData → PyData → Option PyData) (f1 f2 f3 : EF) : EF := fun ρ S => (f1 ρ S).bind fun x S1 => (f2 ρ S1).bind fun y S2 => (bool2 g x y S2).bind fun b S3 =>
  if b = true then (f3 ρ S3).bind fun z S4 => op2 g' y z S4 else .ok (.d (.bool false)) S3
def tChB (g g' : PyData → PyData → Option PyData) (f1 f2 f3 : EF) : BF := fun ρ S => (f1 ρ S).bind fun x S1 => (f2 ρ S1).bind fun y S2 => (bool2 g x y S2).bind fun b S3 =>
  if b = true then (f3 ρ S3).bind fun z S4 => bool2 g' y z S4 else .ok false S3

def tDT (K : PySem.W.Frag) (mg : Str → Option Value) (Wx : WX) (f : BF) : TT := fun σ H Q => ∃ ad ρ S, Sig K ad H σ ρ ∧ RS K ad H S ∧ post K mg Wx σ ad H (fun _ _ v b => v = b) (f ρ S) Q
abbrev DT (X : Cx) (Wx : WX) (e : Expr) (f : BF) : Prop := PT X e (tDT X.K X.mg Wx f)
abbrev DW (X : Cx) (Wx : WX) (e : Expr) (f : BF) : Prop := PW X e (tDT X.K X.mg Wx f)

section
variable {K : PySem.W.Frag} {mg : Str → Option Value} {Wx : WX} {σ : L2.St} {ad : List Addr} {H : Hp} {S : Sto} {x y : V} {wx wy : Wv}
theorem op2_post {g : PyData → PyData → Option PyData} {Q : VK} (h : post K mg Wx σ ad H (RepW K) (op2 g wx wy S) Q) (r1 : RepW K ad H x wx) (r2 : RepW K ad H y wy) (rs : RS K ad H S) : rP2 K g x y H Q := by
  unfold op2 at h
  cases e1 : view S wx with
  | none => rw [e1] at h; exact h.elim
  | some a =>
    rw [e1] at h
    cases e2 : view S wy with
    | none => rw [e2] at h; exact h.elim
    | some b =>
      rw [e2] at h
      dsimp only at h
      cases e3 : g a b with
      | none => rw [e3] at h; exact h.elim
      | some d =>
        rw [e3] at h
        exact ⟨a, b, d, view_rep r1 rs e1, view_rep r2 rs e2, e3, fun v H' ex rv => h v H' ad ex.fr rv (rs.ex ex)⟩
theorem bool2_post {g : PyData → PyData → Option PyData} {Q : Bool → Hp → Prop} (h : post K mg Wx σ ad H (fun _ _ v b => v = b) (bool2 g wx wy S) Q) (r1 : RepW K ad H x wx) (r2 : RepW K ad H y wy) (rs : RS K ad H S) :
    rP2 K g x y H fun z H' => ∃ k, z = .bl k ∧ Q k H' := by
  unfold bool2 at h
  cases e1 : view S wx with
  | none => rw [e1] at h; exact h.elim
  | some a =>
    rw [e1] at h
    cases e2 : view S wy with
    | none => rw [e2] at h; exact h.elim
    | some b =>
      rw [e2] at h
      dsimp only at h
      cases e3 : g a b with
      | none => rw [e3] at h; exact h.elim
      | some d =>
        rw [e3] at h
        cases d with
        | bool k => exact ⟨a, b, .bool k, view_rep r1 rs e1, view_rep r2 rs e2, e3, fun v H' ex rv => by cases rv; exact ⟨k, rfl, h k H' ad ex.fr rfl (rs.ex ex)⟩⟩
        | _ => exact h.elim
theorem truW_post {Q : Bool → Hp → Prop} (h : post K mg Wx σ ad H (fun _ _ v b => v = b) (truW wx S) Q) (r1 : RepW K ad H x wx) (rs : RS K ad H S) : ∃ a b, RepV K H x a ∧ truD a = some b ∧ Q b H ∧ truW wx S = .ok b S := by
  unfold truW at h ⊢
  cases e1 : view S wx with
  | none => rw [e1] at h; exact h.elim
  | some a =>
    rw [e1] at h
    cases e2 : truD a with
    | none => dsimp only at h; rw [e2] at h; exact h.elim
    | some b =>
      dsimp only at h
      rw [e2] at h
      exact ⟨a, b, view_rep r1 rs e1, e2, h b H ad (Fr.refl ad H) rfl rs, by dsimp only; rw [e2]⟩
end
section
variable {X : Cx} {Wx : WX} {a b c : Expr} {rest : List Expr} {f g h : EF} {pos : Pos}
theorem de_var {i : Nat} {x : Str} (p : PE X (.Name x pos) (tVar i)) : DE X Wx (.Name x pos) (eVar i) := PE.conv p fun σ H Q ⟨ad, ρ, S, sg, rs, q⟩ => by
  unfold eVar at q
  cases e : ρ[i]? with
  | none => rw [e] at q; exact q.elim
  | some o =>
    rw [e] at q
    cases o with
    | none => exact q.elim
    | some w =>
      obtain ⟨v, e1, r⟩ := sg.sl i w e
      exact ⟨v, e1, q v H ad (Fr.refl ad H) r rs⟩
theorem de_c {e : Expr} {v : V} {d : PyData} (p : PE X e (tC v)) (r : ∀ H, Rep X.K H v d) : DE X Wx e (eC d) := PE.conv p fun σ H Q ⟨ad, ρ, S, sg, rs, q⟩ => q v H ad (Fr.refl ad H) (r H) rs
theorem de_int {i : Int} {j : Nat} : DE X Wx (.Constant (.int i) j pos) (eC (.int i)) := de_c pe_int fun _ => .int i
theorem de_bl {i : Bool} {j : Nat} : DE X Wx (.Constant (.bool i) j pos) (eC (.bool i)) := de_c pe_bl fun _ => .bl i
theorem de_non {j : Nat} : DE X Wx (.Constant .none j pos) (eC .none) := de_c pe_non fun _ => .non
theorem de_str {i : Str} {j : Nat} (h : strG i = true := by decide +kernel) : DE X Wx (.Constant (.str i) j pos) (eC (.str i)) := de_c pe_str fun _ => .str i h
theorem bin_conv {g0 : PyData → PyData → Option PyData} {σ : L2.St} {H : Hp} {Q : VK} (q : tD X.K X.mg Wx (eBin g0 f g) σ H Q) : tOp (rP2 X.K g0) (tD X.K X.mg Wx f) (tD X.K X.mg Wx g) σ H Q := by
  obtain ⟨ad, ρ, S, sg, rs, q⟩ := q
  refine ⟨ad, ρ, S, sg, rs, post_mono (post_bind q) ?_⟩
  rintro x H1 ⟨ad1, w1, S1, fr1, r1, rs1, q1⟩
  refine ⟨ad1, ρ, S1, sg.fr fr1, rs1, post_mono (post_bind q1) ?_⟩
  rintro y H2 ⟨ad2, w2, S2, fr2, r2, rs2, q2⟩
  exact op2_post q2 (r1.fr fr2) r2 rs2
theorem de_bin {op : Operator} {g0 : PyData → PyData → Option PyData} (ho : OpP X (binaryOp op) g0) (ha : DE X Wx a f) (hb : DE X Wx b g) : DE X Wx (.BinOp a op b pos) (eBin g0 f g) := PE.conv (pe_op ho ha hb) fun _ _ _ q => bin_conv q
theorem de_cmp {op : CmpOp} {g0 : PyData → PyData → Option PyData} (ho : OpP X (compareOp op) g0) (ha : DE X Wx a f) (hb : DE X Wx b g) (hm : behindInMarks op b = false := by with_unfolding_all rfl) : DE X Wx (.Compare a [op] [b] pos) (eBin g0 f g) :=
  PE.conv (pe_cmpR ho ha hb hm) fun _ _ _ q => bin_conv q
theorem dt_cmp {op : CmpOp} {g0 : PyData → PyData → Option PyData} (ho : OpP X (compareOp op) g0) (ha : DE X Wx a f) (hb : DE X Wx b g) (hm : behindInMarks op b = false := by with_unfolding_all rfl) : DT X Wx (.Compare a [op] [b] pos) (tCmpB g0 f g) :=
  PT.conv (pt_cmpR ho ha hb hm) fun σ H Q ⟨ad, ρ, S, sg, rs, q⟩ => by
    refine ⟨ad, ρ, S, sg, rs, post_mono (post_bind q) ?_⟩
    rintro x H1 ⟨ad1, w1, S1, fr1, r1, rs1, q1⟩
    refine ⟨ad1, ρ, S1, sg.fr fr1, rs1, post_mono (post_bind q1) ?_⟩
    rintro y H2 ⟨ad2, w2, S2, fr2, r2, rs2, q2⟩
    exact bool2_post q2 (r1.fr fr2) r2 rs2
theorem de_ix (ha : DE X Wx a f) (hb : DE X Wx b g) (hs : PlainIx b := by exact fun _ _ => rfl) : DE X Wx (.Subscript a b pos) (eBin ixD f g) := PE.conv (pe_ix ix_D ha hb hs) fun _ _ _ q => bin_conv q
theorem de_ch {op op' : CmpOp} {g0 g1 : PyData → PyData → Option PyData} (ho : OpP X (compareOp op) g0) (ho' : OpP X (compareOp op') g1) (ha : DE X Wx a f) (hb : DE X Wx b g) (hc : DE X Wx c h)
    (hm : lastMarks [op, op'] [b, c] = false := by with_unfolding_all rfl) : DE X Wx (.Compare a [op, op'] [b, c] pos) (eCh g0 g1 f g h) := PE.conv (pe_chain ho ho' ha hb hc hm) fun σ H Q ⟨ad, ρ, S, sg, rs, q⟩ => by
    refine ⟨ad, ρ, S, sg, rs, post_mono (post_bind q) ?_⟩
    rintro x H1 ⟨ad1, w1, S1, fr1, r1, rs1, q1⟩
    refine ⟨ad1, ρ, S1, sg.fr fr1, rs1, post_mono (post_bind q1) ?_⟩
    rintro y H2 ⟨ad2, w2, S2, fr2, r2, rs2, q2⟩
    have q3 := bool2_post (post_bind (Rel1 := fun _ _ v b => v = b) q2) (r1.fr fr2) r2 rs2
    obtain ⟨da, db, d, e1, e2, e3, q3⟩ := q3
    refine ⟨da, db, d, e1, e2, e3, fun v H' ex rv => ?_⟩
    obtain ⟨k, rfl, ad3, b3, S3, fr3, e4, rs3, q4⟩ := q3 v H' ex rv
    subst e4
    refine ⟨k, rfl, ?_⟩
    cases k with
    | true =>
      rw [if_pos rfl] at q4 ⊢
      refine ⟨ad3, ρ, S3, (sg.fr (fr1.trans fr2)).fr fr3, rs3, post_mono (post_bind q4) ?_⟩
      rintro z H4 ⟨ad4, w4, S4, fr4, r4, rs4, q5⟩
      exact op2_post q5 ((r2.fr fr3).fr fr4) r4 rs4
    | false =>
      rw [if_neg Bool.false_ne_true] at q4 ⊢
      exact q4 _ _ ad3 (Fr.refl _ _) (.bl false) rs3
theorem dt_ch {op op' : CmpOp} {g0 g1 : PyData → PyData → Option PyData} (ho : OpP X (compareOp op) g0) (ho' : OpP X (compareOp op') g1) (ha : DE X Wx a f) (hb : DE X Wx b g) (hc : DE X Wx c h)
    (hm : lastMarks [op, op'] [b, c] = false := by with_unfolding_all rfl) : DT X Wx (.Compare a [op, op'] [b, c] pos) (tChB g0 g1 f g h) := PT.conv (pt_chain ho ho' ha hb hc hm) fun σ H Q ⟨ad, ρ, S, sg, rs, q⟩ => by
    refine ⟨ad, ρ, S, sg, rs, post_mono (post_bind q) ?_⟩
    rintro x H1 ⟨ad1, w1, S1, fr1, r1, rs1, q1⟩
    refine ⟨ad1, ρ, S1, sg.fr fr1, rs1, post_mono (post_bind q1) ?_⟩
    rintro y H2 ⟨ad2, w2, S2, fr2, r2, rs2, q2⟩
    have q3 := bool2_post (post_bind (Rel1 := fun _ _ v b => v = b) q2) (r1.fr fr2) r2 rs2
    obtain ⟨da, db, d, e1, e2, e3, q3⟩ := q3
    refine ⟨da, db, d, e1, e2, e3, fun v H' ex rv => ?_⟩
    obtain ⟨k, rfl, ad3, b3, S3, fr3, e4, rs3, q4⟩ := q3 v H' ex rv
    subst e4
    refine ⟨k, rfl, ?_⟩
    cases k with
    | true =>
      rw [if_pos rfl] at q4 ⊢
      refine ⟨ad3, ρ, S3, (sg.fr (fr1.trans fr2)).fr fr3, rs3, post_mono (post_bind q4) ?_⟩
      rintro z H4 ⟨ad4, w4, S4, fr4, r4, rs4, q5⟩
      exact bool2_post q5 ((r2.fr fr3).fr fr4) r4 rs4
    | false =>
      rw [if_neg Bool.false_ne_true] at q4 ⊢
      exact ⟨false, rfl, q4 _ _ ad3 (Fr.refl _ _) rfl rs3⟩

/-! ### and, or, not -/
theorem de_one {op : BoolOp} (ha : DE X Wx a f) : DE X Wx (.BoolOp op [a] pos) f := pe_one ha
theorem de_and (ha : DE X Wx a f) (hb : DE X Wx (.BoolOp .And (b :: rest) pos) g) : DE X Wx (.BoolOp .And (a :: b :: rest) pos) (eAnd f g) := PE.conv (pe_andT ha hb) fun σ H Q ⟨ad, ρ, S, sg, rs, q⟩ => by
  refine ⟨ad, ρ, S, sg, rs, post_mono (post_bind q) ?_⟩
  rintro x H1 ⟨ad1, w1, S1, fr1, r1, rs1, q1⟩
  obtain ⟨da, k, rv, e, q2, e2⟩ := truW_post (post_bind (Rel1 := fun _ _ v b => v = b) q1) r1 rs1
  rw [e2] at q1
  have q1 : post X.K X.mg Wx σ ad1 H1 (RepW X.K) (if k = true then g ρ S1 else .ok w1 S1) Q := q1
  refine ⟨k, truV_of rv e, ?_⟩
  cases k with
  | true =>
    rw [if_pos rfl] at q1 ⊢
    exact ⟨ad1, ρ, S1, sg.fr fr1, rs1, q1⟩
  | false =>
    rw [if_neg Bool.false_ne_true] at q1 ⊢
    exact q1 _ _ ad1 (Fr.refl _ _) r1 rs1
theorem de_or (ha : DE X Wx a f) (hb : DE X Wx (.BoolOp .Or (b :: rest) pos) g) : DE X Wx (.BoolOp .Or (a :: b :: rest) pos) (eOr f g) := PE.conv (pe_orT ha hb) fun σ H Q ⟨ad, ρ, S, sg, rs, q⟩ => by
  refine ⟨ad, ρ, S, sg, rs, post_mono (post_bind q) ?_⟩
  rintro x H1 ⟨ad1, w1, S1, fr1, r1, rs1, q1⟩
  obtain ⟨da, k, rv, e, q2, e2⟩ := truW_post (post_bind (Rel1 := fun _ _ v b => v = b) q1) r1 rs1
  rw [e2] at q1
  have q1 : post X.K X.mg Wx σ ad1 H1 (RepW X.K) (if k = true then .ok w1 S1 else g ρ S1) Q := q1
  refine ⟨k, truV_of rv e, ?_⟩
  cases k with
  | true =>
    rw [if_pos rfl] at q1 ⊢
    exact q1 _ _ ad1 (Fr.refl _ _) r1 rs1
  | false =>
    rw [if_neg Bool.false_ne_true] at q1 ⊢
    exact ⟨ad1, ρ, S1, sg.fr fr1, rs1, q1⟩
theorem de_not (ha : DE X Wx a f) : DE X Wx (.UnaryOp .Not a pos) (eNot f) := PE.conv (pe_notT ha) fun σ H Q ⟨ad, ρ, S, sg, rs, q⟩ => by
  refine ⟨ad, ρ, S, sg, rs, post_mono (post_bind q) ?_⟩
  rintro x H1 ⟨ad1, w1, S1, fr1, r1, rs1, q1⟩
  obtain ⟨da, k, rv, e, q2, e2⟩ := truW_post (post_bind (Rel1 := fun _ _ v b => v = b) q1) r1 rs1
  rw [e2] at q1
  exact ⟨k, truV_of rv e, q1 _ _ ad1 (Fr.refl _ _) (.bl _) rs1⟩
theorem dt_tru (ha : DE X Wx a f) (he : ∀ whole, isTrue a X.env whole = (do let v ← whole; standAt a.pos; holding [v] (truthy v)) := by intro _; rfl) : DT X Wx a (tTru f) := PT.conv (pt_truth ha he) fun σ H Q ⟨ad, ρ, S, sg, rs, q⟩ => by
  refine ⟨ad, ρ, S, sg, rs, post_mono (post_bind q) ?_⟩
  rintro x H1 ⟨ad1, w1, S1, fr1, r1, rs1, q1⟩
  obtain ⟨da, k, rv, e, q2, e2⟩ := truW_post q1 r1 rs1
  exact ⟨k, truV_of rv e, q2⟩
variable {u v : BF}
theorem bool_conv {t : BF} {k : Bool → BF} {σ : L2.St} {H : Hp} {Q : Bool → Hp → Prop} (q : tDT X.K X.mg Wx (fun ρ S => (t ρ S).bind fun b S1 => k b ρ S1) σ H Q) : tDT X.K X.mg Wx t σ H fun b H1 => tDT X.K X.mg Wx (k b) σ H1 Q := by
  obtain ⟨ad, ρ, S, sg, rs, q⟩ := q
  refine ⟨ad, ρ, S, sg, rs, post_mono (post_bind q) ?_⟩
  rintro x H1 ⟨ad1, w1, S1, fr1, r1, rs1, q1⟩
  subst r1
  exact ⟨ad1, ρ, S1, sg.fr fr1, rs1, q1⟩
theorem dw_and1 (ha : DT X Wx a u) : DW X Wx (.BoolOp .And [a] pos) u := pw_and1 ha
theorem dw_or1 (ha : DT X Wx a u) : DW X Wx (.BoolOp .Or [a] pos) u := pw_or1 ha
theorem now_ok {σ : L2.St} {H : Hp} {b : Bool} {Q : Bool → Hp → Prop} (q : tDT X.K X.mg Wx (fun _ S => .ok b S) σ H Q) : Q b H := by
  obtain ⟨ad, ρ, S, sg, rs, q⟩ := q
  exact q b H ad (Fr.refl _ _) rfl rs
theorem dw_and (ha : DT X Wx a u) (hb : DW X Wx (.BoolOp .And (b :: rest) pos) v) : DW X Wx (.BoolOp .And (a :: b :: rest) pos) (tAndB u v) := PW.conv (pw_and ha hb) fun σ H Q q => by
  have q := bool_conv (t := u) (k := fun c ρ S => if c = true then v ρ S else .ok false S) q
  obtain ⟨ad, ρ, S, sg, rs, q⟩ := q
  refine ⟨ad, ρ, S, sg, rs, post_mono q fun c H1 q1 => ?_⟩
  cases c with
  | true => rw [if_pos rfl]; exact q1
  | false => rw [if_neg Bool.false_ne_true]; exact now_ok (X := X) (Wx := Wx) q1
theorem dw_or (ha : DT X Wx a u) (hb : DW X Wx (.BoolOp .Or (b :: rest) pos) v) : DW X Wx (.BoolOp .Or (a :: b :: rest) pos) (tOrB u v) := PW.conv (pw_or ha hb) fun σ H Q q => by
  have q := bool_conv (t := u) (k := fun c ρ S => if c = true then .ok true S else v ρ S) q
  obtain ⟨ad, ρ, S, sg, rs, q⟩ := q
  refine ⟨ad, ρ, S, sg, rs, post_mono q fun c H1 q1 => ?_⟩
  cases c with
  | true => rw [if_pos rfl]; exact now_ok (X := X) (Wx := Wx) q1
  | false => rw [if_neg Bool.false_ne_true]; exact q1
theorem dt_not (ha : DT X Wx a u) : DT X Wx (.UnaryOp .Not a pos) (tNotB u) := PT.conv (pt_not ha) fun σ H Q q => by
  have q := bool_conv (t := u) (k := fun c ρ S => .ok (!c) S) q
  obtain ⟨ad, ρ, S, sg, rs, q⟩ := q
  exact ⟨ad, ρ, S, sg, rs, post_mono q fun c H1 q1 => now_ok (X := X) (Wx := Wx) q1⟩
theorem de_if (hc : DT X Wx c u) (ha : DE X Wx a f) (hb : DE X Wx b g) : DE X Wx (.IfExp c a b pos) (eIf u f g) := PE.conv (pe_ifExp hc ha hb) fun σ H Q ⟨ad, ρ, S, sg, rs, q⟩ => by
  refine ⟨ad, ρ, S, sg, rs, post_mono (post_bind q) ?_⟩
  rintro x H1 ⟨ad1, w1, S1, fr1, r1, rs1, q1⟩
  subst r1
  cases x with
  | true =>
    rw [if_pos rfl] at q1 ⊢
    exact ⟨ad1, ρ, S1, sg.fr fr1, rs1, q1⟩
  | false =>
    rw [if_neg Bool.false_ne_true] at q1 ⊢
    exact ⟨ad1, ρ, S1, sg.fr fr1, rs1, q1⟩

/-! ### argument lists, tuples, lists -/
abbrev LF := Rho → Sto → Rs (List Wv)
def lNil : LF := fun _ S => .ok [] S
def lCons (f : EF) (g : LF) : LF := fun ρ S => (f ρ S).bind fun x S1 => (g ρ S1).bind fun xs S2 => .ok (x :: xs) S2
def tDA (K : PySem.W.Frag) (mg : Str → Option Value) (Wx : WX) (f : LF) : TA := fun σ H Q => ∃ ad ρ S, Sig K ad H σ ρ ∧ RS K ad H S ∧ post K mg Wx σ ad H (RepWs K) (f ρ S) Q
abbrev DA (X : Cx) (Wx : WX) (e : List Expr) (f : LF) : Prop := PA X e (tDA X.K X.mg Wx f)
theorem da_nil : DA X Wx [] lNil := PA.conv pa_nil fun σ H Q ⟨ad, ρ, S, sg, rs, q⟩ => q _ _ ad (Fr.refl _ _) .nil rs
theorem da_cons {l : LF} (ha : DE X Wx a f) (hb : DA X Wx rest l) (hs : starEach (a :: rest) X.env = (false, eval a X.env) :: starEach rest X.env := by rfl) : DA X Wx (a :: rest) (lCons f l) := PA.conv (pa_cons ha hb hs) fun σ H Q ⟨ad, ρ, S, sg, rs, q⟩ => by
  refine ⟨ad, ρ, S, sg, rs, post_mono (post_bind q) ?_⟩
  rintro x H1 ⟨ad1, w1, S1, fr1, r1, rs1, q1⟩
  refine ⟨ad1, ρ, S1, sg.fr fr1, rs1, post_mono (post_bind q1) ?_⟩
  rintro xs H2 ⟨ad2, w2, S2, fr2, r2, rs2, q2⟩
  exact q2 _ _ ad2 (Fr.refl _ _) (.cons (r1.fr fr2) r2) rs2
/-- all of them data -/
def dats : List Wv → Option (List PyData)
  | [] => some []
  | .d x :: r => (dats r).map (x :: ·)
  | .own _ :: _ => none
theorem dats_rep {K : PySem.W.Frag} {ad : List Addr} {H : Hp} : ∀ {vs : List V} {ws : List Wv} {ds : List PyData}, RepWs K ad H vs ws → dats ws = some ds → Reps K H vs ds
  | _, _, _, .nil, e => by cases e; exact .nil
  | _, _, ds, .cons (b := .d x) (l₂ := r) h t, e => by
    unfold dats at e
    cases q : dats r with
    | none => rw [q] at e; cases e
    | some l =>
      rw [q] at e
      cases e
      exact .cons h (dats_rep t q)
  | _, _, _, .cons (b := .own _) _ _, e => by cases e
def litOk (n : Nat) : Bool := decide (n ≤ 1000)
theorem lit_size {n : Nat} (h : litOk n = true) : n ≤ sizeLine := Nat.le_trans (of_decide_eq_true h) (by decide)
def eTup (l : LF) : EF := fun ρ S => (l ρ S).bind fun ws S1 => match dats ws with
  | some ds => if litOk ds.length then .ok (.d (.tuple ds)) S1 else .bad
  | none => .bad
theorem de_tup {l : LF} {x1} (h : DA X Wx rest l) : DE X Wx (.Tuple rest x1 pos) (eTup l) := PE.conv (pe_tup h) fun σ H Q ⟨ad, ρ, S, sg, rs, q⟩ => by
  refine ⟨ad, ρ, S, sg, rs, post_mono (post_bind q) ?_⟩
  rintro vs H1 ⟨ad1, ws, S1, fr1, r1, rs1, q1⟩
  cases e : dats ws with
  | none => rw [e] at q1; exact q1.elim
  | some ds =>
    rw [e] at q1
    dsimp only at q1
    split at q1
    · rename_i hl
      have rd := dats_rep r1 e
      refine ⟨by rw [rd.length]; exact lit_size hl, fun p hp => ?_⟩
      have ex : Ex H1 (upd H1 p (.tup vs)) := Ex.new hp
      exact q1 _ _ ad1 ex.fr (.tup (SqT.of upd_same) (Reps.stb ex.stb _ rd)) (rs1.ex ex)
    · exact q1.elim
/-- a list just made -/
abbrev MF := Rho → Sto → Rs (List PyData)
def Made (K : PySem.W.Frag) (H : Hp) (ad' : List Addr) (H' : Hp) (v : V) (l : List PyData) : Prop := ∃ p vs, v = .ref p ∧ H p = none ∧ p ∉ ad' ∧ H' p = some (.lst vs) ∧ Reps K H' vs l
def tDM (K : PySem.W.Frag) (mg : Str → Option Value) (Wx : WX) (f : MF) : TE := fun σ H Q => ∃ ad ρ S, Sig K ad H σ ρ ∧ RS K ad H S ∧ post K mg Wx σ ad H (Made K H) (f ρ S) Q
abbrev DM (X : Cx) (Wx : WX) (e : Expr) (f : MF) : Prop := PE X e (tDM X.K X.mg Wx f)
def eFz (f : MF) : EF := fun ρ S => (f ρ S).bind fun l S1 => .ok (.d (.list l)) S1
def eOwn (f : MF) : EF := fun ρ S => (f ρ S).bind fun l S1 => .ok (.own S1.length) (S1 ++ [.lst l])
theorem frz_ex {H H1 : Hp} {p : Addr} {o : HO} (h : H p = none) (e : ∀ a u, H a = some u → H1 a = some u) : Ex H (upd H1 p o) := fun a u q => by
  rw [upd_ne (ne_of_none q h)]; exact e a u q
theorem rs_upd {K : PySem.W.Frag} {ad : List Addr} {H1 : Hp} {S : Sto} {p : Addr} {vs : List V} {o : HO} (rs : RS K ad H1 S) (hp : p ∉ ad) (e : H1 p = some (.lst vs)) : RS K ad (upd H1 p o) S := by
  have st : Stb H1 (upd H1 p o) := fun a u hi q => by
    by_cases ha : a = p
    · subst ha
      rw [e] at q; cases q
      exact hi.elim
    · rw [upd_ne ha]; exact q
  refine ⟨rs.len, rs.nd, fun (k : Nat) (ob : MO) q => ?_⟩
  obtain ⟨a, e1, e2⟩ := rs.ob k ob q
  refine ⟨a, e1, ?_⟩
  have ha : a ≠ p := fun z => hp (z ▸ List.mem_of_getElem? e1)
  cases ob with
  | lst l =>
    obtain ⟨us, q1, q2⟩ := e2
    exact ⟨us, by rw [upd_ne ha]; exact q1, Reps.stb st _ q2⟩
  | frz l =>
    obtain ⟨us, o1, q1, q2⟩ := e2
    exact ⟨us, o1, by rw [upd_ne ha]; exact q1, Reps.stb st _ q2⟩
theorem fr_upd {ad ad' : List Addr} {H H1 : Hp} {p : Addr} {vs : List V} {o : HO} (fr : Fr ad H ad' H1) (h0 : H p = none) (hp : p ∉ ad') (e : H1 p = some (.lst vs)) : Fr ad H ad' (upd H1 p o) :=
  ⟨fr.ext, fun a u q hn => by
    rw [upd_ne (ne_of_none q h0)]; exact fr.keep a u q hn, fr.new, fun a u hi q => by
    rw [upd_ne (ne_of_none q h0)]; exact fr.stb a u hi q⟩
theorem de_fz {e : Expr} {m : MF} (h : DM X Wx e m) : DE X Wx e (eFz m) := PE.conv (pe_freeze h) fun σ H Q ⟨ad, ρ, S, sg, rs, q⟩ => by
  refine ⟨ad, ρ, S, sg, rs, ?_⟩
  unfold eFz at q
  revert q
  cases m ρ S with
  | bad => exact fun z => z
  | exc x S' => exact fun z => z
  | ok l S' =>
    intro q v H1 ad1 fr ⟨p, vs, e1, h0, hp, e2, r⟩ rs1
    refine ⟨p, vs, e1, e2, fun o => ?_⟩
    have st : Stb H1 (upd H1 p (.frz o (.lst vs))) := fun a u hi z => by
      by_cases ha : a = p
      · subst ha; rw [e2] at z; cases z; exact hi.elim
      · rw [upd_ne ha]; exact z
    subst e1
    exact q _ _ ad1 (fr_upd fr h0 hp e2) (.lst (.inl ⟨o, upd_same⟩) (Reps.stb st _ r)) (rs_upd rs1 hp e2)
theorem de_own {e : Expr} {m : MF} (h : DM X Wx e m) : DE X Wx e (eOwn m) := PE.conv h fun σ H Q ⟨ad, ρ, S, sg, rs, q⟩ => by
  refine ⟨ad, ρ, S, sg, rs, ?_⟩
  unfold eOwn at q
  revert q
  cases m ρ S with
  | bad => exact fun z => z
  | exc x S' => exact fun z => z
  | ok l S' =>
    intro q v H1 ad1 fr ⟨p, vs, e1, h0, hp, e2, r⟩ rs1
    subst e1
    have hl := rs1.len
    refine q _ _ (ad1 ++ [p]) ⟨?_, fr.keep, fun a ha hn => ?_, fr.stb⟩ ⟨p, ?_, rfl⟩ ⟨?_, ?_, fun (k : Nat) (ob : MO) z => ?_⟩
    · obtain ⟨t, e⟩ := fr.ext
      exact ⟨t ++ [p], by rw [e, List.append_assoc]⟩
    · rcases List.mem_append.mp ha with z | z
      · exact fr.new a z hn
      · have : a = p := by simpa using z
        rw [this]; exact h0
    · rw [← hl]; simp
    · simp [hl]
    · rw [List.nodup_append]
      exact ⟨rs1.nd, by simp, fun a ha b hb z => by
        have : b = p := by simpa using hb
        subst z this
        exact hp ha⟩
    · by_cases hk : k < S'.length
      · rw [List.getElem?_append_left hk] at z
        obtain ⟨a, z1, z2⟩ := rs1.ob k ob z
        exact ⟨a, by rw [List.getElem?_append_left (by rw [hl]; exact hk)]; exact z1, z2⟩
      · rw [List.getElem?_append_right (by omega)] at z
        have hk2 : k - S'.length = 0 := by
          by_cases hh : k - S'.length = 0
          · exact hh
          · rw [List.getElem?_eq_none (by simp; omega)] at z; cases z
        rw [hk2] at z
        simp at z
        subst z
        refine ⟨p, ?_, vs, e2, r⟩
        rw [List.getElem?_append_right (by omega), hl, hk2]; rfl
def mLst (l : LF) : MF := fun ρ S => (l ρ S).bind fun ws S1 => match dats ws with
  | some ds => if litOk ds.length then .ok ds S1 else .bad
  | none => .bad
theorem Fr.back {K : PySem.W.Frag} {ad ad' : List Addr} {H H1 : Hp} {p : Addr} {S : Sto} (fr : Fr ad H ad' H1) (rs : RS K ad' H1 S) (h : H1 p = none) : H p = none ∧ p ∉ ad' := by
  have h1 : p ∉ ad' := fun hp => by
    obtain ⟨u, e⟩ := rs.here hp
    rw [h] at e; cases e
  refine ⟨?_, h1⟩
  cases q : H p with
  | none => rfl
  | some o =>
    have hp : p ∉ ad := fun z => h1 (by
      obtain ⟨t, e⟩ := fr.ext
      rw [e]; exact List.mem_append_left _ z)
    rw [fr.keep p o q hp] at h; cases h
theorem dm_lst {l : LF} (h : DA X Wx rest l) : DM X Wx (.List rest pos) (mLst l) := PE.conv (pe_lst h) fun σ H Q ⟨ad, ρ, S, sg, rs, q⟩ => by
  refine ⟨ad, ρ, S, sg, rs, ?_⟩
  unfold mLst at q
  revert q
  cases l ρ S with
  | bad => exact fun z => z
  | exc x S' => exact fun z => z
  | ok ws S1 =>
    intro q vs H1 ad1 fr1 r1 rs1
    simp only [Rs.bind] at q
    cases e : dats ws with
    | none => rw [e] at q; exact q.elim
    | some ds =>
      rw [e] at q
      dsimp only at q
      split at q
      · rename_i hl
        have rd := dats_rep r1 e
        refine ⟨by rw [rd.length]; exact lit_size hl, fun p hp => ?_⟩
        obtain ⟨h0, hn⟩ := fr1.back rs1 hp
        have ex : Ex H1 (upd H1 p (.lst vs)) := Ex.new hp
        exact q _ _ ad1 (fr1.trans ex.fr) ⟨p, vs, rfl, h0, hn, upd_same, Reps.stb ex.stb _ rd⟩ (rs1.ex ex)
      · exact q.elim
/-! ### a changing list is locked where it goes into data -/
def frzW (w : Wv) (S : Sto) : Rs Wv := match w with
  | .d x => .ok (.d x) S
  | .own k => match S[k]? with
    | some (.lst l) => .ok (.d (.list l)) (S.set k (.frz l))
    | some (.frz l) => .ok (.d (.list l)) S
    | none => .bad
def eFrz (f : EF) : EF := fun ρ S => (f ρ S).bind frzW
def tFrzIf (te : TE) : TE := fun σ H Q => te σ H fun v H' => Q v H' ∨ ∃ a vs, v = .ref a ∧ H' a = some (.lst vs) ∧ ∀ o, Q v (upd H' a (.frz o (.lst vs)))
theorem pe_frzIf {X : Cx} {e : Expr} {te : TE} (h : PE X e te) : PE X e (tFrzIf te) := ⟨fun pins s σ H Q I q => thn (h.run pins s σ H _ I q) fun _ _ ⟨v, H', I', r, z⟩ => by
  rcases z with z | z
  · exact ⟨v, H', I', r, z⟩
  · exact EP.freeze ⟨v, H', I', r, z⟩⟩
theorem frz_fr {K : PySem.W.Frag} {ad ad' : List Addr} {H H1 : Hp} {a : Addr} {vs : List V} {o : HO} (fr : Fr ad H ad' H1) (ha : a ∈ ad') (e : H1 a = some (.lst vs)) : Fr ad H ad' (upd H1 a o) := by
  refine ⟨fr.ext, fun b u q hn => ?_, fr.new, fun b u hi q => ?_⟩
  · have : b ≠ a := fun z => by
      subst z
      have := fr.new b ha hn
      rw [q] at this; cases this
    rw [upd_ne this]; exact fr.keep b u q hn
  · have : b ≠ a := fun z => by
      subst z
      have := fr.stb b u hi q
      rw [e] at this; cases this
      exact hi.elim
    rw [upd_ne this]; exact fr.stb b u hi q
theorem nodup_at {α : Type} : ∀ {l : List α}, l.Nodup → ∀ {i j : Nat} {x : α}, l[i]? = some x → l[j]? = some x → i = j
  | [], _, i, j, x, e, _ => by simp at e
  | a :: l, h, 0, 0, x, _, _ => rfl
  | a :: l, h, 0, j + 1, x, e, e' => by
    simp at e e'
    subst e
    exact absurd (List.mem_of_getElem? e') (List.nodup_cons.mp h).1
  | a :: l, h, i + 1, 0, x, e, e' => by
    simp at e e'
    subst e'
    exact absurd (List.mem_of_getElem? e) (List.nodup_cons.mp h).1
  | a :: l, h, i + 1, j + 1, x, e, e' => by
    rw [nodup_at (List.nodup_cons.mp h).2 (i := i) (j := j) (x := x) (by simpa using e) (by simpa using e')]
theorem stb_upd {H1 : Hp} {a : Addr} {vs : List V} {o : HO} (e : H1 a = some (.lst vs)) : Stb H1 (upd H1 a o) := fun b u hi z => by
  by_cases hb : b = a
  · subst hb; rw [e] at z; cases z; exact hi.elim
  · rw [upd_ne hb]; exact z
theorem rs_set {K : PySem.W.Frag} {ad : List Addr} {H1 : Hp} {S : Sto} {k : Nat} {a : Addr} {vs : List V} {o : HO} {m : MO} (rs : RS K ad H1 S) (ha : ad[k]? = some a) (e : H1 a = some (.lst vs)) (hm : ObR K (upd H1 a o) a m) : RS K ad (upd H1 a o) (S.set k m) := by
  refine ⟨by rw [List.length_set]; exact rs.len, rs.nd, fun (j : Nat) (ob : MO) q => ?_⟩
  by_cases hj : k = j
  · subst hj
    have hk : k < S.length := by rw [← rs.len]; exact (List.getElem?_eq_some_iff.mp ha).1
    rw [List.getElem?_set_self hk] at q
    cases q
    exact ⟨a, ha, hm⟩
  · rw [List.getElem?_set_ne hj] at q
    obtain ⟨b, e1, e2⟩ := rs.ob j ob q
    have hb : b ≠ a := fun z => hj (nodup_at rs.nd ha (z ▸ e1))
    refine ⟨b, e1, ?_⟩
    cases ob with
    | lst l =>
      obtain ⟨us, q1, q2⟩ := e2
      exact ⟨us, by rw [upd_ne hb]; exact q1, Reps.stb (stb_upd e) _ q2⟩
    | frz l =>
      obtain ⟨us, o1, q1, q2⟩ := e2
      exact ⟨us, o1, by rw [upd_ne hb]; exact q1, Reps.stb (stb_upd e) _ q2⟩
theorem de_frz {e : Expr} (h : DE X Wx e f) : DE X Wx e (eFrz f) := PE.conv (pe_frzIf h) fun σ H Q ⟨ad, ρ, S, sg, rs, q⟩ => by
  refine ⟨ad, ρ, S, sg, rs, post_mono (post_bind q) ?_⟩
  rintro v H1 ⟨ad1, w, S1, fr1, r1, rs1, q1⟩
  unfold frzW at q1
  cases w with
  | d x => exact .inl (q1 _ _ ad1 (Fr.refl _ _) r1 rs1)
  | own k =>
    obtain ⟨a, ha, rfl⟩ := r1
    dsimp only at q1
    cases hk : S1[k]? with
    | none => rw [hk] at q1; exact q1.elim
    | some ob =>
      rw [hk] at q1
      obtain ⟨a', ha', ob'⟩ := rs1.ob k ob hk
      rw [ha] at ha'; cases ha'
      cases ob with
      | lst l =>
        obtain ⟨vs, e1, e2⟩ := ob'
        refine .inr ⟨a, vs, rfl, e1, fun o => ?_⟩
        exact q1 _ _ ad1 (frz_fr (K := X.K) (Fr.refl _ _) (List.mem_of_getElem? ha) e1) (.lst (.inl ⟨o, upd_same⟩) (Reps.stb (stb_upd e1) _ e2))
          (rs_set rs1 ha e1 ⟨vs, o, upd_same, Reps.stb (stb_upd e1) _ e2⟩)
      | frz l =>
        obtain ⟨vs, o1, e1, e2⟩ := ob'
        exact .inl (q1 _ _ ad1 (Fr.refl _ _) (.lst (.inl ⟨o1, e1⟩) e2) rs1)
end
end DL

set_option Elab.async false
set_option linter.all false
set_option maxRecDepth 100000
set_option maxHeartbeats 4000000
/-! D4: statements, targets, what is walked, loops, comprehensions. -/
namespace DL
open PySem PySem.Spec PyProof.Rows L2

inductive Fl where
  | nx (ρ : Rho) | rt (w : Wv) | bk (ρ : Rho) | ct (ρ : Rho)
inductive RF where
  | bad | fl (f : Fl) (S : Sto) | exc (x : Xc) (ρ : Rho) (S : Sto)
abbrev SF := Rho → Sto → RF
def postS (K : PySem.W.Frag) (mg : Str → Option Value) (Wx : WX) (ad : List Addr) (H : Hp) (r : RF) (D : Ends) : Prop :=
  match r with
  | .bad => False
  | .fl (.nx ρ) S' => ∀ σ' H' ad', Fr ad H ad' H' → Sig K ad' H' σ' ρ → RS K ad' H' S' → D.nx σ' H'
  | .fl (.bk ρ) S' => ∀ σ' H' ad', Fr ad H ad' H' → Sig K ad' H' σ' ρ → RS K ad' H' S' → D.bk σ' H'
  | .fl (.ct ρ) S' => ∀ σ' H' ad', Fr ad H ad' H' → Sig K ad' H' σ' ρ → RS K ad' H' S' → D.ct σ' H'
  | .fl (.rt w) S' => ∀ v H' ad', Fr ad H ad' H' → RepW K ad' H' v w → RS K ad' H' S' → D.rt v H'
  | .exc x ρ S' => ∀ cls d σ' H' ad', Fr ad H ad' H' → Sig K ad' H' σ' ρ → XRep K mg H' cls d x → RS K ad' H' S' → Wx cls d σ' H'
def seqR (r : RF) (k : SF) : RF := match r with
  | .fl (.nx ρ) S => k ρ S
  | r => r
def stepR (r : RF) (k : SF) : RF := match r with
  | .fl (.nx ρ) S => k ρ S
  | .fl (.ct ρ) S => k ρ S
  | .fl (.bk ρ) S => .fl (.nx ρ) S
  | r => r
section
variable {K : PySem.W.Frag} {mg : Str → Option Value} {Wx : WX} {ad ad1 : List Addr} {H H1 : Hp} {r : RF} {k : SF} {D : Ends}
theorem postS_fr (h : postS K mg Wx ad H r D) (f : Fr ad H ad1 H1) : postS K mg Wx ad1 H1 r D := by
  cases r with
  | bad => exact h
  | exc x ρ S => exact fun cls d σ' H' ad' fr => h cls d σ' H' ad' (f.trans fr)
  | fl g S =>
    cases g with
    | nx ρ => exact fun σ' H' ad' fr => h σ' H' ad' (f.trans fr)
    | bk ρ => exact fun σ' H' ad' fr => h σ' H' ad' (f.trans fr)
    | ct ρ => exact fun σ' H' ad' fr => h σ' H' ad' (f.trans fr)
    | rt w => exact fun v H' ad' fr => h v H' ad' (f.trans fr)
theorem postS_seq (h : postS K mg Wx ad H (seqR r k) D) : postS K mg Wx ad H r { D with nx := fun σ1 H1 => ∃ ad1 ρ1 S1, Sig K ad1 H1 σ1 ρ1 ∧ RS K ad1 H1 S1 ∧ postS K mg Wx ad1 H1 (k ρ1 S1) D } := by
  cases r with
  | bad => exact h
  | exc x ρ S => exact h
  | fl g S =>
    cases g with
    | nx ρ => exact fun σ' H' ad' fr sg rs => ⟨ad', ρ, S, sg, rs, postS_fr (r := k ρ S) h fr⟩
    | bk ρ => exact h
    | ct ρ => exact h
    | rt w => exact h
theorem postS_step {N : L2.St → Hp → Prop} (hN : ∀ σ1 H1 ad1 ρ1 S1, Fr ad H ad1 H1 → Sig K ad1 H1 σ1 ρ1 → RS K ad1 H1 S1 → postS K mg Wx ad1 H1 (k ρ1 S1) D → N σ1 H1) (h : postS K mg Wx ad H (stepR r k) D) :
    postS K mg Wx ad H r { D with nx := N, ct := N, bk := D.nx } := by
  cases r with
  | bad => exact h
  | exc x ρ S => exact h
  | fl g S =>
    cases g with
    | nx ρ => exact fun σ' H' ad' fr sg rs => hN σ' H' ad' ρ S fr sg rs (postS_fr (r := k ρ S) h fr)
    | bk ρ => exact h
    | ct ρ => exact fun σ' H' ad' fr sg rs => hN σ' H' ad' ρ S fr sg rs (postS_fr (r := k ρ S) h fr)
    | rt w => exact h
end
def tDS (K : PySem.W.Frag) (mg : Str → Option Value) (Wx : WX) (f : SF) : TS := fun D σ H => ∃ ad ρ S, Sig K ad H σ ρ ∧ RS K ad H S ∧ postS K mg Wx ad H (f ρ S) D
abbrev DS (X : Cx) (Wx : WX) (st : Stmt) (f : SF) : Prop := PS X st (tDS X.K X.mg Wx f)
abbrev DSs (X : Cx) (Wx : WX) (st : List Stmt) (f : SF) : Prop := PSs X st (tDS X.K X.mg Wx f)

/-! ### blocks, small statements -/
def sNil : SF := fun ρ S => .fl (.nx ρ) S
def sSeq (f g : SF) : SF := fun ρ S => seqR (f ρ S) g
/-- a result of an expression goes on -/
def bindS {α : Type} (r : Rs α) (ρ : Rho) (k : α → Sto → RF) : RF := match r with
  | .bad => .bad
  | .ok a S => k a S
  | .exc x S => .exc x ρ S
def sExpr (f : EF) : SF := fun ρ S => bindS (f ρ S) ρ fun _ S1 => .fl (.nx ρ) S1
def sRet (f : EF) : SF := fun ρ S => bindS (f ρ S) ρ fun w S1 => .fl (.rt w) S1
def sRetN : SF := fun ρ S => .fl (.rt (.d .none)) S
def sIf (c : BF) (f g : SF) : SF := fun ρ S => bindS (c ρ S) ρ fun b S1 => if b = true then f ρ S1 else g ρ S1
def sSet (i : Nat) (f : EF) : SF := fun ρ S => bindS (f ρ S) ρ fun w S1 => .fl (.nx (ρ.set i (some w))) S1
def sBreak : SF := fun ρ S => .fl (.bk ρ) S
def sCont : SF := fun ρ S => .fl (.ct ρ) S
section
variable {K : PySem.W.Frag} {mg : Str → Option Value} {Wx : WX} {ad : List Addr} {H : Hp} {D : Ends} {σ : L2.St} {ρ : Rho}
theorem bindS_post {α β : Type} {Rel : List Addr → Hp → β → α → Prop} {r : Rs α} {k : α → Sto → RF} (sg : Sig K ad H σ ρ) (h : postS K mg Wx ad H (bindS r ρ k) D) :
    post K mg Wx σ ad H Rel r (fun v H1 => ∃ ad1 w S1, Fr ad H ad1 H1 ∧ Rel ad1 H1 v w ∧ RS K ad1 H1 S1 ∧ postS K mg Wx ad1 H1 (k w S1) D) := by
  cases r with
  | bad => exact h
  | exc x S' => exact fun cls d H' ad' fr xr rs => h cls d σ H' ad' fr (sg.fr fr) xr rs
  | ok w S' => exact fun v H1 ad1 fr rel rs => ⟨ad1, w, S', fr, rel, rs, postS_fr (r := k w S') h fr⟩
theorem Sig.set {v : V} {w : Wv} (sg : Sig K ad H σ ρ) (i : Nat) (r : RepW K ad H v w) : Sig K ad H (σ.set i (some v)) (ρ.set i (some w)) := by
  refine ⟨by rw [List.length_set, List.length_set]; exact sg.len, fun j u e => ?_⟩
  by_cases hj : i = j
  · subst hj
    by_cases hi : i < ρ.length
    · rw [List.getElem?_set_self hi] at e
      cases e
      exact ⟨v, by rw [List.getElem?_set_self (by rw [sg.len]; exact hi)], r⟩
    · rw [List.getElem?_eq_none (by simpa using hi)] at e; cases e
  · rw [List.getElem?_set_ne hj] at e
    obtain ⟨v', e1, e2⟩ := sg.sl j u e
    exact ⟨v', by rw [List.getElem?_set_ne hj]; exact e1, e2⟩
end
section
variable {X : Cx} {Wx : WX} {e : Expr} {f : EF} {st : Stmt} {rest : List Stmt} {s1 s2 : SF} {pos : Pos}
theorem ds_nil : DSs X Wx [] sNil := PSs.conv pss_nil fun D σ H ⟨ad, ρ, S, sg, rs, q⟩ => q σ H ad (Fr.refl _ _) sg rs
theorem ds_cons (h1 : DS X Wx st s1) (h2 : DSs X Wx rest s2) : DSs X Wx (st :: rest) (sSeq s1 s2) := PSs.conv (pss_cons h1 h2) fun D σ H ⟨ad, ρ, S, sg, rs, q⟩ => ⟨ad, ρ, S, sg, rs, postS_seq q⟩
theorem ds_one (h1 : DS X Wx st s1) : DSs X Wx [st] s1 := pss_one h1
theorem ds_pass : DS X Wx (.Pass pos) sNil := PS.conv ps_pass fun D σ H ⟨ad, ρ, S, sg, rs, q⟩ => q σ H ad (Fr.refl _ _) sg rs
theorem ds_break : DS X Wx (.Break pos) sBreak := PS.conv ps_break fun D σ H ⟨ad, ρ, S, sg, rs, q⟩ => q σ H ad (Fr.refl _ _) sg rs
theorem ds_continue : DS X Wx (.Continue pos) sCont := PS.conv ps_continue fun D σ H ⟨ad, ρ, S, sg, rs, q⟩ => q σ H ad (Fr.refl _ _) sg rs
theorem ds_expr (h : DE X Wx e f) (hs : swapsWith e none pos.line X.env = pure false := by rfl) : DS X Wx (.Expr e pos) (sExpr f) := PS.conv (ps_expr h hs) fun D σ H ⟨ad, ρ, S, sg, rs, q⟩ =>
  ⟨ad, ρ, S, sg, rs, post_mono (bindS_post sg q) fun v H1 ⟨ad1, w, S1, fr, rel, rs1, q1⟩ => q1 σ H1 ad1 (Fr.refl _ _) (sg.fr fr) rs1⟩
theorem ds_ret (h : DE X Wx e f) : DS X Wx (.Return (some e) pos) (sRet f) := PS.conv (ps_ret h) fun D σ H ⟨ad, ρ, S, sg, rs, q⟩ =>
  ⟨ad, ρ, S, sg, rs, post_mono (bindS_post sg q) fun v H1 ⟨ad1, w, S1, fr, rel, rs1, q1⟩ => q1 v H1 ad1 (Fr.refl _ _) rel rs1⟩
theorem ds_retN : DS X Wx (.Return none pos) sRetN := PS.conv ps_retN fun D σ H ⟨ad, ρ, S, sg, rs, q⟩ => q _ H ad (Fr.refl _ _) .non rs
theorem ds_if {c : Expr} {a b : List Stmt} {u : BF} (hc : DT X Wx c u) (ha : DSs X Wx a s1) (hb : DSs X Wx b s2) : DS X Wx (.If c a b pos) (sIf u s1 s2) := PS.conv (ps_if hc ha hb) fun D σ H ⟨ad, ρ, S, sg, rs, q⟩ => by
  refine ⟨ad, ρ, S, sg, rs, post_mono (bindS_post sg q) ?_⟩
  rintro b H1 ⟨ad1, w, S1, fr, rel, rs1, q1⟩
  subst rel
  cases b with
  | true =>
    rw [if_pos rfl] at q1 ⊢
    exact ⟨ad1, ρ, S1, sg.fr fr, rs1, q1⟩
  | false =>
    rw [if_neg Bool.false_ne_true] at q1 ⊢
    exact ⟨ad1, ρ, S1, sg.fr fr, rs1, q1⟩
theorem ds_set {i : Nat} {x : Str} {pos' : Pos} (hN : X.N.Nodup) (hi : X.N[i]? = some x) (hx : Loc X.env.scope x) (he : DE X Wx e f) (hs : swapsWith e (some (.Name x pos')) pos.line X.env = pure false := by rfl) (hf : X.fn x = true ∨ X.env.scope.names.lookup x = some .local := by first | exact .inl rfl | exact .inr rfl | assumption) :
    DS X Wx (.Assign [.Name x pos'] e pos) (sSet i f) := PS.conv (ps_set hN hi hx he hs hf) fun D σ H ⟨ad, ρ, S, sg, rs, q⟩ =>
  ⟨ad, ρ, S, sg, rs, post_mono (bindS_post sg q) fun v H1 ⟨ad1, w, S1, fr, rel, rs1, q1⟩ => q1 _ H1 ad1 (Fr.refl _ _) ((sg.fr fr).set i rel) rs1⟩
end

/-! ### targets -/
def SameBut (ix : List Nat) (σ σ' : L2.St) : Prop := σ'.length = σ.length ∧ ∀ (j : Nat), j ∉ ix → σ'[j]? = σ[j]?
abbrev GF := PyData → Rho → Option Rho
abbrev GFs := List PyData → Rho → Option Rho
def tDG (K : PySem.W.Frag) (ix : List Nat) (t : GF) : TG := fun v σ H Q => ∃ ad ρ d ρ', Sig K ad H σ ρ ∧ Rep K H v d ∧ t d ρ = some ρ' ∧ ∀ σ', Sig K ad H σ' ρ' → SameBut ix σ σ' → Q σ' H
def tDGs (K : PySem.W.Frag) (ix : List Nat) (t : GFs) : TGs := fun vs σ H Q => ∃ ad ρ ds ρ', Sig K ad H σ ρ ∧ Reps K H vs ds ∧ t ds ρ = some ρ' ∧ ∀ σ', Sig K ad H σ' ρ' → SameBut ix σ σ' → Q σ' H
abbrev DG (X : Cx) (ix : List Nat) (tg : Expr) (t : GF) : Prop := PG X tg (tDG X.K ix t)
abbrev DGs (X : Cx) (ix : List Nat) (tg : List Expr) (t : GFs) : Prop := PGs X tg (tDGs X.K ix t)
theorem PG.conv {X : Cx} {e : Expr} {t t' : TG} (h : PG X e t) (c : ∀ v σ H Q, t' v σ H Q → t v σ H Q) : PG X e t' := ⟨fun pins s σ H v u Q I r q => h.run pins s σ H v u Q I r (c _ _ _ _ q)⟩
theorem PGs.conv {X : Cx} {e : List Expr} {t t' : TGs} (h : PGs X e t) (c : ∀ (v : List V) (σ : L2.St) (H : Hp) (Q : L2.St → Hp → Prop), t' v σ H Q → t v σ H Q) : PGs X e t' := ⟨fun pins s σ H v u Q I r q => h.run pins s σ H v u Q I r (c _ _ _ _ q)⟩
theorem pg_or {X : Cx} {e : Expr} {t t' : TG} (h : PG X e t) (h' : PG X e t') : PG X e (fun v σ H Q => t v σ H Q ∨ t' v σ H Q) := ⟨fun pins s σ H v u Q I r q => q.elim (h.run pins s σ H v u Q I r) (h'.run pins s σ H v u Q I r)⟩
def gNm (i : Nat) : GF := fun d ρ => some (ρ.set i (some (.d d)))
def gsNil : GFs := fun ds ρ => match ds with
  | [] => some ρ
  | _ => none
def gsCons (t : GF) (u : GFs) : GFs := fun ds ρ => match ds with
  | d :: r => match t d ρ with
    | some ρ1 => u r ρ1
    | none => none
  | [] => none
def gTp (n : Nat) (t : GFs) : GF := fun d ρ => match d with
  | .tuple l => if l.length = n then t l ρ else none
  | .list l => if l.length = n then t l ρ else none
  | _ => none
section
variable {X : Cx} {e : Expr} {es : List Expr} {ix ix' : List Nat} {t : GF} {u : GFs} {pos : Pos}
theorem dg_name {i : Nat} {x : Str} (p : PG X (.Name x pos) (gName i)) : DG X [i] (.Name x pos) (gNm i) := PG.conv p fun v σ H Q ⟨ad, ρ, d, ρ', sg, r, e, q⟩ => by
  cases e
  exact q _ (sg.set i (w := .d d) r) ⟨List.length_set, fun j hj => List.getElem?_set_ne (fun z => hj (by simp [z]))⟩
theorem dgs_nil : DGs X [] [] gsNil := PGs.conv pgs_nil fun vs σ H Q ⟨ad, ρ, ds, ρ', sg, r, e, q⟩ => by
  cases r with
  | nil =>
    cases e
    exact ⟨rfl, q σ sg ⟨rfl, fun _ _ => rfl⟩⟩
  | cons _ _ => cases e
theorem dgs_cons (h1 : DG X ix e t) (h2 : DGs X ix' es u) (hs : (assignEach (e :: es) X.env).map (·.2) = assign e X.env :: (assignEach es X.env).map (·.2) := by rfl) : DGs X (ix ++ ix') (e :: es) (gsCons t u) :=
  PGs.conv (pgs_cons h1 h2 hs) fun vs σ H Q ⟨ad, ρ, ds, ρ', sg, r, e, q⟩ => by
    cases r with
    | nil => cases e
    | @cons v vs d ds r1 r2 =>
      unfold gsCons at e
      dsimp only at e
      cases ht : t d ρ with
      | none => rw [ht] at e; cases e
      | some ρ1 =>
        rw [ht] at e
        refine ⟨v, vs, rfl, ad, ρ, d, ρ1, sg, r1, ht, fun σ1 sg1 sb1 => ⟨ad, ρ1, ds, ρ', sg1, r2, e, fun σ2 sg2 sb2 => q σ2 sg2 ⟨sb2.1.trans sb1.1, fun j hj => ?_⟩⟩⟩
        rw [List.mem_append, not_or] at hj
        exact (sb2.2 j hj.2).trans (sb1.2 j hj.1)
theorem dg_tup {k n : Nat} (hc : X.calm = true) (h : DGs X ix es u) (hn : (assignEach es X.env).length = n := by rfl) (hst : (assignEach es X.env).findIdx? (·.1) = none := by rfl) : DG X ix (.Tuple es k pos) (gTp n u) :=
  PG.conv (pg_or (pg_tup hc h hn hst) (pg_lst hc h hn hst)) fun v σ H Q ⟨ad, ρ, d, ρ', sg, r, e, q⟩ => by
    unfold gTp at e
    split at e
    · split at e
      · rename_i hl
        cases r with
        | tup t1 r1 => exact .inl ⟨_, _, rfl, t1, by rw [r1.length]; exact hl, ad, ρ, _, ρ', sg, r1, e, q⟩
      · cases e
    · split at e
      · rename_i hl
        cases r with
        | lst t1 r1 => exact .inr ⟨_, _, rfl, t1.sq, by rw [r1.length]; exact hl, ad, ρ, _, ρ', sg, r1, e, q⟩
      · cases e
    · cases e
end
/-- target = e -/
def sAsg (f : EF) (t : GF) : SF := fun ρ S => bindS ((f ρ S).bind frzW) ρ fun w S1 => match w with
  | .d x => match t x ρ with
    | some ρ1 => .fl (.nx ρ1) S1
    | none => .bad
  | .own _ => .bad
theorem ds_asg {X : Cx} {Wx : WX} {tg e : Expr} {f : EF} {ix : List Nat} {t : GF} {pos : Pos} (he : DE X Wx e f) (hg : DG X ix tg t) (hs : swapsWithSole [tg] e pos.line X.env = pure false := by rfl) (hw : swappedStores [tg] e X.env = pure none := by rfl)
    (h1 : (assignEach [tg] X.env).map (·.2) = [assign tg X.env] := by rfl) : DS X Wx (.Assign [tg] e pos) (sAsg f t) := PS.conv (ps_asg (de_frz he) hg hs hw h1) fun D σ H ⟨ad, ρ, S, sg, rs, q⟩ => by
  refine ⟨ad, ρ, S, sg, rs, post_mono (bindS_post (Rel := RepW X.K) sg q) ?_⟩
  rintro v H1 ⟨ad1, w, S1, fr, rel, rs1, q1⟩
  cases w with
  | own k => exact q1.elim
  | d x =>
    dsimp only at q1
    cases ht : t x ρ with
    | none => rw [ht] at q1; exact q1.elim
    | some ρ1 =>
      rw [ht] at q1
      exact ⟨ad1, ρ, x, ρ1, sg.fr fr, rel, ht, fun σ' sg' _ => q1 σ' H1 ad1 (Fr.refl _ _) sg' rs1⟩
/-- a, b = e1, e2, names -/
def sPar (i j : Nat) (f g : EF) : SF := fun ρ S => bindS (f ρ S) ρ fun x S1 => bindS (g ρ S1) ρ fun y S2 => .fl (.nx ((ρ.set i (some x)).set j (some y))) S2
theorem ds_par {X : Cx} {Wx : WX} {i j : Nat} {x y : Str} {a b : Expr} {f g : EF} {px py pt pos : Pos} {kt k2 pt2} (hc : X.calm = true) (hN : X.N.Nodup) (hi : X.N[i]? = some x) (hj : X.N[j]? = some y) (hij : i ≠ j)
    (hx : X.env.scope.names.lookup x = some .local) (hy : X.env.scope.names.lookup y = some .local) (ha : DE X Wx a f) (hb : DE X Wx b g) (hs0 : starEach (a :: [b]) X.env = (false, eval a X.env) :: starEach [b] X.env := by rfl) (hs1 : starEach (b :: []) X.env = (false, eval b X.env) :: starEach [] X.env := by rfl)
    (hw : swappedStores [.Tuple [.Name x px, .Name y py] kt pt] (.Tuple [a, b] k2 pt2) X.env = pure (some [x, y]) := by rfl)
    (hs : swapsWithSole [.Tuple [.Name x px, .Name y py] kt pt] (.Tuple [a, b] k2 pt2) pos.line X.env = pure false := by rfl) : DS X Wx (.Assign [.Tuple [.Name x px, .Name y py] kt pt] (.Tuple [a, b] k2 pt2) pos) (sPar i j f g) :=
  PS.conv (ps_par hc hN hi hj hij hx hy (pa_cons ha (pa_cons hb pa_nil hs1) hs0) hw hs) fun D σ H ⟨ad, ρ, S, sg, rs, q⟩ => by
    refine ⟨ad, ρ, S, sg, rs, post_mono (bindS_post (Rel := RepW X.K) sg q) ?_⟩
    rintro v H1 ⟨ad1, w, S1, fr, rel, rs1, q1⟩
    refine ⟨ad1, ρ, S1, sg.fr fr, rs1, post_mono (bindS_post (Rel := RepW X.K) (sg.fr fr) q1) ?_⟩
    rintro v2 H2 ⟨ad2, w2, S2, fr2, rel2, rs2, q2⟩
    exact ⟨v, v2, rfl, q2 _ H2 ad2 (Fr.refl _ _) ((((sg.fr fr).fr fr2).set i (rel.fr fr2)).set j rel2) rs2⟩

/-! ### what is walked -/
def Walk (K : PySem.W.Frag) (J : It) (H : Hp) (l : List PyData) : Prop := l.length ≤ sizeLine ∧ ∀ H', Stb H H' → J.stop l.length H' ∧ ∀ (i : Nat) (d : PyData), l[i]? = some d → J.go i H' ∧ ∀ x H'', J.yld i H' x H'' → Ex H' H'' ∧ Rep K H'' x d
abbrev IF := Rho → Sto → Rs (List PyData)
def tDI (K : PySem.W.Frag) (mg : Str → Option Value) (Wx : WX) (f : IF) : TI := fun σ H R => ∃ ad ρ S, Sig K ad H σ ρ ∧ RS K ad H S ∧ post K mg Wx σ ad H (fun _ H' J l => Walk K J H' l) (f ρ S) R
abbrev DI (X : Cx) (Wx : WX) (tg iter : Expr) (f : IF) : Prop := PI X tg iter (tDI X.K X.mg Wx f)
theorem PI.conv {X : Cx} {tg e : Expr} {t t' : TI} (h : PI X tg e t) (c : ∀ σ H Q, t' σ H Q → t σ H Q) : PI X tg e t' := ⟨fun pins s σ H R I q => h.run pins s σ H R I (c _ _ _ q)⟩
theorem walk_list {K : PySem.W.Frag} {H : Hp} {a : Addr} {vs : List V} {l : List PyData} (h : FzL K H a vs) (r : Reps K H vs l) (hz : vs.length ≤ sizeLine) : Walk K (Itl K a) H l := by
  refine ⟨by rw [← r.length]; exact hz, fun H' st => ⟨⟨vs, (h.stb st).sq, by rw [r.length]; exact Nat.le_refl _⟩, fun i d e => ?_⟩⟩
  have r' := Reps.stb st l r
  obtain ⟨v, e1, e2⟩ := r'.get e
  refine ⟨⟨vs, v, (h.stb st).sq, e1⟩, ?_⟩
  rintro x H'' ⟨rfl, y⟩
  have := y vs (h.stb st).sq
  rw [e1] at this; cases this
  exact ⟨Ex.refl _, e2⟩
theorem walk_tup {K : PySem.W.Frag} {H : Hp} {a : Addr} {vs : List V} {l : List PyData} (h : SqT K H a vs) (r : Reps K H vs l) (hz : vs.length ≤ sizeLine) : Walk K (Itt K a) H l := by
  refine ⟨by rw [← r.length]; exact hz, fun H' st => ⟨⟨vs, sqT_stb st h, by rw [r.length]; exact Nat.le_refl _⟩, fun i d e => ?_⟩⟩
  have r' := Reps.stb st l r
  obtain ⟨v, e1, e2⟩ := r'.get e
  refine ⟨⟨vs, v, sqT_stb st h, e1⟩, ?_⟩
  rintro x H'' ⟨rfl, y⟩
  have := y vs (sqT_stb st h)
  rw [e1] at this; cases this
  exact ⟨Ex.refl _, e2⟩
def rangeD (lo : Int) (n : Nat) : List PyData := (List.range n).map fun i => .int (lo + (i : Nat))
theorem walk_range {K : PySem.W.Frag} {H : Hp} {lo : Int} {n : Nat} (hz : n ≤ sizeLine) : Walk K (Itr lo n) H (rangeD lo n) := by
  have hl : (rangeD lo n).length = n := by simp [rangeD]
  refine ⟨by rw [hl]; exact hz, fun H' st => ⟨by rw [hl]; exact Nat.le_refl n, fun i d e => ?_⟩⟩
  have hi : i < n := by rw [← hl]; exact (List.getElem?_eq_some_iff.mp e).1
  have : d = .int (lo + (i : Nat)) := by
    unfold rangeD at e
    rw [List.getElem?_map, List.getElem?_range hi] at e
    exact (Option.some.inj e).symm
  subst this
  refine ⟨hi, ?_⟩
  rintro x H'' ⟨rfl, rfl⟩
  exact ⟨Ex.refl _, .int _⟩
def signsD (z : Str) : List PyData := z.cps.toList.map fun c => .str ⟨#[c]⟩
theorem walk_str {K : PySem.W.Frag} {H : Hp} {z : Str} (hz : strG z = true) : Walk K (Its z) H (signsD z) := by
  have hl : (signsD z).length = z.cps.size := by simp [signsD]
  refine ⟨by rw [hl]; exact strG_len hz, fun H' st => ⟨by rw [hl]; exact Nat.le_refl _, fun i d e => ?_⟩⟩
  have hi : i < z.cps.size := by rw [← hl]; exact (List.getElem?_eq_some_iff.mp e).1
  refine ⟨hi, ?_⟩
  rintro x H'' ⟨rfl, c, hc, rfl⟩
  unfold signsD at e
  rw [List.getElem?_map, Array.getElem?_toList, hc] at e
  cases e
  exact ⟨Ex.refl _, .str _ (sign_G hz (by rw [Array.mem_toList_iff]; exact Array.mem_of_getElem? hc))⟩
def seqD : PyData → Option (List PyData)
  | .list l => some l
  | .tuple l => some l
  | .str z => some (signsD z)
  | _ => none
def iVal (f : EF) : IF := fun ρ S => ((f ρ S).bind frzW).bind fun w S1 => match w with
  | .d x => match seqD x with
    | some l => .ok l S1
    | none => .bad
  | .own _ => .bad
section
variable {X : Cx} {Wx : WX} {tg e : Expr} {f : EF}
theorem di_val (he : DE X Wx e f) : DI X Wx tg e (iVal f) := by
  refine ⟨fun pins s σ H R I ⟨ad, ρ, S, sg, rs, q⟩ => ?_⟩
  refine thn ((de_frz he).run pins s σ H (fun x H1 => ∃ d l, Rep X.K H1 x d ∧ seqD d = some l ∧ ∀ J, Walk X.K J H1 l → R J H1) I ⟨ad, ρ, S, sg, rs, post_mono (post_bind q) ?_⟩) fun v s1 ⟨x, H1, I1, r1, d, l, rd, el, q⟩ => ?_
  · rintro v H1 ⟨ad1, w, S1, fr1, r1, rs1, q1⟩
    cases w with
    | own k => exact q1.elim
    | d x =>
      dsimp only at q1
      cases hx : seqD x with
      | none => rw [hx] at q1; exact q1.elim
      | some l =>
        rw [hx] at q1
        exact ⟨x, l, r1, hx, fun J w => q1 J H1 ad1 (Fr.refl _ _) w rs1⟩
  · cases rd with
    | lst t r =>
      cases el
      cases r1
      obtain ⟨its, rv, p, hz⟩ := I1.list t.sq
      refine wpAny_pyIter_list p.isList ?_
      refine ⟨s1.heap.objs.size, [s1.heap.objs.size], _, _, H1, rfl, I1.kept (t' := s1.toks) fun b o e => Heap.get?_push_of_some _ e, turn_list _ _, ⟨_, Heap.get?_push_size _ rfl, rfl, rfl⟩, fun b hb => ?_, q _ (walk_list t r hz)⟩
      have e : b = s1.heap.objs.size := by simpa using hb
      subst e
      exact I1.fpOk (Nat.le_refl _) (I1.hok.fresh (Nat.le_refl _))
    | tup t r =>
      cases el
      cases r1
      obtain ⟨its, rv, p, hz⟩ := I1.tuple t
      refine wpAny_pyIter_tuple (show s1.heap.IsTuple _ its.toArray from p) ?_
      refine ⟨s1.heap.objs.size, [s1.heap.objs.size], _, _, H1, rfl, I1.kept (t' := s1.toks) fun b o e => Heap.get?_push_of_some _ e, turn_tuple _ _, ⟨_, Heap.get?_push_size _ rfl, rfl, rfl⟩, fun b hb => ?_, q _ (walk_tup t r hz)⟩
      have e : b = s1.heap.objs.size := by simpa using hb
      subst e
      exact I1.fpOk (Nat.le_refl _) (I1.hok.fresh (Nat.le_refl _))
    | str z hz =>
      cases el
      obtain ⟨t, rfl⟩ := r1
      cases ha : z.cps.all (· < 128)
      · exact wpAny_pyIter_wide ha (pi_one (tk := s1.toks) I1 _ (turn_str _ z t "str_iterator" (.inr rfl)) ⟨_, Heap.get?_push_size _ rfl, rfl, rfl⟩ (q _ (walk_str hz)))
      · exact wpAny_pyIter_ascii ha (pi_one (tk := s1.toks) I1 _ (turn_str _ z t "str_ascii_iterator" (.inl rfl)) ⟨_, Heap.get?_push_size _ rfl, rfl, rfl⟩ (q _ (walk_str hz)))
    | _ => cases el
def rngOk (i : Int) : Bool := decide (-(2 ^ 62) ≤ i ∧ i < 2 ^ 62)
theorem rng_of {i : Int} (h : rngOk i = true) : -(2 ^ 62) ≤ i ∧ i < 2 ^ 62 := of_decide_eq_true h
def iRange1 (f : LF) : IF := fun ρ S => (f ρ S).bind fun ws S1 => match ws with
  | [.d (.int j)] => if rngOk j && decide (j.toNat ≤ sizeLine) then .ok (rangeD 0 j.toNat) S1 else .bad
  | _ => .bad
def iRange2 (f : LF) : IF := fun ρ S => (f ρ S).bind fun ws S1 => match ws with
  | [.d (.int i), .d (.int j)] => if rngOk i && rngOk j && decide ((j - i).toNat ≤ sizeLine) then .ok (rangeD i (j - i).toNat) S1 else .bad
  | _ => .bad
theorem di_range1 {a : Expr} {l : LF} {p pos : Pos} (hg : Gl X "range") (hm : X.mg "range" = none) (ha : DA X Wx [a] l) (hs : starEach [a] X.env = [(false, eval a X.env)] := by rfl) : DI X Wx tg (.Call (.Name "range" p) [a] [] pos) (iRange1 l) :=
  PI.conv (pi_range1 hg hm ha hs) fun σ H R ⟨ad, ρ, S, sg, rs, q⟩ => by
    refine ⟨ad, ρ, S, sg, rs, post_mono (post_bind q) ?_⟩
    rintro vs H1 ⟨ad1, ws, S1, fr1, r1, rs1, q1⟩
    split at q1
    · split at q1
      · rename_i hb
        rw [Bool.and_eq_true] at hb
        obtain ⟨h1, h2⟩ := hb
        cases r1 with
        | cons r rr =>
          cases rr
          cases r
          exact ⟨_, rfl, (rng_of h1).1, (rng_of h1).2, q1 _ H1 ad1 (Fr.refl _ _) (walk_range (of_decide_eq_true h2)) rs1⟩
      · exact q1.elim
    · exact q1.elim
theorem di_range2 {a b : Expr} {l : LF} {p pos : Pos} (hg : Gl X "range") (hm : X.mg "range" = none) (ha : DA X Wx [a, b] l) (hs : starEach [a, b] X.env = [(false, eval a X.env), (false, eval b X.env)] := by rfl) (hs2 : starEach [b] X.env = [(false, eval b X.env)] := by rfl) :
    DI X Wx tg (.Call (.Name "range" p) [a, b] [] pos) (iRange2 l) :=
  PI.conv (pi_range2 hg hm ha hs hs2) fun σ H R ⟨ad, ρ, S, sg, rs, q⟩ => by
    refine ⟨ad, ρ, S, sg, rs, post_mono (post_bind q) ?_⟩
    rintro vs H1 ⟨ad1, ws, S1, fr1, r1, rs1, q1⟩
    split at q1
    · split at q1
      · rename_i hb
        rw [Bool.and_eq_true, Bool.and_eq_true] at hb
        obtain ⟨⟨h1, h3⟩, h2⟩ := hb
        cases r1 with
        | cons r rr =>
          cases rr with
          | cons r' rr =>
            cases rr
            cases r
            cases r'
            exact ⟨_, _, rfl, ⟨(rng_of h1).1, (rng_of h1).2, (rng_of h3).1, (rng_of h3).2⟩, q1 _ H1 ad1 (Fr.refl _ _) (walk_range (of_decide_eq_true h2)) rs1⟩
      · exact q1.elim
    · exact q1.elim
end

/-! ### for, while -/
def forRun (t : GF) (b : SF) : List PyData → SF
  | [], ρ, S => .fl (.nx ρ) S
  | d :: l, ρ, S => match t d ρ with
    | some ρ1 => stepR (b ρ1 S) (forRun t b l)
    | none => .bad
def sFor (i : IF) (t : GF) (b : SF) : SF := fun ρ S => bindS (i ρ S) ρ fun l S1 => forRun t b l ρ S1
theorem ds_for {X : Cx} {Wx : WX} {tg iter : Expr} {body : List Stmt} {i : IF} {ix : List Nat} {t : GF} {b : SF} {pos : Pos} (hp : PassesOwn (model X.prog X.w) X.A X.env X.xe) (hc : X.calm = true) (hi : DI X Wx tg iter i) (hg : DG X ix tg t) (hb : DSs X Wx body b)
    (hs : ∀ x, foldedSetIterable iter X.env x = pure x := by intro _; rfl) : DS X Wx (.For tg iter body [] pos) (sFor i t b) := PS.conv (ps_for hp hc hi hg hb hs) fun D σ H ⟨ad, ρ, S, sg, rs, q⟩ => by
  refine ⟨ad, ρ, S, sg, rs, post_mono (bindS_post sg q) ?_⟩
  rintro J H1 ⟨ad1, l, S1, fr1, ⟨hz, wk⟩, rs1, q1⟩
  refine ⟨fun n m σ' H' => m = l.length - n ∧ n ≤ l.length ∧ Stb H1 H' ∧ ∃ ad' ρ' S', Sig X.K ad' H' σ' ρ' ∧ RS X.K ad' H' S' ∧ postS X.K X.mg Wx ad' H' (forRun t b (l.drop n) ρ' S') D,
    ⟨l.length, by simp, Nat.zero_le _, Stb.refl _, ad1, ρ, S1, sg.fr fr1, rs1, by simpa using q1⟩, ?_⟩
  rintro n m σ' H' ⟨rfl, hn, st, ad', ρ', S', sg', rs', q'⟩
  obtain ⟨stop, go⟩ := wk H' st
  by_cases hlt : n < l.length
  · refine .inr ?_
    obtain ⟨hgo, yl⟩ := go n l[n] (by simp [hlt])
    refine ⟨hgo, fun σ2 H2 => Stb H1 H2 ∧ ∃ ad' ρ' S', Sig X.K ad' H2 σ2 ρ' ∧ RS X.K ad' H2 S' ∧ postS X.K X.mg Wx ad' H2 (forRun t b (l.drop (n + 1)) ρ' S') D, fun σ2 H2 ⟨st2, z⟩ => ⟨l.length - (n + 1), by omega, rfl, hlt, st2, z⟩, fun x H2 y => ?_⟩
    obtain ⟨ex, rx⟩ := yl x H2 y
    rw [List.drop_eq_getElem_cons hlt] at q'
    unfold forRun at q'
    cases ht : t l[n] ρ' with
    | none => rw [ht] at q'; exact q'.elim
    | some ρ1 =>
      rw [ht] at q'
      refine ⟨ad', ρ', l[n], ρ1, sg'.fr ex.fr, rx, ht, fun σ3 sg3 _ => ⟨ad', ρ1, S', sg3, rs'.ex ex, ?_⟩⟩
      exact postS_step (fun σ4 H4 ad4 ρ4 S4 fr4 sg4 rs4 z => ⟨(st.trans ex.stb).trans fr4.stb, ad4, ρ4, S4, sg4, rs4, z⟩) (postS_fr q' ex.fr)
  · have e : n = l.length := by omega
    subst e
    rw [List.drop_length] at q'
    exact .inl ⟨stop, q' σ' H' ad' (Fr.refl _ _) sg' rs'⟩
def whileN (c : BF) (b : SF) : Nat → SF
  | 0, _, _ => .bad
  | n + 1, ρ, S => bindS (c ρ S) ρ fun k S1 => if k = true then stepR (b ρ S1) (whileN c b n) else .fl (.nx ρ) S1
theorem stepR_mono {r : RF} {k k' : SF} (h : ∀ ρ S, k ρ S ≠ .bad → k' ρ S = k ρ S) (hb : stepR r k ≠ .bad) : stepR r k' = stepR r k := by
  cases r with
  | bad => rfl
  | exc x ρ S => rfl
  | fl g S =>
    cases g with
    | nx ρ => exact h ρ S hb
    | ct ρ => exact h ρ S hb
    | bk ρ => rfl
    | rt w => rfl
theorem whileN_succ {c : BF} {b : SF} : ∀ (n : Nat) (ρ : Rho) (S : Sto), whileN c b n ρ S ≠ .bad → whileN c b (n + 1) ρ S = whileN c b n ρ S
  | 0, _, _, h => absurd rfl h
  | n + 1, ρ, S, h => by
    have h' : bindS (c ρ S) ρ (fun k S1 => if k = true then stepR (b ρ S1) (whileN c b n) else .fl (.nx ρ) S1) ≠ .bad := h
    show bindS (c ρ S) ρ (fun k S1 => if k = true then stepR (b ρ S1) (whileN c b (n + 1)) else .fl (.nx ρ) S1) = bindS (c ρ S) ρ (fun k S1 => if k = true then stepR (b ρ S1) (whileN c b n) else .fl (.nx ρ) S1)
    revert h'
    cases c ρ S with
    | bad => exact fun h' => absurd rfl h'
    | exc x S1 => exact fun _ => rfl
    | ok k S1 =>
      intro h'
      cases k with
      | true => exact stepR_mono (whileN_succ n) h'
      | false => rfl
theorem whileN_add {c : BF} {b : SF} {n : Nat} {ρ : Rho} {S : Sto} (h : whileN c b n ρ S ≠ .bad) : ∀ m, whileN c b (n + m) ρ S = whileN c b n ρ S
  | 0 => rfl
  | m + 1 => by
    have ih := whileN_add h m
    rw [← Nat.add_assoc, whileN_succ _ _ _ (by rw [ih]; exact h), ih]
open Classical in
noncomputable def sWhile (c : BF) (b : SF) : SF := fun ρ S => if h : ∃ n, whileN c b n ρ S ≠ .bad then whileN c b h.choose ρ S else .bad
theorem sWhile_eq {c : BF} {b : SF} {n : Nat} {ρ : Rho} {S : Sto} {r : RF} (e : whileN c b n ρ S = r) (h : r ≠ .bad) : sWhile c b ρ S = r := by
  have hx : ∃ n, whileN c b n ρ S ≠ .bad := ⟨n, by rw [e]; exact h⟩
  unfold sWhile
  rw [dif_pos hx]
  have h1 := whileN_add hx.choose_spec n
  have h2 := whileN_add (n := n) (by rw [e]; exact h) hx.choose
  rw [← h1, Nat.add_comm, h2, e]
theorem ds_while {X : Cx} {Wx : WX} {c : Expr} {body : List Stmt} {u : BF} {b : SF} {pos : Pos} (hp : PassesOwn (model X.prog X.w) X.A X.env X.xe) (hc : DT X Wx c u) (hb : DSs X Wx body b) : DS X Wx (.While c body [] pos) (sWhile u b) := PS.conv (ps_while hp hc hb) fun D σ H ⟨ad, ρ, S, sg, rs, q⟩ => by
  have hx : ∃ n, postS X.K X.mg Wx ad H (whileN u b n ρ S) D := by
    unfold sWhile at q
    split at q
    · exact ⟨_, q⟩
    · exact q.elim
  obtain ⟨n0, q0⟩ := hx
  refine ⟨fun m σ' H' => ∃ ad' ρ' S', Sig X.K ad' H' σ' ρ' ∧ RS X.K ad' H' S' ∧ postS X.K X.mg Wx ad' H' (whileN u b m ρ' S') D, ⟨n0, ad, ρ, S, sg, rs, q0⟩, ?_⟩
  rintro m σ' H' ⟨ad', ρ', S', sg', rs', q'⟩
  cases m with
  | zero => exact q'.elim
  | succ m =>
    refine ⟨ad', ρ', S', sg', rs', post_mono (bindS_post (Rel := fun _ _ v b => v = b) sg' q') ?_⟩
    rintro k H1 ⟨ad1, w, S1, fr1, rel, rs1, q1⟩
    subst rel
    cases k with
    | true =>
      rw [if_pos rfl] at q1 ⊢
      refine ⟨fun σ2 H2 => ∃ ad' ρ' S', Sig X.K ad' H2 σ2 ρ' ∧ RS X.K ad' H2 S' ∧ postS X.K X.mg Wx ad' H2 (whileN u b m ρ' S') D, fun σ2 H2 z => ⟨m, Nat.lt_succ_self m, z⟩, ad1, ρ', S1, sg'.fr fr1, rs1, ?_⟩
      exact postS_step (fun σ4 H4 ad4 ρ4 S4 fr4 sg4 rs4 z => ⟨ad4, ρ4, S4, sg4, rs4, z⟩) q1
    | false =>
      rw [if_neg Bool.false_ne_true] at q1 ⊢
      exact q1 σ' H1 ad1 (Fr.refl _ _) (sg'.fr fr1) rs1

/-! ### list comprehensions -/
def W0 : WX := fun _ _ _ _ => False
def wipeR (ρ : Rho) : List Nat → Rho
  | [] => ρ
  | v :: vs => (wipeR ρ vs).set v none
theorem sig_wipe {K : PySem.W.Frag} {ad : List Addr} {H : Hp} {σ : L2.St} {ρ : Rho} (sg : Sig K ad H σ ρ) : ∀ vs, Sig K ad H (wipe σ vs) (wipeR ρ vs)
  | [] => sg
  | v :: vs => by
    have ih := sig_wipe sg vs
    refine ⟨by show ((wipe σ vs).set v none).length = ((wipeR ρ vs).set v none).length; rw [List.length_set, List.length_set]; exact ih.len, fun j u e => ?_⟩
    have e : ((wipeR ρ vs).set v none)[j]? = some (some u) := e
    by_cases hj : v = j
    · subst hj
      by_cases hi : v < (wipeR ρ vs).length
      · rw [List.getElem?_set_self hi] at e; cases e
      · rw [List.getElem?_eq_none (by simpa using hi)] at e; cases e
    · rw [List.getElem?_set_ne hj] at e
      obtain ⟨v', e1, e2⟩ := ih.sl j u e
      exact ⟨v', by show ((wipe σ vs).set v none)[j]? = _; rw [List.getElem?_set_ne hj]; exact e1, e2⟩
theorem wipe_same {σ σ' : L2.St} {ix : List Nat} : ∀ {vs : List Nat}, (∀ j ∈ ix, j ∈ vs) → SameBut ix σ σ' → wipe σ' vs = wipe σ vs := fun {vs} h sb => by
  have hz : ∀ (vs : List Nat) (τ : L2.St) (j : Nat), j ∈ vs → j < τ.length → (wipe τ vs)[j]? = some none := by
    intro vs
    induction vs with
    | nil => intro τ j hj; simp at hj
    | cons v vs ih =>
      intro τ j hj hl
      show ((wipe τ vs).set v none)[j]? = some none
      by_cases e : v = j
      · subst e
        rw [List.getElem?_set_self (by rw [wipe_length]; exact hl)]
      · rw [List.getElem?_set_ne e]
        rcases List.mem_cons.mp hj with z | z
        · exact absurd z.symm e
        · exact ih τ j z hl
  apply List.ext_getElem?
  intro j
  by_cases hv : j ∈ vs
  · by_cases hl : j < σ.length
    · rw [hz vs σ j hv hl, hz vs σ' j hv (by rw [sb.1]; exact hl)]
    · rw [List.getElem?_eq_none (by rw [wipe_length]; have := sb.1; omega), List.getElem?_eq_none (by rw [wipe_length]; have := sb.1; omega)]
  · rw [wipe_out hv, wipe_out hv]
    exact sb.2 j fun z => hv (h j z)
def lcRun (t : GF) (c : BF) (f : EF) (ρ : Rho) : List PyData → List PyData → Sto → Rs (List PyData)
  | [], acc, S => .ok acc S
  | d :: l, acc, S => match t d ρ with
    | some ρ1 => match c ρ1 S with
      | .ok true S1 => match f ρ1 S1 with
        | .ok (.d y) S2 => lcRun t c f ρ l (acc ++ [y]) S2
        | _ => .bad
      | .ok false S1 => lcRun t c f ρ l acc S1
      | _ => .bad
    | none => .bad
def bYes : BF := fun _ S => .ok true S
def mLc (i : IF) (t : GF) (c : BF) (f : EF) (vs : List Nat) : MF := fun ρ S => (i ρ S).bind fun l S1 => lcRun t c f (wipeR ρ vs) l [] S1
abbrev DTs (X : Cx) (Wx : WX) (ifs : List Expr) (u : BF) : Prop := PTs X ifs (tDT X.K X.mg Wx u)
theorem dts_nil {X : Cx} {Wx : WX} : DTs X Wx [] bYes := ⟨fun pins s σ H Q I ⟨ad, ρ, S, sg, rs, q⟩ => pts_nil.run pins s σ H Q I (q _ H ad (Fr.refl _ _) rfl rs)⟩
theorem dts_one {X : Cx} {Wx : WX} {c : Expr} {u : BF} (h : DT X Wx c u) : DTs X Wx [c] u := pts_one h
theorem post_fr {α β : Type} {K : PySem.W.Frag} {mg : Str → Option Value} {Wx : WX} {σ : L2.St} {ad ad1 : List Addr} {H H1 : Hp} {Rel : List Addr → Hp → β → α → Prop} {r : Rs α} {Q : β → Hp → Prop} (h : post K mg Wx σ ad H Rel r Q) (f : Fr ad H ad1 H1) : post K mg Wx σ ad1 H1 Rel r Q := by
  cases r with
  | bad => exact h
  | exc x S => exact fun cls d H' ad' fr => h cls d H' ad' (f.trans fr)
  | ok w S => exact fun v H' ad' fr => h v H' ad' (f.trans fr)
theorem wipe_wipe (σ : L2.St) (vs : List Nat) : wipe (wipe σ vs) vs = wipe σ vs := wipe_same (ix := vs) (fun _ h => h) ⟨wipe_length σ vs, fun _ hj => wipe_out hj⟩
theorem lcRun_noexc {t : GF} {c : BF} {f : EF} {ρ : Rho} {x : Xc} {S' : Sto} : ∀ (l acc : List PyData) (S : Sto), lcRun t c f ρ l acc S ≠ .exc x S'
  | [], _, _, h => by cases h
  | d :: l, acc, S, h => by
    unfold lcRun at h
    cases ht : t d ρ with
    | none => rw [ht] at h; cases h
    | some ρ1 =>
      rw [ht] at h
      dsimp only at h
      split at h
      · split at h
        · exact lcRun_noexc l _ _ h
        · cases h
      · exact lcRun_noexc l _ _ h
      · cases h
theorem lc_conv {K : PySem.W.Frag} {mg : Str → Option Value} {Wx : WX} {i : IF} {t : GF} {c : BF} {f : EF} {vs ix : List Nat} (hv : ∀ j ∈ ix, j ∈ vs) {σ : L2.St} {H : Hp} {Q : VK} (q : tDM K mg Wx (mLc i t c f vs) σ H Q) :
    tLc (tDI K mg Wx i) (tDG K ix t) (tDT K mg W0 c) (tD K mg W0 f) vs σ H Q := by
  obtain ⟨ad, ρ, S, sg, rs, q⟩ := q
  refine ⟨ad, ρ, S, sg, rs, post_mono (post_bind q) ?_⟩
  rintro J H1 ⟨ad1, l, S1, fr1, ⟨hz, wk⟩, rs1, q1⟩ D hD
  obtain ⟨h0, hDn⟩ := fr1.back rs1 hD
  obtain ⟨R, hR⟩ : ∃ R, R = lcRun t c f (wipeR ρ vs) l [] S1 := ⟨_, rfl⟩
  rw [← hR] at q1
  have sg1 := sig_wipe (sg.fr fr1) vs
  refine ⟨fun n m H' => m = l.length - n ∧ n ≤ l.length ∧ ∃ ad' S' accV accD, Fr ad1 H1 ad' H' ∧ RS K ad' H' S' ∧ D ∉ ad' ∧ H' D = some (.lst accV) ∧ Reps K H' accV accD ∧ accD.length ≤ n ∧ lcRun t c f (wipeR ρ vs) (l.drop n) accD S' = R,
    ⟨l.length, by simp, Nat.zero_le _, ad1, S1, [], [], (Ex.new hD).fr, rs1.ex (Ex.new hD), hDn, upd_same, .nil, Nat.le_refl _, by rw [hR]; simp⟩, ?_⟩
  rintro n m H' ⟨rfl, hn, ad', S', accV, accD, fr', rs', hn', hD', rp, hle, e⟩
  obtain ⟨stop, go⟩ := wk H' fr'.stb
  by_cases hlt : n < l.length
  · refine .inr ?_
    obtain ⟨hgo, yl⟩ := go n l[n] (by simp [hlt])
    refine ⟨hgo, fun H2 => ∃ ad' S' accV accD, Fr ad1 H1 ad' H2 ∧ RS K ad' H2 S' ∧ D ∉ ad' ∧ H2 D = some (.lst accV) ∧ Reps K H2 accV accD ∧ accD.length ≤ n + 1 ∧ lcRun t c f (wipeR ρ vs) (l.drop (n + 1)) accD S' = R,
      fun H2 z => ⟨l.length - (n + 1), by omega, rfl, hlt, z⟩, fun x H2 y => ?_⟩
    obtain ⟨ex, rx⟩ := yl x H2 y
    have fr2 := fr'.trans (ex.fr (ad := ad'))
    have nb : R ≠ .bad := fun z => by rw [z] at q1; exact q1
    rw [← e, List.drop_eq_getElem_cons hlt] at nb
    rw [List.drop_eq_getElem_cons hlt] at e
    unfold lcRun at nb e
    cases ht : t l[n] (wipeR ρ vs) with
    | none => rw [ht] at nb; exact absurd rfl nb
    | some ρ1 =>
      rw [ht] at nb e
      refine ⟨ad', wipeR ρ vs, l[n], ρ1, sg1.fr fr2, rx, ht, fun σ2 sg2 sb => ⟨(wipe_same hv sb).trans (wipe_wipe σ vs), ?_⟩⟩
      refine ⟨ad', ρ1, S', sg2, rs'.ex ex, ?_⟩
      dsimp only at nb e
      cases hc : c ρ1 S' with
      | bad => rw [hc] at nb; exact absurd rfl nb
      | exc x S2 => rw [hc] at nb; exact absurd rfl nb
      | ok b S2 =>
        rw [hc] at nb e
        intro b' H3 ad3 fr3 eb rs3
        subst eb
        have hD3 : H3 D = some (.lst accV) := fr3.keep D _ (ex D _ hD') hn'
        have hn3 : D ∉ ad3 := fun z => by
          have := fr3.new D z hn'
          rw [ex D _ hD'] at this; cases this
        cases b' with
        | false =>
          rw [if_neg Bool.false_ne_true]
          exact ⟨ad3, S2, accV, accD, fr2.trans fr3, rs3, hn3, hD3, Reps.stb (ex.stb.trans fr3.stb) _ rp, Nat.le_succ_of_le hle, e⟩
        | true =>
          rw [if_pos rfl]
          refine ⟨ad3, ρ1, S2, sg2.fr fr3, rs3, ?_⟩
          dsimp only at nb e
          cases hf : f ρ1 S2 with
          | bad => rw [hf] at nb; exact absurd rfl nb
          | exc x S3 => rw [hf] at nb; exact absurd rfl nb
          | ok w S3 =>
            rw [hf] at nb e
            cases w with
            | own k => exact absurd rfl nb
            | d y =>
              intro yv H4 ad4 fr4 ry rs4
              have hD4 : H4 D = some (.lst accV) := fr4.keep D _ hD3 hn3
              have hn4 : D ∉ ad4 := fun z => by
                have := fr4.new D z hn3
                rw [hD3] at this; cases this
              have st : Stb H4 (upd H4 D (.lst (accV ++ [yv]))) := stb_upd hD4
              refine ⟨accV, hD4, by rw [rp.length]; omega, ad4, S3, accV ++ [yv], accD ++ [y], fr_upd ((fr2.trans fr3).trans fr4) hD hn4 hD4, rs_upd rs4 hn4 hD4, hn4, upd_same, ?_, by simp; omega, e⟩
              exact Reps.append (Reps.stb (((ex.stb.trans fr3.stb).trans fr4.stb).trans st) _ rp) (.cons (Rep.stb st _ ry) .nil)
  · have en : n = l.length := by omega
    subst en
    rw [List.drop_length] at e
    refine .inl ⟨stop, ?_⟩
    rw [← e] at q1
    exact q1 (.ref D) H' ad' fr' ⟨D, accV, rfl, h0, hn', hD', rp⟩ rs'
section
variable {X : Cx} {Wx : WX} {elt tg iter : Expr} {ifs : List Expr} {scope : Scope} {own : List (Str × Nat)} {i : IF} {t : GF} {c : BF} {f : EF} {ix : List Nat} {pos : Pos}
theorem dm_lc (hc : X.calm = true) (hN : X.N.Nodup) (hi : DI X Wx tg iter i) (ok : BlkOk X.N X.env.scope scope own) (hv : ∀ j ∈ ix, j ∈ own.map (·.2))
    (hg : ∀ (s : Shared) (H : Hp) (C : Addr) (cl : List (Str × Addr)) (fp : List Addr), DG (X.blk s H scope (compEnvC scope cl C X.env) fp) ix tg t) (ht : ∀ (s : Shared) (H : Hp) (C : Addr) (cl : List (Str × Addr)) (fp : List Addr), DTs (X.blk s H scope (compEnvC scope cl C X.env) fp) W0 ifs c)
    (he : ∀ (s : Shared) (H : Hp) (C : Addr) (cl : List (Str × Addr)) (fp : List Addr), DE (X.blk s H scope (compEnvC scope cl C X.env) fp) W0 elt f) (hs : ∀ x, foldedSetIterable iter X.env x = pure x := by intro _; rfl) :
    DM X Wx (.ListComp elt [⟨tg, iter, ifs, 0⟩] scope pos) (mLc i t c f (own.map (·.2))) := PE.conv (pe_lc hc hN hi ok hg ht he hs) fun σ H Q q => lc_conv hv q
/-- y = [..], the list locked, or a changing one -/
def sSetM (j : Nat) (m : MF) : SF := fun ρ S => bindS (m ρ S) ρ fun l S1 => .fl (.nx (ρ.set j (some (.own S1.length)))) (S1 ++ [.lst l])
end
end DL

set_option Elab.async false
set_option linter.all false
set_option maxRecDepth 100000
set_option maxHeartbeats 4000000
/-! D5: defs and their calls; names of the module; a comprehension stored; a changing thing changed. -/
namespace DL
open PySem PySem.Spec PyProof.Rows L2

/-! ### a comprehension that is stored on its line -/
theorem ps_freezeAt {X : Cx} {st : Stmt} {t : TS} (h : PS X st t) : PS X st (fun D σ H => t { D with nx := fun σ1 H1 => ∃ a vs, H1 a = some (.lst vs) ∧ ∀ o, D.nx σ1 (upd H1 a (.frz o (.lst vs))) } σ H) := by
  refine ⟨fun pins s σ H D I q => thn (h.run pins s σ H _ I q) fun f s1 z => ?_⟩
  cases f with
  | next =>
    obtain ⟨σ1, H1, I1, a, vs, e, q1⟩ := z
    obtain ⟨o, I2⟩ := DL.freeze I1 e
    exact ⟨σ1, _, I2, q1 o⟩
  | brk => exact z
  | cont => exact z
  | ret u => exact z
theorem made_frz {K : PySem.W.Frag} {ad ad1 : List Addr} {H H1 : Hp} {p : Addr} {vs : List V} {l : List PyData} {S : Sto} {o : Obj} (fr : Fr ad H ad1 H1) (h0 : H p = none) (hp : p ∉ ad1) (e : H1 p = some (.lst vs)) (r : Reps K H1 vs l) (rs : RS K ad1 H1 S) :
    Fr ad H ad1 (upd H1 p (.frz o (.lst vs))) ∧ Rep K (upd H1 p (.frz o (.lst vs))) (.ref p) (.list l) ∧ RS K ad1 (upd H1 p (.frz o (.lst vs))) S :=
  ⟨fr_upd fr h0 hp e, .lst (.inl ⟨o, upd_same⟩) (Reps.stb (stb_upd e) _ r), rs_upd rs hp e⟩
theorem made_own {K : PySem.W.Frag} {ad ad1 : List Addr} {H H1 : Hp} {p : Addr} {vs : List V} {l : List PyData} {S : Sto} (fr : Fr ad H ad1 H1) (h0 : H p = none) (hp : p ∉ ad1) (e : H1 p = some (.lst vs)) (r : Reps K H1 vs l) (rs : RS K ad1 H1 S) :
    Fr ad H (ad1 ++ [p]) H1 ∧ RepW K (ad1 ++ [p]) H1 (.ref p) (.own S.length) ∧ RS K (ad1 ++ [p]) H1 (S ++ [.lst l]) := by
  have hl := rs.len
  refine ⟨⟨?_, fr.keep, fun a ha hn => ?_, fr.stb⟩, ⟨p, ?_, rfl⟩, ⟨?_, ?_, fun (k : Nat) (ob : MO) z => ?_⟩⟩
  · obtain ⟨t, e⟩ := fr.ext
    exact ⟨t ++ [p], by rw [e, List.append_assoc]⟩
  · rcases List.mem_append.mp ha with z | z
    · exact fr.new a z hn
    · have : a = p := by simpa using z
      rw [this]; exact h0
  · rw [← hl]; simp
  · simp [hl]
  · rw [List.nodup_append]
    exact ⟨rs.nd, by simp, fun a ha b hb z => by
      have : b = p := by simpa using hb
      subst z this
      exact hp ha⟩
  · by_cases hk : k < S.length
    · rw [List.getElem?_append_left hk] at z
      obtain ⟨a, z1, z2⟩ := rs.ob k ob z
      exact ⟨a, by rw [List.getElem?_append_left (by rw [hl]; exact hk)]; exact z1, z2⟩
    · rw [List.getElem?_append_right (by omega)] at z
      have hk2 : k - S.length = 0 := by
        by_cases hh : k - S.length = 0
        · exact hh
        · rw [List.getElem?_eq_none (by simp; omega)] at z; cases z
      rw [hk2] at z
      simp at z
      subst z
      refine ⟨p, ?_, vs, e, r⟩
      rw [List.getElem?_append_right (by omega), hl, hk2]; rfl
/-- a changing thing more is told of: the frame stays -/
theorem Fr.left {ad ad1 ad2 : List Addr} {H H1 H2 : Hp} (a : Fr ad H ad1 H1) (b : Fr ad1 H1 ad2 H2) : Fr ad H ad2 H2 := a.trans b
section
variable {X : Cx} {Wx : WX} {elt tg iter : Expr} {ifs : List Expr} {scope : Scope} {own : List (Str × Nat)} {i : IF} {t : GF} {c : BF} {f : EF} {ix : List Nat} {pos spos py : Pos} {y : Str} {j : Nat}
theorem ds_setLc (hc : X.calm = true) (hN : X.N.Nodup) (hy : X.N[j]? = some y) (hyl : X.env.scope.names.lookup y = some .local) (hsw : swapsWith (.ListComp elt [⟨tg, iter, ifs, 0⟩] scope pos) (some (.Name y py)) spos.line X.env = pure true)
    (hi : DI X Wx tg iter i) (ok : BlkOk X.N X.env.scope scope own) (hv : ∀ j ∈ ix, j ∈ own.map (·.2))
    (hg : ∀ (s : Shared) (H : Hp) (C : Addr) (cl : List (Str × Addr)) (fp : List Addr), DG (X.blk s H scope (compEnvC scope cl C X.env) fp) ix tg t) (ht : ∀ (s : Shared) (H : Hp) (C : Addr) (cl : List (Str × Addr)) (fp : List Addr), DTs (X.blk s H scope (compEnvC scope cl C X.env) fp) W0 ifs c)
    (he : ∀ (s : Shared) (H : Hp) (C : Addr) (cl : List (Str × Addr)) (fp : List Addr), DE (X.blk s H scope (compEnvC scope cl C X.env) fp) W0 elt f) (hs : ∀ x, foldedSetIterable iter X.env x = pure x := by intro _; rfl) :
    DS X Wx (.Assign [.Name y py] (.ListComp elt [⟨tg, iter, ifs, 0⟩] scope pos) spos) (sSet j (eFz (mLc i t c f (own.map (·.2))))) := by
  have p : PS X (.Assign [.Name y py] (.ListComp elt [⟨tg, iter, ifs, 0⟩] scope pos) spos) (tAsg (tLc (tDI X.K X.mg Wx i) (tDG X.K ix t) (tDT X.K X.mg W0 c) (tD X.K X.mg W0 f) (own.map (·.2))) (gName j)) := ps_setLc hc hN hy hyl hsw hi ok hg ht he hs
  refine PS.conv (ps_freezeAt p) fun D σ H ⟨ad, ρ, S, sg, rs, q⟩ => ?_
  refine lc_conv (Wx := Wx) hv ⟨ad, ρ, S, sg, rs, ?_⟩
  unfold sSet eFz at q
  revert q
  cases mLc i t c f (own.map (·.2)) ρ S with
  | bad => exact fun z => z
  | exc x S' => exact fun q cls d H' ad' fr xr rs' => q cls d σ H' ad' fr (sg.fr fr) xr rs'
  | ok l S' =>
    rintro q v H1 ad1 fr ⟨p, vs, rfl, h0, hp, e2, r⟩ rs1
    refine ⟨p, vs, e2, fun o => ?_⟩
    obtain ⟨a1, a2, a3⟩ := made_frz (o := o) fr h0 hp e2 r rs1
    exact q _ _ ad1 a1 ((sg.fr a1).set j (w := .d (.list l)) a2) a3
theorem ds_setLcO (hc : X.calm = true) (hN : X.N.Nodup) (hy : X.N[j]? = some y) (hyl : X.env.scope.names.lookup y = some .local) (hsw : swapsWith (.ListComp elt [⟨tg, iter, ifs, 0⟩] scope pos) (some (.Name y py)) spos.line X.env = pure true)
    (hi : DI X Wx tg iter i) (ok : BlkOk X.N X.env.scope scope own) (hv : ∀ j ∈ ix, j ∈ own.map (·.2))
    (hg : ∀ (s : Shared) (H : Hp) (C : Addr) (cl : List (Str × Addr)) (fp : List Addr), DG (X.blk s H scope (compEnvC scope cl C X.env) fp) ix tg t) (ht : ∀ (s : Shared) (H : Hp) (C : Addr) (cl : List (Str × Addr)) (fp : List Addr), DTs (X.blk s H scope (compEnvC scope cl C X.env) fp) W0 ifs c)
    (he : ∀ (s : Shared) (H : Hp) (C : Addr) (cl : List (Str × Addr)) (fp : List Addr), DE (X.blk s H scope (compEnvC scope cl C X.env) fp) W0 elt f) (hs : ∀ x, foldedSetIterable iter X.env x = pure x := by intro _; rfl) :
    DS X Wx (.Assign [.Name y py] (.ListComp elt [⟨tg, iter, ifs, 0⟩] scope pos) spos) (sSet j (eOwn (mLc i t c f (own.map (·.2))))) := by
  have p : PS X (.Assign [.Name y py] (.ListComp elt [⟨tg, iter, ifs, 0⟩] scope pos) spos) (tAsg (tLc (tDI X.K X.mg Wx i) (tDG X.K ix t) (tDT X.K X.mg W0 c) (tD X.K X.mg W0 f) (own.map (·.2))) (gName j)) := ps_setLc hc hN hy hyl hsw hi ok hg ht he hs
  refine PS.conv p fun D σ H ⟨ad, ρ, S, sg, rs, q⟩ => ?_
  refine lc_conv (Wx := Wx) hv ⟨ad, ρ, S, sg, rs, ?_⟩
  unfold sSet eOwn at q
  revert q
  cases mLc i t c f (own.map (·.2)) ρ S with
  | bad => exact fun z => z
  | exc x S' => exact fun q cls d H' ad' fr xr rs' => q cls d σ H' ad' fr (sg.fr fr) xr rs'
  | ok l S' =>
    rintro q v H1 ad1 fr ⟨p, vs, rfl, h0, hp, e2, r⟩ rs1
    obtain ⟨a1, a2, a3⟩ := made_own fr h0 hp e2 r rs1
    exact q _ _ _ a1 ((sg.fr a1).set j a2) a3
end

/-! ### names of the module -/
structure Gv (K : PySem.W.Frag) (mg : Str → Option Value) (x : Str) (d : PyData) : Prop where
  ex : ∃ u v, mg x = some u ∧ RelV v u ∧ ∀ H, Rep K H v d
theorem de_glob {X : Cx} {Wx : WX} {x : Str} {d : PyData} {pos : Pos} (g : Gv X.K X.mg x d) (hg : Gl X x) (hd : (x == ("__debug__" : Str)) = false := by decide) : DE X Wx (.Name x pos) (eC d) := by
  obtain ⟨u, v, hm, r, rp⟩ := g.ex
  exact de_c (pe_glob hg hm r hd) rp

/-! ### defs -/
abbrev FD := List Wv → Sto → Rs Wv
def spD (K : PySem.W.Frag) (mg : Str → Option Value) (n : Nat) (sem : FD) : Sp := fun vs H Q E => vs.length = n ∧ ∃ ad ws S, RepWs K ad H vs ws ∧ RS K ad H S ∧ post K mg (fun cls d _ H' => E cls d H') [] ad H (RepW K) (sem ws S) Q
structure Fn (P : Program) (w : World) (K : PySem.W.Frag) (mg : Str → Option Value) (base : Heap) (k : Nat) (x : Str) (n : Nat) (sem : FD) : Prop where
  ex : ∃ f fd ps, FnOk P w K mg base (L2.CX P w) k f fd ps (spD K mg n sem) ∧ mg x = some (.ref f) ∧ PySem.W.keepIn K (.ref f) = true ∧ Binds K fd ps [] ∧ ps.length = n
def eCall (n : Nat) (sem : FD) (l : LF) : EF := fun ρ S => (l ρ S).bind fun ws S1 => if ws.length = n then sem ws S1 else .bad
theorem Paired.len {α β : Type} {R : α → β → Prop} : ∀ {l : List α} {m : List β}, Paired R l m → l.length = m.length
  | _, _, .nil => rfl
  | _, _, .cons _ t => by simp [Paired.len t]
section
variable {X : Cx} {Wx : WX} {k n : Nat} {x : Str} {sem : FD} {e : Expr} {es : List Expr} {l : LF} {p pos : Pos}
theorem call_conv {σ : L2.St} {H : Hp} {Q : VK} (q : tD X.K X.mg Wx (eCall n sem l) σ H Q) : tCallS (spD X.K X.mg n sem) (WE Wx) (tDA X.K X.mg Wx l) σ H Q := by
  obtain ⟨ad, ρ, S, sg, rs, q⟩ := q
  refine ⟨ad, ρ, S, sg, rs, post_mono (post_bind q) ?_⟩
  rintro vs H1 ⟨ad1, ws, S1, fr1, r1, rs1, q1⟩
  split at q1
  · rename_i hl
    refine ⟨by rw [Paired.len r1]; exact hl, ad1, ws, S1, r1, rs1, ?_⟩
    revert q1
    cases sem ws S1 with
    | bad => exact fun z => z
    | ok w S2 => exact fun z => z
    | exc x S2 => exact fun z => z
  · exact q1.elim
theorem de_call (F : Fn X.prog X.w X.K X.mg X.base k x n sem) (hr : Room k X.A) (tk : Takes X Wx) (hg : Gl X x) (ha : DA X Wx (e :: es) l) (hdb : (x == ("__debug__" : Str)) = false := by decide)
    (he : starEach (e :: es) X.env = (false, eval e X.env) :: starEach es X.env := by rfl) (hpl : (backTo pos (starEach es X.env)).any (·.1) = false := by rfl) : DE X Wx (.Call (.Name x p) (e :: es) [] pos) (eCall n sem l) := by
  obtain ⟨f, fd, ps, F, hm, hk, hb, hn⟩ := F.ex
  exact PE.conv (pe_callS F hr hg hm hk hb (fun σ => passAt tk σ) ha hdb he hpl) fun σ H Q q => call_conv q
theorem de_call0 (F : Fn X.prog X.w X.K X.mg X.base k x n sem) (hr : Room k X.A) (tk : Takes X Wx) (hg : Gl X x) (hdb : (x == ("__debug__" : Str)) = false := by decide) : DE X Wx (.Call (.Name x p) [] [] pos) (eCall n sem lNil) := by
  obtain ⟨f, fd, ps, F, hm, hk, hb, hn⟩ := F.ex
  have h0 : PE X (.Call (.Name x p) [] [] pos) (tCallS (spD X.K X.mg n sem) (WE Wx) tNil) := by
    refine ⟨fun pins s σ H Q I h => ?_⟩
    refine wpAny_Call_Name_kw (ld_glob I hg hm ?_ hdb)
    exact PySem.W.callWith_K0 I.kIn hk (run_fnS (us := []) F hr hb (passAt tk σ) I .nil h)
  refine PE.conv h0 fun σ H Q q => ?_
  have q' := call_conv q
  obtain ⟨ad, ρ, S, sg, rs, q'⟩ := q'
  exact q' [] H ad (Fr.refl _ _) .nil rs
end
def exitW (n : Nat) (w : Wv) (S : Sto) : Rs Wv := match w with
  | .d x => .ok (.d x) (S.take n)
  | .own k => if k < n then .ok (.own k) (S.take n) else match S[k]? with
    | some o => .ok (.own n) (S.take n ++ [o])
    | none => .bad
def runDef (nn ar : Nat) (body : SF) : FD := fun ws S => match body (ws.map some ++ List.replicate (nn - ar) none) S with
  | .fl (.rt w) S' => exitW S.length w S'
  | .fl (.nx _) S' => exitW S.length (.d .none) S'
  | .exc x _ S' => .exc x (S'.take S.length)
  | _ => .bad
section
variable {K : PySem.W.Frag} {mg : Str → Option Value} {ad ad' : List Addr} {H H' : Hp} {S S' : Sto}
theorem RS.cut (fr : Fr ad H ad' H') (rs : RS K ad H S) (rs' : RS K ad' H' S') : RS K ad H' (S'.take S.length) := by
  obtain ⟨t, e⟩ := fr.ext
  have l1 := rs.len
  have l2 := rs'.len
  rw [e, List.length_append] at l2
  have nd := rs'.nd
  rw [e, List.nodup_append] at nd
  refine ⟨by rw [List.length_take]; omega, nd.1, fun (k : Nat) (o : MO) z => ?_⟩
  have hk : k < S.length := by
    have := (List.getElem?_eq_some_iff.mp z).1
    rw [List.length_take] at this
    omega
  rw [List.getElem?_take_of_lt hk] at z
  obtain ⟨a, e1, e2⟩ := rs'.ob k o z
  rw [e, List.getElem?_append_left (by omega)] at e1
  exact ⟨a, e1, e2⟩
theorem Fr.cut (fr : Fr ad H ad' H') : Fr ad H ad H' := ⟨⟨[], by simp⟩, fr.keep, fun _ h h' => absurd h h', fr.stb⟩
theorem exit_post {Wx : WX} {σ : L2.St} {w : Wv} {v : V} {Q : VK} (rs : RS K ad H S) (fr : Fr ad H ad' H') (rw' : RepW K ad' H' v w) (rs' : RS K ad' H' S') (q : post K mg Wx σ ad H (RepW K) (exitW S.length w S') Q) : Q v H' := by
  cases w with
  | d x => exact q v H' ad fr.cut rw' (rs.cut fr rs')
  | own k =>
    obtain ⟨a, ha, rfl⟩ := rw'
    have hcut := rs.cut fr rs'
    obtain ⟨t, e⟩ := id fr.ext
    dsimp only [exitW] at q
    split at q
    · rename_i hk
      refine q _ H' ad fr.cut ⟨a, ?_, rfl⟩ hcut
      rw [e, List.getElem?_append_left (by rw [rs.len]; exact hk)] at ha
      exact ha
    · rename_i hk
      have hkl : k < S'.length := by rw [← rs'.len]; exact (List.getElem?_eq_some_iff.mp ha).1
      rw [List.getElem?_eq_getElem hkl] at q
      obtain ⟨a', e1, e2⟩ := rs'.ob k S'[k] (by simp [hkl])
      rw [ha] at e1
      cases e1
      have nd := rs'.nd
      rw [e, List.nodup_append] at nd
      have hat : a ∈ t := by
        rw [e, List.getElem?_append_right (by rw [rs.len]; omega)] at ha
        exact List.mem_of_getElem? ha
      have han : a ∉ ad := fun z => nd.2.2 a z a hat rfl
      refine q _ H' (ad ++ [a]) ⟨⟨[a], rfl⟩, fr.keep, fun b hb hn => ?_, fr.stb⟩ ⟨a, ?_, rfl⟩ ⟨?_, ?_, fun (j : Nat) (o : MO) z => ?_⟩
      · rcases List.mem_append.mp hb with z | z
        · exact absurd z hn
        · have : b = a := by simpa using z
          subst this
          exact fr.new b (by rw [e]; exact List.mem_append_right _ hat) hn
      · rw [← rs.len]; simp
      · rw [List.length_append, List.length_append, hcut.len]; rfl
      · rw [List.nodup_append]
        exact ⟨nd.1, by simp, fun b hb c hc z => by
          have : c = a := by simpa using hc
          subst z this
          exact han hb⟩
      · have hcl := hcut.len
        by_cases hj : j < (S'.take S.length).length
        · rw [List.getElem?_append_left hj] at z
          obtain ⟨b, z1, z2⟩ := hcut.ob j o z
          exact ⟨b, by rw [List.getElem?_append_left (by omega)]; exact z1, z2⟩
        · rw [List.getElem?_append_right (by omega)] at z
          have h0 : j - (S'.take S.length).length = 0 := by
            by_cases hh : j - (S'.take S.length).length = 0
            · exact hh
            · rw [List.getElem?_eq_none (by simp only [List.length_singleton]; omega)] at z; cases z
          rw [h0] at z
          simp at z
          subst z
          refine ⟨a, ?_, e2⟩
          rw [List.getElem?_append_right (by omega), hcl, h0]; rfl
theorem sig_start {N ps : List Str} {vs : List V} {ws : List Wv} (r : RepWs K ad H vs ws) (hl : vs.length = ps.length) (hN : ps.length ≤ N.length) : Sig K ad H (L2.start N vs) (ws.map some ++ List.replicate (N.length - ps.length) none) := by
  have hlw := Paired.len r
  refine ⟨?_, fun i w e => ?_⟩
  · unfold L2.start
    simp only [List.length_append, List.length_map, List.length_replicate]
    omega
  · by_cases hi : i < ws.length
    · rw [List.getElem?_append_left (by simpa using hi), List.getElem?_map] at e
      have : ws[i]? = some w := by
        cases q : ws[i]? with
        | none => rw [q] at e; cases e
        | some a => rw [q] at e; cases e; rfl
      have get : ∀ {vs : List V} {ws : List Wv} {i : Nat} {w : Wv}, RepWs K ad H vs ws → ws[i]? = some w → ∃ v, vs[i]? = some v ∧ RepW K ad H v w := by
        intro vs
        induction vs with
        | nil => intro ws i w r e; cases r; simp at e
        | cons v vs ih =>
          intro ws i w r e
          cases r with
          | cons h t =>
            cases i with
            | zero => simp at e; subst e; exact ⟨_, rfl, h⟩
            | succ i =>
              obtain ⟨v', e1, e2⟩ := ih t (by simpa using e)
              exact ⟨v', by simpa using e1, e2⟩
      obtain ⟨v, e1, e2⟩ := get r this
      refine ⟨v, ?_, e2⟩
      unfold L2.start
      rw [List.getElem?_append_left (by simp; omega), List.getElem?_map, e1]
      rfl
    · rw [List.getElem?_append_right (by simpa using hi), List.getElem?_replicate] at e
      split at e <;> cases e
end
section
variable {P : Program} {w : World} {K : PySem.W.Frag} {mg : Str → Option Value} {base : Heap}
/-- a def of the text, by its body -/
theorem Fn.ok' {x qual : Str} {st : Stmt} {f : Addr} {fd : FuncData} {N ps : List Str} {k : Nat} {body : SF} (F : Fun K x qual st f fd) (Sc : FnScope N ps (defScope st))
    (hbody : ∀ (cdv : Value) (A : Around) (outer : List PySem.Env) (s : Shared) (H : Hp) (E : XK), Room k (A.deeper (envOfC qual (defScope st) s.heap.objs.size f cdv)) →
      DSs (cxOf (L2.CX P w) P w K mg base N qual (defScope st) f cdv A outer s H E) (fun cls d _ H => E cls d H) (defBody st) body) :
    FnOk P w K mg base (L2.CX P w) (k + 1) f fd ps (spD K mg ps.length (runDef N.length ps.length body)) := by
  refine F.okX Sc (fun vs H Q E h => h.1) (fun cdv A outer s H vs Q E hr h => ?_)
  obtain ⟨hl, ad, ws, S, r, rs, q⟩ := h
  refine ⟨_, hbody cdv A outer s H E hr, ad, _, S, sig_start r hl (by have := congrArg List.length Sc.pre; rw [List.length_take] at this; omega), rs, ?_⟩
  unfold runDef at q
  revert q
  cases body (ws.map some ++ List.replicate (N.length - ps.length) none) S with
  | bad => exact fun z => z
  | exc x ρ' S' => exact fun q cls d σ' H' ad' fr sg xr rs' => q cls d H' ad fr.cut xr (rs.cut fr rs')
  | fl g S' =>
    cases g with
    | nx ρ' => exact fun q σ' H' ad' fr sg rs' => exit_post rs fr (w := .d .none) .non rs' q
    | rt w => exact fun q v H' ad' fr rv rs' => exit_post rs fr rv rs' q
    | bk ρ' => exact fun q => q.elim
    | ct ρ' => exact fun q => q.elim
theorem Fn.mk' {x qual : Str} {st : Stmt} {f : Addr} {fd : FuncData} {N ps : List Str} {k : Nat} {body : SF} (F : Fun K x qual st f fd) (Sc : FnScope N ps (defScope st)) (hm : mg x = some (.ref f)) (hb : Binds K fd ps [])
    (hbody : ∀ (cdv : Value) (A : Around) (outer : List PySem.Env) (s : Shared) (H : Hp) (E : XK), Room k (A.deeper (envOfC qual (defScope st) s.heap.objs.size f cdv)) →
      DSs (cxOf (L2.CX P w) P w K mg base N qual (defScope st) f cdv A outer s H E) (fun cls d _ H => E cls d H) (defBody st) body) :
    Fn P w K mg base (k + 1) x ps.length (runDef N.length ps.length body) := ⟨⟨f, fd, ps, Fn.ok' F Sc hbody, hm, F.kp, hb, rfl⟩⟩
end
end DL

set_option Elab.async false
set_option linter.all false
set_option maxRecDepth 100000
set_option maxHeartbeats 4000000
/-! D6: zip and enumerate over lists and tuples in any mix; list(zip(..)). -/
namespace PySem
open PySem.W
section
variable {prog : Program} {w : World} {A : Around} {E : Value → Shared → Prop} {s : Shared} {z TI TO T i1 i2 : Addr} {fp1 fp2 : List Addr} {n1 n2 i : Nat} {P1 P2 : Nat → Value → Prop} {St1 St2 : Nat → Heap → Prop} {f : Bool} {oT : Obj}
/-- zip's next while the tuple that it gave out last is held by somebody -/
theorem zipH_next_item {Q : Value → Shared → Prop} (S : ZipSep2 z TI TO i1 i2 fp1 fp2) (D1 : Draws prog w A i1 fp1 n1 P1 St1) (D2 : Draws prog w A i2 fp2 n2 P2 St2)
    (hz : IsZipHeld s.heap z TI TO T f) (hT : s.heap.get? T = some oT) (hTI : IsTupOf2 s.heap TI (.ref i1) (.ref i2)) (st1 : St1 i s.heap) (st2 : St2 i s.heap) (hlt1 : i < n1) (hlt2 : i < n2)
    (hQ : ∀ x1 x2 h' tk, P1 i x1 → P2 i x2 → IsZipHeld h' z TI TO T true → St1 (i + 1) h' → St2 (i + 1) h' → IsTupOf2 h' s.heap.objs.size x1 x2 → h'.objs.size = s.heap.objs.size + 1 →
      (∀ c o, c ≠ z → c ≠ i1 → c ≠ i2 → s.heap.get? c = some o → h'.get? c = some o) → Q (.ref s.heap.objs.size) { s with heap := h', toks := tk }) :
    wpAny (model prog w) A (Builtin.«zip.__next__» ⟨[.ref z], []⟩) (fun fin s' => ∃ v, fin = .done (.ret v) ∧ Q v s') E s := by
  obtain ⟨hp, g, d, tk0, os⟩ := s
  show wpAny _ _ (field (.ref z) 2 >>= _) _ _ _
  refine wpAny_bind (wpAny_field hz rfl (x := .bool false) rfl ?_)
  show wpAny _ _ (field (.ref z) 3 >>= _) _ _ _
  refine wpAny_bind (wpAny_field hz rfl (x := .ref TI) rfl ?_)
  refine wpAny_bind (wpAny_seqItems hTI rfl ?_)
  show wpAny _ _ (Builtin.SmallTypes.ownedTupleIsFree (.ref z) >>= _) _ _ _
  refine wpAny_bind (wpAny_tupleHeld_zip hz hT fun g0 hz0 hs0 => ?_)
  replace hs0 : Heap.SameBut z hp g0 := hs0
  simp only [Bool.false_eq_true, if_false]
  refine wpAny_bind ?_
  rw [← Array.forIn_toList]
  simp only [List.forIn_cons, List.forIn_nil]
  refine wpAny_bind (wpAny_bind (wpAny_holding ?_))
  show wpAny _ _ (Builtin.SmallTypes.nextOf (.ref i1) >>= _) _ _ ⟨g0, g, d, tk0, os⟩
  refine wpAny_bind (D1.item i _ _ _ hlt1 (D1.over st1 hs0 S.zf1) fun x1 p1 tk1 hx1 sn1 hp1 => wpAny_pure ?_)
  replace hp1 : Heap.SameBut i1 g0 p1 := hp1
  refine wpAny_pure ?_
  refine wpAny_bind (wpAny_bind (wpAny_holding ?_))
  show wpAny _ _ (Builtin.SmallTypes.nextOf (.ref i2) >>= _) _ _ ⟨p1, g, d, tk1, os⟩
  refine wpAny_bind (D2.item i _ _ _ hlt2 (D2.over (D2.over st2 hs0 S.zf2) hp1 S.sep1_2) fun x2 p2 tk2 hx2 sn2 hp2 => wpAny_pure ?_)
  replace hp2 : Heap.SameBut i2 p1 p2 := hp2
  refine wpAny_pure (wpAny_pure ?_)
  show wpAny _ _ (newTuple [x1, x2] >>= _) _ _ _
  refine wpAny_bind (wpAny_newTuple ?_)
  have hsz : p2.objs.size = hp.objs.size := by rw [hp2.1, hp1.1, hs0.1]
  have hz3 : IsZipHeld p2 z TI TO T true := hp2.extBut _ _ S.zi2 (hp1.extBut _ _ S.zi1 hz0)
  have hk : ∀ c o, c ≠ z → c ≠ i1 → c ≠ i2 → hp.get? c = some o → p2.get? c = some o := fun c o c1 c2 c3 e => hp2.extBut _ _ c3 (hp1.extBut _ _ c2 (hs0.extBut _ _ c1 e))
  refine wpAny_pure ⟨_, rfl, ?_⟩
  show Q (.ref p2.objs.size) _
  have hpp : IsTupOf2 (p2.push { cls := .type "tuple", data := .seq #[x1, x2] }) p2.objs.size x1 x2 := Heap.get?_push_size _ rfl
  have hz4 : (p2.push { cls := .type "tuple", data := .seq #[x1, x2] }).objs.size = p2.objs.size + 1 := Heap.size_push ..
  rw [hsz] at hpp hz4 ⊢
  exact hQ x1 x2 _ tk2 hx1 hx2 (Heap.get?_push_of_some _ hz3) (D1.frame _ _ _ (D1.over sn1 hp2 S.sep2_1) fun b hb o e => Heap.get?_push_of_some _ e) (D2.frame _ _ _ sn2 fun b hb o e => Heap.get?_push_of_some _ e) hpp hz4
    fun c o c1 c2 c3 e => Heap.get?_push_of_some _ (hk c o c1 c2 c3 e)
theorem zipH_next_end {Q : Fin → Shared → Prop} (S : ZipSep2 z TI TO i1 i2 fp1 fp2) (D1 : Draws prog w A i1 fp1 n1 P1 St1) (D2 : Draws prog w A i2 fp2 n2 P2 St2)
    (hz : IsZipHeld s.heap z TI TO T f) (hT : s.heap.get? T = some oT) (hTI : IsTupOf2 s.heap TI (.ref i1) (.ref i2)) (st1 : St1 i s.heap) (st2 : St2 i s.heap) (hle1 : i ≤ n1) (hle2 : i ≤ n2) (hend : i = n1 ∨ i = n2)
    (hE : ∀ h' tk e, (∀ c o, c ≠ z → c ≠ i1 → c ≠ i2 → s.heap.get? c = some o → h'.get? c = some o) → (∃ o, h'.get? e = some o ∧ o.cls = .type "StopIteration") → E (.ref e) { s with heap := h', toks := tk }) :
    wpAny (model prog w) A (Builtin.«zip.__next__» ⟨[.ref z], []⟩) Q E s := by
  obtain ⟨hp, g, d, tk0, os⟩ := s
  show wpAny _ _ (field (.ref z) 2 >>= _) _ _ _
  refine wpAny_bind (wpAny_field hz rfl (x := .bool false) rfl ?_)
  show wpAny _ _ (field (.ref z) 3 >>= _) _ _ _
  refine wpAny_bind (wpAny_field hz rfl (x := .ref TI) rfl ?_)
  refine wpAny_bind (wpAny_seqItems hTI rfl ?_)
  show wpAny _ _ (Builtin.SmallTypes.ownedTupleIsFree (.ref z) >>= _) _ _ _
  refine wpAny_bind (wpAny_tupleHeld_zip hz hT fun g0 hz0 hs0 => ?_)
  replace hs0 : Heap.SameBut z hp g0 := hs0
  simp only [Bool.false_eq_true, if_false]
  refine wpAny_bind ?_
  rw [← Array.forIn_toList]
  simp only [List.forIn_cons, List.forIn_nil]
  refine wpAny_bind (wpAny_bind (wpAny_holding ?_))
  show wpAny _ _ (Builtin.SmallTypes.nextOf (.ref i1) >>= _) _ _ ⟨g0, g, d, tk0, os⟩
  by_cases hlt1 : i < n1
  · refine wpAny_bind (D1.item i _ _ _ hlt1 (D1.over st1 hs0 S.zf1) fun x1 p1 tk1 hx1 sn1 hp1 => wpAny_pure ?_)
    replace hp1 : Heap.SameBut i1 g0 p1 := hp1
    refine wpAny_pure ?_
    have hi2 : i = n2 := by omega
    refine wpAny_bind (wpAny_bind (wpAny_holding ?_))
    show wpAny _ _ (Builtin.SmallTypes.nextOf (.ref i2) >>= _) _ _ ⟨p1, g, d, tk1, os⟩
    refine wpAny_bind (D2.done ⟨p1, g, d, tk1, os⟩ _ _ (by rw [← hi2]; exact D2.over (D2.over st2 hs0 S.zf2) hp1 S.sep1_2) fun q e hq he => ?_)
    replace hq : Heap.ExtBut i2 p1 q := hq
    exact hE q tk1 e (fun c o cz c1 c2 x => hq _ _ c2 (hp1.extBut _ _ c1 (hs0.extBut _ _ cz x))) he
  · have hi1 : i = n1 := by omega
    refine wpAny_bind (D1.done ⟨g0, g, d, tk0, os⟩ _ _ (by rw [← hi1]; exact D1.over st1 hs0 S.zf1) fun q e hq he => ?_)
    replace hq : Heap.ExtBut i1 g0 q := hq
    exact hE q tk0 e (fun c o cz c1 c2 x => hq _ _ c1 (hs0.extBut _ _ cz x)) he
theorem pyNext_zipH_item {Q : Option Value → Shared → Prop} (S : ZipSep2 z TI TO i1 i2 fp1 fp2) (D1 : Draws prog w A.in1 i1 fp1 n1 P1 St1) (D2 : Draws prog w A.in1 i2 fp2 n2 P2 St2)
    (hz : IsZipHeld s.heap z TI TO T f) (hT : s.heap.get? T = some oT) (hTI : IsTupOf2 s.heap TI (.ref i1) (.ref i2)) (st1 : St1 i s.heap) (st2 : St2 i s.heap) (hlt1 : i < n1) (hlt2 : i < n2)
    (hQ : ∀ x1 x2 h' tk, P1 i x1 → P2 i x2 → IsZipHeld h' z TI TO T true → St1 (i + 1) h' → St2 (i + 1) h' → IsTupOf2 h' s.heap.objs.size x1 x2 → h'.objs.size = s.heap.objs.size + 1 →
      (∀ c o, c ≠ z → c ≠ i1 → c ≠ i2 → s.heap.get? c = some o → h'.get? c = some o) → Q (some (.ref s.heap.objs.size)) { s with heap := h', toks := tk }) :
    wpAny (model prog w) A (pyNext (.ref z)) Q E s := by
  have hTy : s.TypeIs (.ref z) "zip" := ⟨_, hz, rfl⟩
  unfold pyNext
  exact wpAny_bind (wpAny_attempt (wpAny_callSpecial?_slot (name := Str.ofString "__next__") hTy F.slot_zip_next
    (wpAny_call_entry F.slot_zip_next hTy F.entry_zip_next
      (zipH_next_item S D1 D2 hz hT hTI st1 st2 hlt1 hlt2 fun x1 x2 h' tk a0 a1 a2 a3 a4 a5 a6 a7 => wpAny_pure (hQ x1 x2 h' tk a0 a1 a2 a3 a4 a5 a6 a7)) (F.args_zip_next_1 _))))
theorem pyNext_zipH_end {Q : Option Value → Shared → Prop} (S : ZipSep2 z TI TO i1 i2 fp1 fp2) (D1 : Draws prog w A.in1 i1 fp1 n1 P1 St1) (D2 : Draws prog w A.in1 i2 fp2 n2 P2 St2)
    (hz : IsZipHeld s.heap z TI TO T f) (hT : s.heap.get? T = some oT) (hTI : IsTupOf2 s.heap TI (.ref i1) (.ref i2)) (st1 : St1 i s.heap) (st2 : St2 i s.heap) (hle1 : i ≤ n1) (hle2 : i ≤ n2) (hend : i = n1 ∨ i = n2)
    (hQ : ∀ h' tk, (∀ c o, c ≠ z → c ≠ i1 → c ≠ i2 → s.heap.get? c = some o → h'.get? c = some o) → Q none { s with heap := h', toks := tk }) : wpAny (model prog w) A (pyNext (.ref z)) Q E s := by
  have hTy : s.TypeIs (.ref z) "zip" := ⟨_, hz, rfl⟩
  unfold pyNext
  refine wpAny_bind (wpAny_attempt (wpAny_callSpecial?_slot (name := Str.ofString "__next__") hTy F.slot_zip_next
    (wpAny_call_entry F.slot_zip_next hTy F.entry_zip_next (zipH_next_end S D1 D2 hz hT hTI st1 st2 hle1 hle2 hend fun h' tk e hk he => ?_) (F.args_zip_next_1 _))))
  obtain ⟨o, ho, hc⟩ := he
  refine wpAny_bind (wpAny_isInstance (T := "StopIteration") (b := true) ⟨o, ho, hc⟩ isSubtype_stop ?_)
  exact wpAny_pure (hQ _ _ hk)
end
end PySem

namespace DL
open PySem PySem.Spec PyProof.Rows L2

/-! ### lists (false) and tuples (true) that are drawn from -/
def itB (b : Bool) (h : Heap) (it a : Addr) (i : Nat) : Prop := if b = true then h.IsTupleIter it a i else h.IsListIter it a i
def coB (b : Bool) (h : Heap) (a : Addr) (its : Array Value) : Prop := if b = true then h.IsTuple a its else h.IsList a its
def obB (b : Bool) (a : Addr) : Obj := if b = true then { cls := .type "tuple_iterator", data := .fields #[.ref a, .int 0 0] } else { cls := .type "list_iterator", data := .fields #[.ref a, .int 0 0] }
def SqB (b : Bool) (K : PySem.W.Frag) (H : Hp) (a : Addr) (xs : List V) : Prop := if b = true then SqT K H a xs else FzL K H a xs
theorem drB {prog : Program} {w : World} {A : Around} (b : Bool) (hh : A.handled = none) (it a : Addr) (hne : a ≠ it) (its : Array Value) :
    Draws prog w A it [it, a] its.size (fun i v => its[i]? = some v) (fun i h => itB b h it a i ∧ coB b h a its) := by
  cases b with
  | true => exact Draws.tuple hh it a hne its
  | false => exact Draws.list hh it a hne its
theorem beB (b : Bool) (a : Addr) (its : Array Value) : Begins (.ref a) (obB b a) (fun h => coB b h a its) := by
  cases b with
  | true => exact begins_tuple a its
  | false => exact begins_list a its
theorem itB_at {b : Bool} {h h' : Heap} {it a : Addr} {i : Nat} (x : itB b h it a i) (k : ∀ o, h.get? it = some o → h'.get? it = some o) : itB b h' it a i := by
  cases b with
  | true => exact Heap.IsTupleIter.at x fun o e => k o e
  | false => exact Heap.IsListIter.at x fun o e => k o e
theorem itB_obj {b : Bool} {h : Heap} {it a : Addr} {i : Nat} (x : itB b h it a i) : ∃ o, h.get? it = some o ∧ ∀ v, o.data ≠ .cell v := by
  cases b with
  | true =>
    obtain ⟨o, e, _, d⟩ := x
    exact ⟨o, e, fun v z => by rw [d] at z; cases z⟩
  | false =>
    obtain ⟨o, e, _, d⟩ := x
    exact ⟨o, e, fun v z => by rw [d] at z; cases z⟩
theorem itB_new {b : Bool} {h : Heap} {it a : Addr} (e : h.get? it = some (obB b a)) : itB b h it a 0 := by
  cases b with
  | true => exact ⟨_, e, rfl, rfl⟩
  | false => exact ⟨_, e, rfl, rfl⟩
theorem sqB_stb {b : Bool} {K : PySem.W.Frag} {H H' : Hp} {a : Addr} {xs : List V} (s : Stb H H') (h : SqB b K H a xs) : SqB b K H' a xs := by
  cases b with
  | true => exact sqT_stb s h
  | false => exact FzL.stb s h
section
variable {X : Cx} {pins : List (Addr × Obj)} {σ : L2.St} {H : Hp} {s : Shared} {b : Bool} {a : Addr} {xs ys : List V}
theorem seqB (I : Inv X pins σ H s) (h : SqB b X.K H a xs) : ∃ its : List Value, Vals xs its ∧ coB b s.heap a its.toArray ∧ xs.length ≤ sizeLine ∧ a < s.heap.objs.size := by
  cases b with
  | true =>
    obtain ⟨its, r, p, z⟩ := I.tuple h
    obtain ⟨o, e, _⟩ := id p
    exact ⟨its, r, p, z, Heap.lt_size e⟩
  | false =>
    obtain ⟨its, r, p, z⟩ := I.list (FzL.sq h)
    exact ⟨its, r, p.isList, z, p.lt⟩
theorem seqB_inj (I : Inv X pins σ H s) (h : SqB b X.K H a xs) (h' : SqB b X.K H a ys) : xs = ys := by
  cases b with
  | true => exact I.tuple_inj h h'
  | false => exact I.list_inj (FzL.sq h) (FzL.sq h')
end
def kindB : PyData → Option (Bool × List PyData)
  | .list l => some (false, l)
  | .tuple l => some (true, l)
  | _ => none
theorem kind_rep {K : PySem.W.Frag} {H : Hp} {v : V} {d : PyData} {b : Bool} {l : List PyData} (r : Rep K H v d) (e : kindB d = some (b, l)) : ∃ a xs, v = .ref a ∧ SqB b K H a xs ∧ Reps K H xs l := by
  cases r with
  | lst t r => cases e; exact ⟨_, _, rfl, t, r⟩
  | tup t r => cases e; exact ⟨_, _, rfl, t, r⟩
  | _ => cases e

/-! ### zip in a loop -/
def ItzB (K : PySem.W.Frag) (b1 : Bool) (a1 : Addr) (b2 : Bool) (a2 : Addr) : It :=
  ⟨fun i H => ∃ (xs ys : List V) (x y : V), SqB b1 K H a1 xs ∧ SqB b2 K H a2 ys ∧ xs[i]? = some x ∧ ys[i]? = some y,
    fun i H v H' => ∃ T x y, v = .ref T ∧ H T = none ∧ H' = upd H T (.tup [x, y]) ∧ (∀ xs, SqB b1 K H a1 xs → xs[i]? = some x) ∧ ∀ ys, SqB b2 K H a2 ys → ys[i]? = some y,
    fun i H => ∃ xs ys : List V, SqB b1 K H a1 xs ∧ SqB b2 K H a2 ys ∧ i ≤ xs.length ∧ i ≤ ys.length ∧ (xs.length = i ∨ ys.length = i)⟩
/-- the cells lie apart, told without what is drawn from -/
structure Ap (z TI TO i1 i2 : Addr) (N : Nat) : Prop where
  S : ∀ a1 a2 : Addr, a1 < N → a2 < N → ZipSep2 z TI TO i1 i2 [i1, a1] [i2, a2]
  ge : ∀ c ∈ [z, TI, TO, i1, i2], N ≤ c
theorem ap_new (N : Nat) : Ap (N + 4) (N + 2) (N + 3) N (N + 1) N :=
  ⟨fun a1 a2 h1 h2 => zip_sep2 (fun b hb => by have : b = a1 := by simpa using hb
                                               rw [this]; exact h1) (fun b hb => by have : b = a2 := by simpa using hb
                                                                                    rw [this]; exact h2), fun c hc => by
    have e' : c = N + 4 ∨ c = N + 2 ∨ c = N + 3 ∨ c = N ∨ c = N + 1 := by simpa using hc
    rcases e' with z | z | z | z | z <;> rw [z] <;> first | exact Nat.le_add_right _ _ | exact Nat.le_refl _⟩
theorem turn_zipB {P : Program} {w : World} {K : PySem.W.Frag} {elts : List Expr} {kk : Nat} {tpos : Pos} {b1 b2 : Bool} {a1 a2 z TI TO i1 i2 : Addr} {N : Nat} (D : Ap z TI TO i1 i2 N) (l1 : a1 < N) (l2 : a2 < N) :
    Turn P w K (.Tuple elts kk tpos) (ItzB K b1 a1 b2 a2) [z, TI, TO, i1, i2] z (fun i h => IsZip h z TI TO .none ∧ IsTupOf2 h TI (.ref i1) (.ref i2) ∧ (∃ x y, IsTupOf2 h TO x y) ∧ itB b1 h i1 a1 i ∧ itB b2 h i2 a2 i) where
  mem := by simp
  obj := fun i h st c hc => by
    obtain ⟨hz, hTI, ⟨x, y, hTO⟩, h1, h2⟩ := st
    have e' : c = z ∨ c = TI ∨ c = TO ∨ c = i1 ∨ c = i2 := by simpa using hc
    rcases e' with q | q | q | q | q
    · rw [q]; exact ⟨_, hz, fun v q => nomatch q⟩
    · rw [q]; exact ⟨_, hTI, fun v q => nomatch q⟩
    · rw [q]; exact ⟨_, hTO, fun v q => nomatch q⟩
    · rw [q]; exact itB_obj h1
    · rw [q]; exact itB_obj h2
  keep := fun i h h' st k => by
    obtain ⟨hz, hTI, ⟨x, y, hTO⟩, h1, h2⟩ := st
    exact ⟨k z (by simp) _ hz, k TI (by simp) _ hTI, ⟨x, y, k TO (by simp) _ hTO⟩, itB_at h1 fun o q => k i1 (by simp) o q, itB_at h2 fun o q => k i2 (by simp) o q⟩
  item := by
    intro X hP hw hK hc i pins s σ H E I hf st hg
    subst hP hw hK
    obtain ⟨hz, hTI, ⟨x0, y0, hTO⟩, h1, h2⟩ := st
    obtain ⟨xs, ys, x, y, hqx, hqy, hx, hy⟩ := hg
    obtain ⟨its, rv, p, _, g1⟩ := seqB I hqx
    obtain ⟨its2, rv2, p2, _, g2⟩ := seqB I hqy
    have S := D.S a1 a2 l1 l2
    have m1 := S.mem1
    have n1 : a1 ≠ i1 := Nat.ne_of_lt (Nat.lt_of_lt_of_le l1 (D.ge i1 (by simp)))
    have n2 : a2 ≠ i2 := Nat.ne_of_lt (Nat.lt_of_lt_of_le l2 (D.ge i2 (by simp)))
    have hlx := (List.getElem?_eq_some_iff.mp hx).1
    have hly := (List.getElem?_eq_some_iff.mp hy).1
    have e1 := rv.length
    have e2 := rv2.length
    have hzl : z < s.heap.objs.size := Heap.lt_size hz
    have hcell : ∀ c ∈ [z, TI, TO, i1, i2], c < s.heap.objs.size := fun c hcm => by
      have e' : c = z ∨ c = TI ∨ c = TO ∨ c = i1 ∨ c = i2 := by simpa using hcm
      rcases e' with q | q | q | q | q
      · rw [q]; exact hzl
      · rw [q]; exact Heap.lt_size hTI
      · rw [q]; exact Heap.lt_size hTO
      · rw [q]; obtain ⟨_, e1, _⟩ := itB_obj h1; exact Heap.lt_size e1
      · rw [q]; obtain ⟨_, e2, _⟩ := itB_obj h2; exact Heap.lt_size e2
    refine wpAny_pyNext_zipD2_item S (drB b1 (show X.A.in1.handled = none from I.ok.hd hc) i1 a1 n1 its.toArray) (drB b2 (show X.A.in1.handled = none from I.ok.hd hc) i2 a2 n2 its2.toArray) hz hTI hTO ⟨h1, p⟩ ⟨h2, p2⟩ (by simp; omega) (by simp; omega)
      fun u u2 h' tk hu hu2 z' TO' st1' st2' hT hsz hk => ?_
    obtain ⟨v1, hv1, ru⟩ := rv.get hx
    obtain ⟨v2, hv2, ru2⟩ := rv2.get hy
    have eu : u = v1 := by simpa [hv1] using hu.symm
    have eu2 : u2 = v2 := by simpa [hv2] using hu2.symm
    subst eu eu2
    refine ⟨_, rfl, wpAny_letOwnedTupleGo_zip (s := { s with heap := h', toks := tk }) z' fun h'' z'' sb => ?_⟩
    have hT2 : h''.get? s.heap.objs.size = some { cls := .type "tuple", data := .seq #[u, u2] } := (sb.2 _ (Nat.ne_of_gt hzl)).trans hT
    have new : ObjOk X.prog X.w (upd H s.heap.objs.size (.tup [x, y])) h'' s.heap.objs.size (.tup [x, y]) :=
      ⟨by show 2 ≤ sizeLine; decide, [u, u2], .cons ru (.cons ru2 .nil), ⟨_, hT2, rfl, _, rfl⟩⟩
    have I1 : Inv X pins σ (upd H s.heap.objs.size (.tup [x, y])) { s with heap := h'', toks := tk } :=
      I.turnedNew (t' := tk) (ch := [z, TI, TO, i1, i2]) (fun c o hb q => (sb.2 c (fun q' => hb (by simp [q']))).trans (hk c o (fun q' => hb (by simp [q'])) (fun q' => hb (by simp [q'])) (fun q' => hb (by simp [q'])) (fun q' => hb (by simp [q'])) q)) hf (Nat.le_refl _) new
    refine ⟨.ref s.heap.objs.size, _, I1, rfl, ⟨_, x, y, rfl, I.hok.fresh (Nat.le_refl _), rfl, fun l hl => by rw [seqB_inj I hl hqx]; exact hx, fun l hl => by rw [seqB_inj I hl hqy]; exact hy⟩, ⟨z'', ?_, ⟨u, u2, ?_⟩, ?_, ?_⟩, fun c hcm => ?_⟩
    · exact (sb.2 _ S.TIz).trans (hk _ _ S.TIz S.TITO S.TIi1 S.TIi2 hTI)
    · exact (sb.2 _ S.TOz).trans TO'
    · exact itB_at st1'.1 fun o q => (sb.2 _ (Ne.symm S.zi1)).trans q
    · exact itB_at st2'.1 fun o q => (sb.2 _ (Ne.symm S.zi2)).trans q
    · rw [upd_ne (Nat.ne_of_lt (hcell c hcm))]
      exact (hf c hcm).1
  done := by
    intro X hP hw hK hc i pins s σ H E I hf st hg
    subst hP hw hK
    obtain ⟨hz, hTI, ⟨x0, y0, hTO⟩, h1, h2⟩ := st
    obtain ⟨xs, ys, hqx, hqy, hi1, hi2, hend⟩ := hg
    obtain ⟨its, rv, p, _, g1⟩ := seqB I hqx
    obtain ⟨its2, rv2, p2, _, g2⟩ := seqB I hqy
    have S := D.S a1 a2 l1 l2
    have n1 : a1 ≠ i1 := Nat.ne_of_lt (Nat.lt_of_lt_of_le l1 (D.ge i1 (by simp)))
    have n2 : a2 ≠ i2 := Nat.ne_of_lt (Nat.lt_of_lt_of_le l2 (D.ge i2 (by simp)))
    have e1 := rv.length
    have e2 := rv2.length
    exact wpAny_pyNext_zipD2_end S (drB b1 (show X.A.in1.handled = none from I.ok.hd hc) i1 a1 n1 its.toArray) (drB b2 (show X.A.in1.handled = none from I.ok.hd hc) i2 a2 n2 its2.toArray) hz hTI hTO ⟨h1, p⟩ ⟨h2, p2⟩ (by simp; omega) (by simp; omega) (by simp; omega)
      fun h' tk hk => ⟨rfl, I.turnedL (t' := tk) (ch := [z, TI, TO, i1, i2]) (fun c o hb q => hk c o (fun q' => hb (by simp [q'])) (fun q' => hb (by simp [q'])) (fun q' => hb (by simp [q'])) (fun q' => hb (by simp [q'])) q) hf⟩
  self := fun A i s Q E st h => wpAny_pyIter_zip st.1 h
def zipD (l m : List PyData) : List PyData := (l.zip m).map fun p => .tuple [p.1, p.2]
theorem walk_zip {K : PySem.W.Frag} {H : Hp} {b1 b2 : Bool} {a1 a2 : Addr} {xs ys : List V} {l m : List PyData} (h1 : SqB b1 K H a1 xs) (r1 : Reps K H xs l) (h2 : SqB b2 K H a2 ys) (r2 : Reps K H ys m) (hz : xs.length ≤ sizeLine) : Walk K (ItzB K b1 a1 b2 a2) H (zipD l m) := by
  have hl : (zipD l m).length = min l.length m.length := by simp [zipD]
  have e1 := r1.length
  have e2 := r2.length
  refine ⟨by rw [hl]; omega, fun H' st => ⟨⟨xs, ys, sqB_stb st h1, sqB_stb st h2, by omega, by omega, by omega⟩, fun i d e => ?_⟩⟩
  unfold zipD at e
  rw [List.getElem?_map] at e
  cases q : (l.zip m)[i]? with
  | none => rw [q] at e; cases e
  | some p =>
    rw [q] at e
    cases e
    obtain ⟨p1, p2⟩ := List.getElem?_zip_eq_some.mp q
    obtain ⟨v1, g1, rv1⟩ := (Reps.stb st _ r1).get p1
    obtain ⟨v2, g2, rv2⟩ := (Reps.stb st _ r2).get p2
    refine ⟨⟨xs, ys, v1, v2, sqB_stb st h1, sqB_stb st h2, g1, g2⟩, ?_⟩
    rintro x H'' ⟨T, x1, y1, rfl, hT, rfl, q1, q2⟩
    have := q1 xs (sqB_stb st h1)
    rw [g1] at this; cases this
    have := q2 ys (sqB_stb st h2)
    rw [g2] at this; cases this
    have ex : Ex H' (upd H' T (.tup [v1, v2])) := Ex.new hT
    exact ⟨ex, .tup (SqT.of upd_same) (.cons (Rep.stb ex.stb _ rv1) (.cons (Rep.stb ex.stb _ rv2) .nil))⟩
end DL

set_option Elab.async false
set_option linter.all false
set_option maxRecDepth 100000
set_option maxHeartbeats 4000000
/-! D7: for .. in zip, enumerate; list(zip(..)). -/
namespace PySem
set_option maxHeartbeats 1000000 in
theorem meets_enumerate_new1 {v : Value} {o : Obj} {H : Heap → Prop} (B : Begins v o H) :
    Meets (Builtin.«enumerate.__new__» ⟨[.type "enumerate", v], []⟩) (fun _ R s => H s.heap ∧
      R (.ok (.ret (.ref (s.heap.push o).objs.size))) { s with heap := (s.heap.push o).push { cls := .type "enumerate", data := .fields #[.none, .bool false, .ref s.heap.objs.size, rawInt 0, .none, .none] } }) :=
  .of_wp fun prog w A R s h => by
    obtain ⟨hp, g, d, tk, os⟩ := s; obtain ⟨h1, h⟩ := h
    have hsub := sub_enumerate
    have q1 : ∀ {A' : Around} {E : Value → Shared → Prop} {Q : Value → Shared → Prop}, Q (.ref hp.objs.size) ⟨hp.push o, g, d, tk, os⟩ → wpAny (model prog w) A' (pyIter v) Q E ⟨hp, g, d, tk, os⟩ :=
      fun q => B.iter prog w _ _ ⟨hp, g, d, tk, os⟩ _ h1 q
    wp_walk using q1
    refine wpAny_stack_any fun st => wpAny_pure ?_
    split
    · rename_i c _ _ _ _ _
      cases (c == Value.type "enumerate")
      · wp_walk using q1
        exact ⟨_, rfl, h⟩
      · wp_walk using q1
        exact ⟨_, rfl, h⟩
    · wp_walk using q1
      exact ⟨_, rfl, h⟩
section
variable {prog : Program} {w : World} {A : Around} {E : Value → Shared → Prop} {s : Shared}
theorem enum_begins1 {v : Value} {o : Obj} {H : Heap → Prop} {Q : Value → Shared → Prop} (B : Begins v o H) (h1 : H s.heap)
    (h : ∀ h', IsEnum h' (s.heap.objs.size + 1) s.heap.objs.size 0 .none → h'.get? s.heap.objs.size = some o → h'.objs.size = s.heap.objs.size + 2 →
      (∀ b o, s.heap.get? b = some o → h'.get? b = some o) → Q (.ref (s.heap.objs.size + 1)) { s with heap := h' }) :
    wpAny (model prog w) A (call (.type "enumerate") [v]) Q E s := by
  refine callType_new F.called_enumerate (by decide) (F.typeCall_enumerate_1 _) (F.newCall_enumerate_1 _) (fun obj => F.args_object_init_2 obj _) F.entry_enumerate_new
    (meets_enumerate_new1 B) ⟨h1, ?_⟩
  have hz : (s.heap.push o).objs.size = s.heap.objs.size + 1 := Heap.size_push ..
  show _ ∧ _
  rw [hz]
  have he : IsEnum ((s.heap.push o).push { cls := .type "enumerate", data := .fields #[.none, .bool false, .ref s.heap.objs.size, rawInt 0, .none, .none] }) (s.heap.objs.size + 1) s.heap.objs.size 0 .none := by
    have := Heap.get?_push_size (s.heap.push o) (o := { cls := .type "enumerate", data := .fields #[.none, .bool false, .ref s.heap.objs.size, rawInt 0, .none, .none] }) rfl
    rw [hz] at this; exact this
  refine ⟨⟨_, he, rfl⟩, h _ he (Heap.get?_push_of_some _ (Heap.get?_push_size _ B.free)) (by rw [Heap.size_push, hz]) fun b o x => Heap.get?_push_of_some _ (Heap.get?_push_of_some _ x)⟩
end
theorem zip_no_len : typeLookup (.type "zip") "__len__" = pure none := am_miss_of_fast (by decide +kernel)
theorem zip_no_hint : typeLookup (.type "zip") "__length_hint__" = pure none := am_miss_of_fast (by decide +kernel)
end PySem
namespace DL
open PySem PySem.Spec PyProof.Rows L2

/-! ### enumerate in a loop -/
def IteB (K : PySem.W.Frag) (b : Bool) (a : Addr) (k : Int) : It :=
  ⟨fun i H => ∃ (xs : List V) (x : V), SqB b K H a xs ∧ xs[i]? = some x, fun i H v H' => ∃ T x, v = .ref T ∧ H T = none ∧ H' = upd H T (.tup [.int (k + (i : Nat)), x]) ∧ ∀ xs, SqB b K H a xs → xs[i]? = some x,
    fun i H => ∃ xs : List V, SqB b K H a xs ∧ xs.length = i⟩
theorem turn_enumB {P : Program} {w : World} {K : PySem.W.Frag} {elts : List Expr} {kk : Nat} {tpos : Pos} {b : Bool} {a e it : Addr} {k0 : Int} {N : Nat} (la : a < N) (he0 : N ≤ e) (hi0 : N ≤ it) (hne : e ≠ it) :
    Turn P w K (.Tuple elts kk tpos) (IteB K b a k0) [e, it] e (fun i h => (∃ old, IsEnum h e it (k0 + (i : Int)) old) ∧ itB b h it a i) where
  mem := by simp
  obj := fun i h st c hc => by
    obtain ⟨⟨old, he⟩, hi⟩ := st
    have e' : c = e ∨ c = it := by simpa using hc
    rcases e' with z | z
    · rw [z]; exact ⟨_, he, fun v q => nomatch q⟩
    · rw [z]; exact itB_obj hi
  keep := fun i h h' st k => let ⟨⟨old, he⟩, hi⟩ := st; ⟨⟨old, k e (by simp) _ he⟩, itB_at hi fun o q => k it (by simp) o q⟩
  item := by
    intro X hP hw hK hc i pins s σ H E I hf st hg
    subst hP hw hK
    obtain ⟨⟨old, he⟩, hit⟩ := st
    obtain ⟨xs, x, hq, hx⟩ := hg
    obtain ⟨its, rv, p, _, g1⟩ := seqB I hq
    have na : a ≠ it := Nat.ne_of_lt (Nat.lt_of_lt_of_le la hi0)
    have nae : a ≠ e := Nat.ne_of_lt (Nat.lt_of_lt_of_le la he0)
    have hlx := (List.getElem?_eq_some_iff.mp hx).1
    have e1 := rv.length
    have hel : e < s.heap.objs.size := Heap.lt_size he
    have hil : it < s.heap.objs.size := by obtain ⟨_, q, _⟩ := itB_obj hit; exact Heap.lt_size q
    refine wpAny_pyNext_enum_itemC (drB b (show X.A.in1.handled = none from I.ok.hd hc) it a na its.toArray) he ⟨hit, p⟩ (by simp; omega) hne (by simp; exact ⟨hne, Ne.symm nae⟩) fun u h' tk hu ho st' hT hsz hk => ?_
    obtain ⟨v1, hv1, ru⟩ := rv.get hx
    have eu : u = v1 := by simpa [hv1] using hu.symm
    subst eu
    refine ⟨_, rfl, wpAny_letOwnedTupleGo_enum (s := { s with heap := h', toks := tk + 1 }) ho fun h'' he' sb => ?_⟩
    have hT2 : h''.get? s.heap.objs.size = some { cls := .type "tuple", data := .seq #[.int (k0 + (i : Int)) tk, u] } := (sb.2 _ (Nat.ne_of_gt hel)).trans hT
    have new : ObjOk X.prog X.w (upd H s.heap.objs.size (.tup [.int (k0 + (i : Nat)), x])) h'' s.heap.objs.size (.tup [.int (k0 + (i : Nat)), x]) :=
      ⟨by show 2 ≤ sizeLine; decide, [.int (k0 + (i : Int)) tk, u], .cons ⟨_, rfl⟩ (.cons ru .nil), ⟨_, hT2, rfl, _, rfl⟩⟩
    have I1 : Inv X pins σ (upd H s.heap.objs.size (.tup [.int (k0 + (i : Nat)), x])) { s with heap := h'', toks := tk + 1 } :=
      I.turnedNew (ch := [e, it]) (fun b ob hb q => (sb.2 b (fun z => hb (by simp [z]))).trans (hk b ob (fun z => hb (by simp [z])) (fun z => hb (by simp [z])) q)) hf (Nat.le_refl _) new
    refine ⟨.ref s.heap.objs.size, _, I1, rfl, ⟨_, x, rfl, I.hok.fresh (Nat.le_refl _), rfl, fun ys hy => by rw [seqB_inj I hy hq]; exact hx⟩, ⟨⟨u, ?_⟩, itB_at st'.1 fun o q => (sb.2 it (Ne.symm hne)).trans q⟩, fun c hcm => ?_⟩
    · have e1 : k0 + ((i + 1 : Nat) : Int) = k0 + (i : Int) + 1 := by omega
      rw [e1]; exact he'
    · have hb' : c < s.heap.objs.size := by
        have e' : c = e ∨ c = it := by simpa using hcm
        rcases e' with z | z
        · rw [z]; exact hel
        · rw [z]; exact hil
      rw [upd_ne (Nat.ne_of_lt hb')]
      exact (hf c hcm).1
  done := by
    intro X hP hw hK hc i pins s σ H E I hf st hg
    subst hP hw hK
    obtain ⟨⟨old, he⟩, hit⟩ := st
    obtain ⟨xs, hq, hx⟩ := hg
    obtain ⟨its, rv, p, _, g1⟩ := seqB I hq
    have na : a ≠ it := Nat.ne_of_lt (Nat.lt_of_lt_of_le la hi0)
    obtain ⟨f0, f1, f2, f3, f4, f5⟩ := hf it (by simp)
    have e1 := rv.length
    have en : i = its.toArray.size := by simp; omega
    subst en
    exact wpAny_pyNext_enum_endD (drB b (show X.A.in1.handled = none from I.ok.hd hc) it a na its.toArray) he ⟨hit, p⟩ fun h' eb => ⟨rfl, I.turned (t' := s.toks) (fun b o hb q => eb b o hb q) f0 f1 f3 f4 f5⟩
  self := fun A i s Q E st h => let ⟨⟨_, he⟩, _⟩ := st; wpAny_pyIter_enum he h
def enumD (k : Int) (l : List PyData) : List PyData := l.zipIdx.map fun p => .tuple [.int (k + (p.2 : Nat)), p.1]
theorem walk_enum {K : PySem.W.Frag} {H : Hp} {b : Bool} {a : Addr} {xs : List V} {l : List PyData} {k : Int} (h1 : SqB b K H a xs) (r1 : Reps K H xs l) (hz : xs.length ≤ sizeLine) : Walk K (IteB K b a k) H (enumD k l) := by
  have hl : (enumD k l).length = l.length := by simp [enumD]
  have e1 := r1.length
  refine ⟨by rw [hl]; omega, fun H' st => ⟨⟨xs, sqB_stb st h1, by omega⟩, fun i d e => ?_⟩⟩
  unfold enumD at e
  rw [List.getElem?_map, List.getElem?_zipIdx] at e
  cases q : l[i]? with
  | none => rw [q] at e; cases e
  | some p =>
    rw [q] at e
    cases e
    obtain ⟨v1, g1, rv1⟩ := (Reps.stb st _ r1).get q
    refine ⟨⟨xs, v1, sqB_stb st h1, g1⟩, ?_⟩
    rintro x H'' ⟨T, x1, rfl, hT, rfl, q1⟩
    have := q1 xs (sqB_stb st h1)
    rw [g1] at this; cases this
    have ex : Ex H' (upd H' T (.tup [.int (k + (i : Nat)), v1])) := Ex.new hT
    refine ⟨ex, .tup (SqT.of upd_same) (.cons ?_ (.cons (Rep.stb ex.stb _ rv1) .nil))⟩
    simp only [Nat.zero_add]
    exact .int _
def iZip (f : LF) : IF := fun ρ S => (f ρ S).bind fun ws S1 => match ws with
  | [.d x, .d y] => match kindB x with
    | some (_, l) => match kindB y with
      | some (_, m) => .ok (zipD l m) S1
      | none => .bad
    | none => .bad
  | _ => .bad
def iEnum1 (f : LF) : IF := fun ρ S => (f ρ S).bind fun ws S1 => match ws with
  | [.d x] => match kindB x with
    | some (_, l) => .ok (enumD 0 l) S1
    | none => .bad
  | _ => .bad
def startOk (k : Int) : Bool := decide (-(2 ^ 63) ≤ k ∧ k < 2 ^ 63)
def iEnum2 (f : LF) : IF := fun ρ S => (f ρ S).bind fun ws S1 => match ws with
  | [.d x, .d (.int k)] => match kindB x with
    | some (_, l) => if startOk k then .ok (enumD k l) S1 else .bad
    | none => .bad
  | _ => .bad
section
variable {X : Cx} {Wx : WX} {e e2 : Expr} {l : LF} {p pos tpos : Pos} {elts : List Expr} {kk : Nat}
theorem di_zip (hg : Gl X "zip") (hm : X.mg "zip" = none) (ha : DA X Wx [e, e2] l) (hs : starEach [e, e2] X.env = (false, eval e X.env) :: starEach [e2] X.env := by rfl) (hpl : (backTo pos (starEach [e2] X.env)).any (·.1) = false := by rfl) :
    DI X Wx (.Tuple elts kk tpos) (.Call (.Name "zip" p) [e, e2] [] pos) (iZip l) := by
  refine ⟨fun pins s σ H R I ⟨ad, ρ, S, sg, rs, q⟩ => ?_⟩
  refine Call_ (ld_blt I hg hm PyProof.Rows.boot_zip (PyProof.Rows.callWith_type1 (thn (ha.run pos pins s σ H (fun vs H1 => ∃ x y dx dy b1 b2 l1 l2, vs = [x, y] ∧ Rep X.K H1 x dx ∧ Rep X.K H1 y dy ∧ kindB dx = some (b1, l1) ∧ kindB dy = some (b2, l2) ∧ ∀ J, Walk X.K J H1 (zipD l1 l2) → R J H1) I ⟨ad, ρ, S, sg, rs, post_mono (post_bind q) ?_⟩) fun us s1 ⟨vs, H1, I1, r1, q1⟩ => ?_) hs hpl))
  · rintro vs H1 ⟨ad1, ws, S1, fr1, r1, rs1, q1⟩
    split at q1
    · rename_i x y
      cases hx : kindB x with
      | none => rw [hx] at q1; exact q1.elim
      | some bl =>
        rw [hx] at q1
        cases hy : kindB y with
        | none => rw [hy] at q1; exact q1.elim
        | some bm =>
          rw [hy] at q1
          cases r1 with
          | cons ra rr =>
            cases rr with
            | cons rb rr =>
              cases rr
              exact ⟨_, _, x, y, bl.1, bm.1, bl.2, bm.2, rfl, ra, rb, hx, hy, fun J w => q1 J H1 ad1 (Fr.refl _ _) w rs1⟩
    · exact q1.elim
  · obtain ⟨x, y, dx, dy, b1, b2, l1, l2, rfl, rx, ry, kx, ky, q⟩ := q1
    obtain ⟨a1, xs, rfl, sx, rpx⟩ := kind_rep rx kx
    obtain ⟨a2, ys, rfl, sy, rpy⟩ := kind_rep ry ky
    cases r1 with
    | cons r rr =>
      cases rr with
      | cons r' rr =>
        cases rr
        cases r
        cases r'
        obtain ⟨its, rv, p1, z1, g1⟩ := seqB I1 sx
        obtain ⟨its2, rv2, p2, z2, g2⟩ := seqB I1 sy
        refine zip_begins2 (beB b1 a1 its.toArray) (beB b2 a2 its2.toArray) p1 p2 fun h' hz hTI hTO h1 h2 hsz hk => wpAny_pyIter_zip hz ?_
        have I2 : Inv X pins σ H1 { s1 with heap := h' } := I1.kept (t' := s1.toks) hk
        refine ⟨s1.heap.objs.size + 4, [s1.heap.objs.size + 4, s1.heap.objs.size + 2, s1.heap.objs.size + 3, s1.heap.objs.size, s1.heap.objs.size + 1], _, _, H1, rfl, I2, turn_zipB (b1 := b1) (b2 := b2) (a1 := a1) (a2 := a2) (ap_new s1.heap.objs.size) g1 g2,
          ⟨hz, hTI, ⟨_, _, hTO⟩, itB_new h1, itB_new h2⟩, fun c hcm => ?_, q _ (walk_zip sx rpx sy rpy z1)⟩
        have hle := (ap_new s1.heap.objs.size).ge c hcm
        exact I1.fpOk hle (I1.hok.fresh hle)
theorem enum_fin {tg : Expr} {pins : List (Addr × Obj)} {σ : L2.St} {H1 : Hp} {s1 : Shared} {R : It → Hp → Prop} {E : Value → Shared → Prop} {b : Bool} {a : Addr} {xs : List V} {k : Int} {h' : Heap} (I1 : Inv X pins σ H1 s1) (g1 : a < s1.heap.objs.size)
    (he : IsEnum h' (s1.heap.objs.size + 1) s1.heap.objs.size k .none) (hi : h'.get? s1.heap.objs.size = some (obB b a)) (hk : ∀ b o, s1.heap.get? b = some o → h'.get? b = some o) (q : R (IteB X.K b a k) H1) :
    wpAny (model X.prog X.w) X.A (pyIter (.ref (s1.heap.objs.size + 1))) (PIE X pins σ (.Tuple elts kk tpos) R) E { s1 with heap := h' } := by
  refine wpAny_pyIter_enum he ?_
  have I2 : Inv X pins σ H1 { s1 with heap := h' } := I1.kept (t' := s1.toks) hk
  refine ⟨s1.heap.objs.size + 1, [s1.heap.objs.size + 1, s1.heap.objs.size], _, _, H1, rfl, I2, turn_enumB (b := b) (k0 := k) g1 (Nat.le_succ _) (Nat.le_refl _) (Nat.succ_ne_self _), ⟨⟨.none, by simpa using he⟩, itB_new hi⟩, fun c hcm => ?_, q⟩
  have e' : c = s1.heap.objs.size + 1 ∨ c = s1.heap.objs.size := by simpa using hcm
  have hle : s1.heap.objs.size ≤ c := by
    rcases e' with z | z
    · rw [z]; exact Nat.le_add_right _ _
    · rw [z]; exact Nat.le_refl _
  exact I1.fpOk hle (I1.hok.fresh hle)
theorem di_enum (hg : Gl X "enumerate") (hm : X.mg "enumerate" = none) (ha : DA X Wx [e] l) (hs : starEach [e] X.env = [(false, eval e X.env)] := by rfl) :
    DI X Wx (.Tuple elts kk tpos) (.Call (.Name "enumerate" p) [e] [] pos) (iEnum1 l) := by
  refine ⟨fun pins s σ H R I ⟨ad, ρ, S, sg, rs, q⟩ => ?_⟩
  refine Call_ (ld_blt I hg hm boot_enumerate (PyProof.Rows.callWith_type1 (thn (ha.run pos pins s σ H (fun vs H1 => ∃ x dx b1 l1, vs = [x] ∧ Rep X.K H1 x dx ∧ kindB dx = some (b1, l1) ∧ ∀ J, Walk X.K J H1 (enumD 0 l1) → R J H1) I ⟨ad, ρ, S, sg, rs, post_mono (post_bind q) ?_⟩) fun us s1 ⟨vs, H1, I1, r1, q1⟩ => ?_) hs rfl))
  · rintro vs H1 ⟨ad1, ws, S1, fr1, r1, rs1, q1⟩
    split at q1
    · rename_i x
      cases hx : kindB x with
      | none => rw [hx] at q1; exact q1.elim
      | some bl =>
        rw [hx] at q1
        cases r1 with
        | cons ra rr =>
          cases rr
          exact ⟨_, x, bl.1, bl.2, rfl, ra, hx, fun J w => q1 J H1 ad1 (Fr.refl _ _) w rs1⟩
    · exact q1.elim
  · obtain ⟨x, dx, b1, l1, rfl, rx, kx, q⟩ := q1
    obtain ⟨a1, xs, rfl, sx, rpx⟩ := kind_rep rx kx
    cases r1 with
    | cons r rr =>
      cases rr
      cases r
      obtain ⟨its, rv, p1, z1, g1⟩ := seqB I1 sx
      exact enum_begins1 (beB b1 a1 its.toArray) p1 fun h' he hi hsz hk => enum_fin (xs := xs) (tg := e) I1 g1 he hi hk (q _ (walk_enum sx rpx z1))
theorem di_enum2 (hg : Gl X "enumerate") (hm : X.mg "enumerate" = none) (ha : DA X Wx [e, e2] l) (hs : starEach [e, e2] X.env = (false, eval e X.env) :: starEach [e2] X.env := by rfl) (hpl : (backTo pos (starEach [e2] X.env)).any (·.1) = false := by rfl) :
    DI X Wx (.Tuple elts kk tpos) (.Call (.Name "enumerate" p) [e, e2] [] pos) (iEnum2 l) := by
  refine ⟨fun pins s σ H R I ⟨ad, ρ, S, sg, rs, q⟩ => ?_⟩
  refine Call_ (ld_blt I hg hm boot_enumerate (PyProof.Rows.callWith_type1 (thn (ha.run pos pins s σ H (fun vs H1 => ∃ x dx b1 l1 k, vs = [x, .int k] ∧ Rep X.K H1 x dx ∧ kindB dx = some (b1, l1) ∧ startOk k = true ∧ ∀ J, Walk X.K J H1 (enumD k l1) → R J H1) I ⟨ad, ρ, S, sg, rs, post_mono (post_bind q) ?_⟩) fun us s1 ⟨vs, H1, I1, r1, q1⟩ => ?_) hs hpl))
  · rintro vs H1 ⟨ad1, ws, S1, fr1, r1, rs1, q1⟩
    split at q1
    · rename_i x k
      cases hx : kindB x with
      | none => rw [hx] at q1; exact q1.elim
      | some bl =>
        rw [hx] at q1
        dsimp only at q1
        split at q1
        · rename_i hk
          cases r1 with
          | cons ra rr =>
            cases rr with
            | cons rb rr =>
              cases rr
              cases rb
              exact ⟨_, x, bl.1, bl.2, k, rfl, ra, hx, hk, fun J w => q1 J H1 ad1 (Fr.refl _ _) w rs1⟩
        · exact q1.elim
    · exact q1.elim
  · obtain ⟨x, dx, b1, l1, k, rfl, rx, kx, hk0, q⟩ := q1
    obtain ⟨a1, xs, rfl, sx, rpx⟩ := kind_rep rx kx
    cases r1 with
    | cons r rr =>
      cases rr with
      | cons r' rr =>
        cases rr
        cases r
        obtain ⟨t, rfl⟩ := r'
        obtain ⟨its, rv, p1, z1, g1⟩ := seqB I1 sx
        have hb := of_decide_eq_true hk0
        exact enum_begins (beB b1 a1 its.toArray) p1 hb.1 hb.2 fun h' he hi hsz hk => enum_fin (xs := xs) (tg := e) I1 g1 he hi hk (q _ (walk_enum sx rpx z1))
end
end DL

set_option Elab.async false
set_option linter.all false
set_option maxRecDepth 100000
set_option maxHeartbeats 4000000
/-! D8: built-in functions on data, slices, op=, stores into lists, append and extend. -/
namespace DL
open PySem PySem.Spec PyProof.Rows L2

/-! ### built-in functions of data -/
def views (S : Sto) : List Wv → Option (List PyData)
  | [] => some []
  | w :: r => match view S w with
    | some d => (views S r).map (d :: ·)
    | none => none
abbrev RepVs (K : PySem.W.Frag) (H : Hp) : List V → List PyData → Prop := Paired (RepV K H)
theorem views_rep {K : PySem.W.Frag} {ad : List Addr} {H : Hp} {S : Sto} (rs : RS K ad H S) : ∀ {vs : List V} {ws : List Wv} {ds : List PyData}, RepWs K ad H vs ws → views S ws = some ds → RepVs K H vs ds
  | _, _, _, .nil, e => by cases e; exact .nil
  | _, _, ds, .cons (b := w) (l₂ := r) h t, e => by
    unfold views at e
    cases q : view S w with
    | none => rw [q] at e; cases e
    | some d =>
      rw [q] at e
      cases q2 : views S r with
      | none => rw [q2] at e; cases e
      | some l =>
        rw [q2] at e
        cases e
        exact .cons (view_rep h rs q) (views_rep rs t q2)
def rG (K : PySem.W.Frag) (g : List PyData → Option PyData) : List V → Hp → VK → Prop := fun xs H Q => ∃ ds d, RepVs K H xs ds ∧ g ds = some d ∧ ∀ v H', Ex H H' → Rep K H' v d → Q v H'
def CallP (X : Cx) (f : Value) (g : List PyData → Option PyData) : Prop := CallR X f (rG X.K g)
def opN (g : List PyData → Option PyData) (ws : List Wv) (S : Sto) : Rs Wv := match views S ws with
  | some ds => match g ds with
    | some d => .ok (.d d) S
    | none => .bad
  | none => .bad
def eB (g : List PyData → Option PyData) (l : LF) : EF := fun ρ S => (l ρ S).bind (opN g)
section
variable {X : Cx} {Wx : WX} {g : List PyData → Option PyData} {e : Expr} {es : List Expr} {l : LF} {x : Str} {p pos : Pos}
theorem blt_conv {σ : L2.St} {H : Hp} {Q : VK} (q : tD X.K X.mg Wx (eB g l) σ H Q) : tCB (rG X.K g) (tDA X.K X.mg Wx l) σ H Q := by
  obtain ⟨ad, ρ, S, sg, rs, q⟩ := q
  refine ⟨ad, ρ, S, sg, rs, post_mono (post_bind q) ?_⟩
  rintro vs H1 ⟨ad1, ws, S1, fr1, r1, rs1, q1⟩
  unfold opN at q1
  cases e1 : views S1 ws with
  | none => rw [e1] at q1; exact q1.elim
  | some ds =>
    rw [e1] at q1
    dsimp only at q1
    cases e2 : g ds with
    | none => rw [e2] at q1; exact q1.elim
    | some d =>
      rw [e2] at q1
      exact ⟨ds, d, views_rep rs1 r1 e1, e2, fun v H' ex r => q1 v H' ad1 ex.fr r (rs1.ex ex)⟩
theorem de_blt {id : String} (hc : CallP X (.builtin id) g) (hg : Gl X x) (hm : X.mg x = none) (hv : bootBuiltins x = some (.builtin id)) (ha : DA X Wx (e :: es) l) (hn : x ≠ "__name__" := by decide) (hdb : (x == ("__debug__" : Str)) = false := by decide)
    (he : starEach (e :: es) X.env = (false, eval e X.env) :: starEach es X.env := by rfl) (hpl : (backTo pos (starEach es X.env)).any (·.1) = false := by rfl) : DE X Wx (.Call (.Name x p) (e :: es) [] pos) (eB g l) :=
  PE.conv (pe_callB hc hg hm hv ha hn hdb he hpl) fun _ _ _ q => blt_conv q
theorem de_bty {T : String} (hc : CallP X (.type T) g) (hg : Gl X x) (hm : X.mg x = none) (hv : bootBuiltins x = some (.type T)) (ha : DA X Wx (e :: es) l) (hn : x ≠ "__name__" := by decide) (hdb : (x == ("__debug__" : Str)) = false := by decide)
    (he : starEach (e :: es) X.env = (false, eval e X.env) :: starEach es X.env := by rfl) (hpl : (backTo pos (starEach es X.env)).any (·.1) = false := by rfl) : DE X Wx (.Call (.Name x p) (e :: es) [] pos) (eB g l) :=
  PE.conv (pe_callTy hc hg hm hv ha hn hdb he hpl) fun _ _ _ q => blt_conv q
end
/-! the functions -/
def absG : List PyData → Option PyData
  | [.int i] => some (.int (i.natAbs : Nat))
  | _ => none
def intG : List PyData → Option PyData
  | [.int i] => some (.int i)
  | [.bool k] => some (.int (if k then 1 else 0))
  | [.str a] => match PySem.intText? a with
    | some n => if a.length ≤ 640 then some (.int n) else none
    | none => none
  | _ => none
def lenG : List PyData → Option PyData
  | [.list l] => some (.int (l.length : Nat))
  | [.tuple l] => some (.int (l.length : Nat))
  | [.str z] => some (.int (z.length : Nat))
  | _ => none
def tupG : List PyData → Option PyData
  | [.list l] => some (.tuple l)
  | [.tuple l] => some (.tuple l)
  | _ => none
def boolsD : List PyData → Option (List Bool)
  | [] => some []
  | .bool b :: r => (boolsD r).map (b :: ·)
  | _ => none
def intsD : List PyData → Option (List Int)
  | [] => some []
  | .int b :: r => (intsD r).map (b :: ·)
  | _ => none
def strsD : List PyData → Option (List Str)
  | [] => some []
  | .str b :: r => (strsD r).map (b :: ·)
  | _ => none
def allG : List PyData → Option PyData
  | [.list l] => (boolsD l).map fun bs => .bool (bs.all id)
  | _ => none
def anyG : List PyData → Option PyData
  | [.list l] => (boolsD l).map fun bs => .bool (bs.any id)
  | _ => none
def sumG : List PyData → Option PyData
  | [.list l] => (intsD l).map fun bs => .int bs.sum
  | _ => none
def maxG : List PyData → Option PyData
  | [.int i, .int j] => some (.int (if j > i then j else i))
  | _ => none
def minG : List PyData → Option PyData
  | [.int i, .int j] => some (.int (if j < i then j else i))
  | _ => none
def strG1 : List PyData → Option PyData
  | [.int i] => if i.natAbs.log2 < 1920 then some (.str (toString i)) else none
  | [.str x] => some (.str x)
  | _ => none
theorem bools_rep {K : PySem.W.Frag} {H : Hp} : ∀ {vs : List V} {ds : List PyData} {bs : List Bool}, Reps K H vs ds → boolsD ds = some bs → vs = bs.map V.bl
  | _, _, bs, .nil, e => by cases e; rfl
  | _, _, bs, .cons (ds := ds) h t, e => by
    cases h with
    | bl b =>
      unfold boolsD at e
      cases q : boolsD ds with
      | none => rw [q] at e; cases e
      | some l => rw [q] at e; cases e; rw [bools_rep t q]; rfl
    | _ => cases e
theorem ints_rep {K : PySem.W.Frag} {H : Hp} : ∀ {vs : List V} {ds : List PyData} {bs : List Int}, Reps K H vs ds → intsD ds = some bs → vs = bs.map V.int
  | _, _, bs, .nil, e => by cases e; rfl
  | _, _, bs, .cons (ds := ds) h t, e => by
    cases h with
    | int b =>
      unfold intsD at e
      cases q : intsD ds with
      | none => rw [q] at e; cases e
      | some l => rw [q] at e; cases e; rw [ints_rep t q]; rfl
    | _ => cases e
theorem strs_rep {K : PySem.W.Frag} {H : Hp} : ∀ {vs : List V} {ds : List PyData} {bs : List Str}, Reps K H vs ds → strsD ds = some bs → vs = bs.map V.str ∧ ∀ b ∈ bs, strG b = true
  | _, _, bs, .nil, e => by cases e; exact ⟨rfl, fun _ h => by cases h⟩
  | _, _, bs, .cons (ds := ds) h t, e => by
    cases h with
    | str b hb =>
      unfold strsD at e
      cases q : strsD ds with
      | none => rw [q] at e; cases e
      | some l =>
        rw [q] at e; cases e
        obtain ⟨e1, e2⟩ := strs_rep t q
        rw [e1]
        exact ⟨rfl, fun c hc => by
          rcases List.mem_cons.mp hc with z | z
          · rw [z]; exact hb
          · exact e2 c z⟩
    | _ => cases e
section
variable {X : Cx}
theorem repV1 {K : PySem.W.Frag} {H : Hp} {xs : List V} {d : PyData} (h : RepVs K H xs [d]) : ∃ x, xs = [x] ∧ RepV K H x d := by
  cases h with
  | cons r t => cases t; exact ⟨_, rfl, r⟩
theorem repV2 {K : PySem.W.Frag} {H : Hp} {xs : List V} {d e : PyData} (h : RepVs K H xs [d, e]) : ∃ x y, xs = [x, y] ∧ RepV K H x d ∧ RepV K H y e := by
  cases h with
  | cons r t => obtain ⟨y, rfl, r2⟩ := repV1 t; exact ⟨_, _, rfl, r, r2⟩
theorem repV_list {K : PySem.W.Frag} {H : Hp} {x : V} {l : List PyData} (h : RepV K H x (.list l)) : ∃ a vs, x = .ref a ∧ SqL K H a vs ∧ Reps K H vs l := h.lst
theorem cp_abs : CallP X (.builtin "abs") absG := by
  intro pins s σ H xs us Q I r ⟨ds, d, h, e, q⟩
  unfold absG at e
  split at e
  · cases e
    obtain ⟨x, rfl, r1⟩ := repV1 h
    cases r1.int
    refine call_abs pins s σ H _ us Q I r ⟨_, rfl, ?_⟩
    rename_i i
    have : (if i < 0 then -i else i) = ((i.natAbs : Nat) : Int) := by split <;> omega
    rw [this]
    exact q _ H (Ex.refl H) (.int _)
  · cases e
theorem cp_int : CallP X (.type "int") intG := by
  intro pins s σ H xs us Q I r ⟨ds, d, h, e, q⟩
  unfold intG at e
  split at e
  · cases e
    obtain ⟨x, rfl, r1⟩ := repV1 h
    cases r1.int
    exact call_int1 pins s σ H _ us Q I r (.inl ⟨_, rfl, q _ H (Ex.refl H) (.int _)⟩)
  · cases e
    obtain ⟨x, rfl, r1⟩ := repV1 h
    cases r1.bool
    exact call_int1 pins s σ H _ us Q I r (.inr ⟨_, rfl, q _ H (Ex.refl H) (.int _)⟩)
  · split at e
    · split at e
      · rename_i hz
        cases e
        obtain ⟨x, rfl, r1⟩ := repV1 h
        obtain ⟨rfl, z⟩ := r1.str
        exact call_int_str pins s σ H _ us Q I r ⟨_, _, rfl, by assumption, hz, q _ H (Ex.refl H) (.int _)⟩
      · cases e
    · cases e
  · cases e
theorem cp_len : CallP X (.builtin "len") lenG := by
  intro pins s σ H xs us Q I r ⟨ds, d, h, e, q⟩
  unfold lenG at e
  split at e
  · cases e
    obtain ⟨x, rfl, r1⟩ := repV1 h
    obtain ⟨a, vs, rfl, t, rr⟩ := r1.lst
    refine call_len_seq pins s σ H _ us Q I r ⟨_, _, rfl, .inl t, ?_⟩
    rw [rr.length]
    exact q _ H (Ex.refl H) (.int _)
  · cases e
    obtain ⟨x, rfl, r1⟩ := repV1 h
    obtain ⟨a, vs, rfl, t, rr⟩ := r1.tup
    refine call_len_seq pins s σ H _ us Q I r ⟨_, _, rfl, .inr t, ?_⟩
    rw [rr.length]
    exact q _ H (Ex.refl H) (.int _)
  · cases e
    obtain ⟨x, rfl, r1⟩ := repV1 h
    obtain ⟨rfl, z⟩ := r1.str
    exact call_len_str pins s σ H _ us Q I r ⟨_, rfl, strG_len z, q _ H (Ex.refl H) (.int _)⟩
  · cases e
theorem cp_tup : CallP X (.type "tuple") tupG := by
  intro pins s σ H xs us Q I r ⟨ds, d, h, e, q⟩
  unfold tupG at e
  split at e
  · cases e
    obtain ⟨x, rfl, r1⟩ := repV1 h
    obtain ⟨a, vs, rfl, t, rr⟩ := r1.lst
    refine call_tuple_of pins s σ H _ us Q I r ⟨_, _, rfl, .inl ⟨t, fun p hp => ?_⟩⟩
    have ex : Ex H (upd H p (.tup vs)) := Ex.new hp
    exact q _ _ ex (.tup (SqT.of upd_same) (Reps.stb ex.stb _ rr))
  · cases e
    obtain ⟨x, rfl, r1⟩ := repV1 h
    obtain ⟨a, vs, rfl, t, rr⟩ := r1.tup
    exact call_tuple_of pins s σ H _ us Q I r ⟨_, _, rfl, .inr ⟨t, q _ H (Ex.refl H) (.tup t rr)⟩⟩
  · cases e
theorem cp_all (hc : X.calm = true) : CallP X (.builtin "all") allG := by
  intro pins s σ H xs us Q I r ⟨ds, d, h, e, q⟩
  unfold allG at e
  split at e
  · rename_i l
    obtain ⟨x, rfl, r1⟩ := repV1 h
    obtain ⟨a, vs, rfl, t, rr⟩ := r1.lst
    cases hb : boolsD l with
    | none => rw [hb] at e; cases e
    | some bs =>
      rw [hb] at e
      cases e
      have := bools_rep rr hb
      subst this
      exact cr_all hc pins s σ H _ us Q I r ⟨_, bs, rfl, t, q _ H (Ex.refl H) (.bl _)⟩
  · cases e
theorem cp_any (hc : X.calm = true) : CallP X (.builtin "any") anyG := by
  intro pins s σ H xs us Q I r ⟨ds, d, h, e, q⟩
  unfold anyG at e
  split at e
  · rename_i l
    obtain ⟨x, rfl, r1⟩ := repV1 h
    obtain ⟨a, vs, rfl, t, rr⟩ := r1.lst
    cases hb : boolsD l with
    | none => rw [hb] at e; cases e
    | some bs =>
      rw [hb] at e
      cases e
      have := bools_rep rr hb
      subst this
      exact cr_any hc pins s σ H _ us Q I r ⟨_, bs, rfl, t, q _ H (Ex.refl H) (.bl _)⟩
  · cases e
theorem cp_sum (hc : X.calm = true) : CallP X (.builtin "sum") sumG := by
  intro pins s σ H xs us Q I r ⟨ds, d, h, e, q⟩
  unfold sumG at e
  split at e
  · rename_i l
    obtain ⟨x, rfl, r1⟩ := repV1 h
    obtain ⟨a, vs, rfl, t, rr⟩ := r1.lst
    cases hb : intsD l with
    | none => rw [hb] at e; cases e
    | some bs =>
      rw [hb] at e
      cases e
      have := ints_rep rr hb
      subst this
      exact cr_sum hc pins s σ H _ us Q I r ⟨_, bs, rfl, t, q _ H (Ex.refl H) (.int _)⟩
  · cases e
theorem cp_max (hc : X.calm = true) : CallP X (.builtin "max") maxG := by
  intro pins s σ H xs us Q I r ⟨ds, d, h, e, q⟩
  unfold maxG at e
  split at e
  · cases e
    obtain ⟨x, y, rfl, r1, r2⟩ := repV2 h
    cases r1.int; cases r2.int
    exact call_max2 hc pins s σ H _ us Q I r ⟨_, _, rfl, q _ H (Ex.refl H) (.int _)⟩
  · cases e
theorem cp_min (hc : X.calm = true) : CallP X (.builtin "min") minG := by
  intro pins s σ H xs us Q I r ⟨ds, d, h, e, q⟩
  unfold minG at e
  split at e
  · cases e
    obtain ⟨x, y, rfl, r1, r2⟩ := repV2 h
    cases r1.int; cases r2.int
    exact call_min2 hc pins s σ H _ us Q I r ⟨_, _, rfl, q _ H (Ex.refl H) (.int _)⟩
  · cases e
def negG : List PyData → Option PyData
  | [.int i] => some (.int (-i))
  | _ => none
theorem un_negD {Wx : WX} {a : Expr} {f : EF} {pos : Pos} (ha : DE X Wx a f) : DE X Wx (.UnaryOp .USub a pos) (eB negG (lCons f lNil)) := PE.conv (pe_un un_neg ha) fun σ H Q ⟨ad, ρ, S, sg, rs, q⟩ => by
  have q : post X.K X.mg Wx σ ad H (RepW X.K) ((f ρ S).bind fun x S1 => opN negG [x] S1) Q := by
    revert q
    unfold eB lCons lNil
    cases f ρ S with
    | bad => exact id
    | exc x S1 => exact id
    | ok w S1 => exact id
  refine ⟨ad, ρ, S, sg, rs, post_mono (post_bind q) ?_⟩
  rintro x H1 ⟨ad1, w, S1, fr1, r1, rs1, q1⟩
  unfold opN views views negG at q1
  cases e1 : view S1 w with
  | none => rw [e1] at q1; exact q1.elim
  | some d =>
    rw [e1] at q1
    cases d with
    | int i =>
      have rv := view_rep r1 rs1 e1
      cases rv.int
      exact ⟨_, rfl, q1 _ H1 ad1 (Fr.refl _ _) (.int _) rs1⟩
    | _ => exact q1.elim
end
end DL

set_option Elab.async false
set_option linter.all false
set_option maxRecDepth 100000
set_option maxHeartbeats 4000000
/-! D9: list(zip(a, b)). -/
namespace DL
open PySem PySem.Spec PyProof.Rows L2

def ZSt (h : Heap) (z TI TO i1 i2 : Addr) (b1 b2 : Bool) (a1 a2 : Addr) (i : Nat) : Prop :=
  (IsZip h z TI TO .none ∨ ∃ T f oT, IsZipHeld h z TI TO T f ∧ h.get? T = some oT ∧ T ∉ [z, TI, TO, i1, i2] ∧ oT.cls = .type "tuple") ∧ IsTupOf2 h TI (.ref i1) (.ref i2) ∧ (∃ x y, IsTupOf2 h TO x y) ∧ itB b1 h i1 a1 i ∧ itB b2 h i2 a2 i
section
variable {h h' : Heap} {z TI TO i1 i2 : Addr} {b1 b2 : Bool} {a1 a2 : Addr} {i : Nat}
theorem ZSt.ty (st : ZSt h z TI TO i1 i2 b1 b2 a1 a2 i) : ∃ o, h.get? z = some o ∧ o.cls = .type "zip" := by
  rcases st.1 with q | ⟨_, _, _, q, _⟩
  · exact ⟨_, q, rfl⟩
  · exact ⟨_, q, rfl⟩
theorem ZSt.at (st : ZSt h z TI TO i1 i2 b1 b2 a1 a2 i) {q : Addr} (hc : ∀ o, h.get? q = some o → o.cls ≠ .type "tuple") (hn : q ∉ [z, TI, TO, i1, i2]) (k : ∀ b o, b ≠ q → h.get? b = some o → h'.get? b = some o) : ZSt h' z TI TO i1 i2 b1 b2 a1 a2 i := by
  have ne : ∀ c ∈ [z, TI, TO, i1, i2], c ≠ q := fun c hc e => hn (e ▸ hc)
  obtain ⟨hz, hTI, ⟨x, y, hTO⟩, h1, h2⟩ := st
  refine ⟨?_, k TI _ (ne _ (by simp)) hTI, ⟨x, y, k TO _ (ne _ (by simp)) hTO⟩, itB_at h1 fun o e => k i1 o (ne _ (by simp)) e, itB_at h2 fun o e => k i2 o (ne _ (by simp)) e⟩
  rcases hz with e1 | ⟨T, f, oT, e1, e2, e3, e5⟩
  · exact .inl (k z _ (ne _ (by simp)) e1)
  · refine .inr ⟨T, f, oT, k z _ (ne _ (by simp)) e1, k T _ (fun z => ?_) e2, e3, e5⟩
    subst z
    exact hc _ e2 e5
end
theorem FpOk.upd {X : Cx} {pins : List (Addr × Obj)} {H : Hp} {c p : Addr} {o : HO} (f : FpOk X pins H c) (h : c ≠ p) : FpOk X pins (upd H p o) c := ⟨by rw [upd_ne h]; exact f.1, f.2⟩
section
variable {X : Cx} {pins : List (Addr × Obj)} {σ : L2.St} {A1 : Around} {z TI TO i1 i2 : Addr} {b1 b2 : Bool} {a1 a2 q : Addr} {N : Nat} {H0 : Hp} {xs ys : List V} {l m : List PyData}
theorem zl_loop {Rs : Result → Shared → Prop} (D : Ap z TI TO i1 i2 N) (g1 : a1 < N) (g2 : a2 < N) (hh : A1.in1.in1.handled = none) (hq0 : H0 q = none) (s1 : SqB b1 X.K H0 a1 xs) (r1 : Reps X.K H0 xs l) (s2 : SqB b2 X.K H0 a2 ys) (r2 : Reps X.K H0 ys m)
    (hdone : ∀ H s accV, Inv X pins σ H s → Ex H0 H → H q = some (.lst accV) → Reps X.K H accV (zipD l m) → Rs (.ok (.ret .none)) s) :
    ∀ (k i : Nat) (accV : List V) (H : Hp) (s : Shared), (zipD l m).length - i = k → i ≤ (zipD l m).length → Inv X pins σ H s → Ex H0 H → H q = some (.lst accV) → Reps X.K H accV ((zipD l m).take i) →
      ZSt s.heap z TI TO i1 i2 b1 b2 a1 a2 i → (∀ c ∈ [z, TI, TO, i1, i2], FpOk X pins H c) → codeAny (model X.prog X.w) A1 (.builtin "list.extend.loop" ⟨[.ref q, .ref z, .none], []⟩) Rs s := by
  have S := D.S a1 a2 g1 g2
  have n1 : a1 ≠ i1 := Nat.ne_of_lt (Nat.lt_of_lt_of_le g1 (D.ge i1 (by simp)))
  have n2 : a2 ≠ i2 := Nat.ne_of_lt (Nat.lt_of_lt_of_le g2 (D.ge i2 (by simp)))
  have hl : (zipD l m).length = min l.length m.length := by simp [zipD]
  intro k
  induction k with
  | zero =>
    intro i accV H s hk hi I ex hq rp st fp
    have hin : i = (zipD l m).length := by omega
    refine codeAny_builtin PySem.F.entry_extend_loop ?_
    rw [Around.under_plainId PySem.F.plain_extend_loop _]
    show wpAny _ A1.in1 (pyNext (.ref z) >>= _) _ _ s
    have x1 := sqB_stb ex.stb s1
    have x2 := sqB_stb ex.stb s2
    obtain ⟨its, rv, p, _, _⟩ := seqB I x1
    obtain ⟨its2, rv2, p2, _, _⟩ := seqB I x2
    have e1 := rv.length
    have e2 := rv2.length
    have e3 := r1.length
    have e4 := r2.length
    have fin : ∀ h' tk, (∀ c o, c ∉ [z, TI, TO, i1, i2] → s.heap.get? c = some o → h'.get? c = some o) → Rs (.ok (.ret .none)) { s with heap := h', toks := tk } := fun h' tk hk => by
      refine hdone H _ accV (I.turnedL (t' := tk) (ch := [z, TI, TO, i1, i2]) (fun b o hb e => hk b o hb e) fp) ex hq ?_
      rw [hin, List.take_length] at rp
      exact rp
    obtain ⟨hz, hTI, ⟨x0, y0, hTO⟩, h1, h2⟩ := st
    rcases hz with hz | ⟨T, f, oT, hz, hT, _⟩
    · refine wpAny_bind (wpAny_pyNext_zipD2_end S (drB b1 hh i1 a1 n1 its.toArray) (drB b2 hh i2 a2 n2 its2.toArray) hz hTI hTO ⟨h1, p⟩ ⟨h2, p2⟩ (by simp; omega) (by simp; omega) (by simp; omega) fun h' tk hk => ?_)
      exact wpAny_pure (fin h' tk fun c o hb e => hk c o (fun q' => hb (by simp [q'])) (fun q' => hb (by simp [q'])) (fun q' => hb (by simp [q'])) (fun q' => hb (by simp [q'])) e)
    · refine wpAny_bind (pyNext_zipH_end S (drB b1 hh i1 a1 n1 its.toArray) (drB b2 hh i2 a2 n2 its2.toArray) hz hT hTI ⟨h1, p⟩ ⟨h2, p2⟩ (by simp; omega) (by simp; omega) (by simp; omega) fun h' tk hk => ?_)
      exact wpAny_pure (fin h' tk fun c o hb e => hk c o (fun q' => hb (by simp [q'])) (fun q' => hb (by simp [q'])) (fun q' => hb (by simp [q'])) e)
  | succ k ih =>
    intro i accV H s hk hi I ex hq rp st fp
    have hlt : i < (zipD l m).length := by omega
    refine codeAny_builtin PySem.F.entry_extend_loop ?_
    rw [Around.under_plainId PySem.F.plain_extend_loop _]
    show wpAny _ A1.in1 (pyNext (.ref z) >>= _) _ _ s
    have x1 := sqB_stb ex.stb s1
    have x2 := sqB_stb ex.stb s2
    obtain ⟨its, rv, p, zl, _⟩ := seqB I x1
    obtain ⟨its2, rv2, p2, zl2, _⟩ := seqB I x2
    have e1 := rv.length
    have e2 := rv2.length
    have e3 := r1.length
    have e4 := r2.length
    have hqc : q ∉ [z, TI, TO, i1, i2] := fun hm => by
      have := (fp q hm).1
      rw [hq] at this; cases this
    obtain ⟨hz, hTI, ⟨x0, y0, hTO⟩, h1, h2⟩ := id st
    have hcell : ∀ c ∈ [z, TI, TO, i1, i2], c < s.heap.objs.size := fun c hcm => by
      have e' : c = z ∨ c = TI ∨ c = TO ∨ c = i1 ∨ c = i2 := by simpa using hcm
      rcases e' with q | q | q | q | q
      · rw [q]; obtain ⟨o, e, _⟩ := st.ty; exact Heap.lt_size e
      · rw [q]; exact Heap.lt_size hTI
      · rw [q]; exact Heap.lt_size hTO
      · rw [q]; obtain ⟨_, e1, _⟩ := itB_obj h1; exact Heap.lt_size e1
      · rw [q]; obtain ⟨_, e2, _⟩ := itB_obj h2; exact Heap.lt_size e2
    have ix : i < xs.length := by omega
    have iy : i < ys.length := by omega
    obtain ⟨d1, gd1, rd1⟩ := r1.getV (i := i) (v := xs[i]) (by simp [ix])
    obtain ⟨d2, gd2, rd2⟩ := r2.getV (i := i) (v := ys[i]) (by simp [iy])
    have hz1 : (zipD l m)[i]? = some (.tuple [d1, d2]) := by
      unfold zipD
      have hp : (l.zip m)[i]? = some (d1, d2) := List.getElem?_zip_eq_some.mpr ⟨gd1, gd2⟩
      rw [List.getElem?_map, hp]
      rfl
    -- what the turn does, whichever way the tuple comes
    have go : ∀ (u u2 : Value) (h' : Heap) (tk : Nat), its.toArray[i]? = some u → its2.toArray[i]? = some u2 → (IsZip h' z TI TO (rawInt s.heap.objs.size) ∨ IsZipHeld h' z TI TO s.heap.objs.size true ∨ ∃ T f oT, IsZipHeld h' z TI TO T f ∧ h'.get? T = some oT ∧ T ∉ [z, TI, TO, i1, i2] ∧ oT.cls = .type "tuple") → (∃ x y, IsTupOf2 h' TO x y) → itB b1 h' i1 a1 (i + 1) → itB b2 h' i2 a2 (i + 1) →
        IsTupOf2 h' s.heap.objs.size u u2 → h'.objs.size = s.heap.objs.size + 1 → (∀ c o, c ∉ [z, TO, i1, i2] → s.heap.get? c = some o → h'.get? c = some o) →
        wpAny (model X.prog X.w) A1.in1 (updateSeq q (·.push (.ref s.heap.objs.size)) >>= fun _ => again (.builtin "list.extend.loop" ⟨[.ref q, .ref z, .none], []⟩)) (fun fin s' => match fin with | .done f => Rs (.ok f) s' | .again c' => c'.quiet = true ∧ codeAny (model X.prog X.w) A1 c' Rs s') (fun e s' => Rs (.error e) s') { s with heap := h', toks := tk } := by
      intro u u2 h' tk hu hu2 hz' hTO' h1' h2' hT hsz hkp
      obtain ⟨v1, hv1, ru⟩ := rv.get (i := i) (x := xs[i]) (by simp [ix])
      obtain ⟨v2, hv2, ru2⟩ := rv2.get (i := i) (x := ys[i]) (by simp [iy])
      have eu : u = v1 := by simpa [hv1] using hu.symm
      have eu2 : u2 = v2 := by simpa [hv2] using hu2.symm
      subst eu eu2
      have new : ObjOk X.prog X.w (upd H s.heap.objs.size (.tup [xs[i], ys[i]])) h' s.heap.objs.size (.tup [xs[i], ys[i]]) :=
        ⟨by show 2 ≤ sizeLine; decide, [u, u2], .cons ru (.cons ru2 .nil), ⟨_, hT, rfl, _, rfl⟩⟩
      have I1 : Inv X pins σ (upd H s.heap.objs.size (.tup [xs[i], ys[i]])) { s with heap := h', toks := tk } :=
        I.turnedNew (t' := tk) (ch := [z, TI, TO, i1, i2]) (fun c o hb q => hkp c o (fun q' => hb (by
          rcases List.mem_cons.mp q' with r | r
          · rw [r]; simp
          · exact List.mem_cons_of_mem _ (List.mem_cons_of_mem _ r))) q) fp (Nat.le_refl _) new
      have exT : Ex H (upd H s.heap.objs.size (.tup [xs[i], ys[i]])) := Ex.new (I.hok.fresh (Nat.le_refl _))
      have hq1 := exT _ _ hq
      obtain ⟨zz, its3, n3, rv3, hl3, e3'⟩ := I1.lstM hq1
      have hacc : accV.length = i := by
        rw [rp.length, List.length_take]; omega
      refine wpAny_bind (wpAny_updateSeq e3' rfl (wpAny_pure ⟨plainId_quiet PySem.F.plain_extend_loop _, ?_⟩) (by rw [List.size_toArray]; omega) (by show (its3.toArray.push _).size ≤ sizeLine + 1; rw [Array.size_push, List.size_toArray]; omega))
      have I2 := I1.lset (its' := its3 ++ [.ref s.heap.objs.size]) (ys := accV ++ [.ref s.heap.objs.size]) (f := (·.push (.ref s.heap.objs.size))) (t' := tk) hq1 e3' (by simp) (rv3.append (show Vals [V.ref s.heap.objs.size] [Value.ref s.heap.objs.size] from .cons rfl .nil)) (by rw [List.length_append, List.length_singleton]; omega)
      refine ih (i + 1) (accV ++ [.ref s.heap.objs.size]) _ _ (by omega) hlt I2 ((ex.trans exT).upd2 hq0) upd_same ?_ ?_ fun c hcm => ?_
      · have st1 : Stb (upd H s.heap.objs.size (.tup [xs[i], ys[i]])) (upd (upd H s.heap.objs.size (.tup [xs[i], ys[i]])) q (.lst (accV ++ [.ref s.heap.objs.size]))) := stb_upd hq1
        have st2 := exT.stb.trans st1
        rw [List.take_add_one, hz1]
        refine Reps.append (Reps.stb st2 _ rp) (.cons ?_ .nil)
        have hTn : (upd (upd H s.heap.objs.size (.tup [xs[i], ys[i]])) q (.lst (accV ++ [.ref s.heap.objs.size]))) s.heap.objs.size = some (.tup [xs[i], ys[i]]) := by
          rw [upd_ne (ne_of_none hq (I.hok.fresh (Nat.le_refl _))).symm, upd_same]
        exact .tup (SqT.of hTn) (.cons (Rep.stb (ex.stb.trans st2) _ rd1) (.cons (Rep.stb (ex.stb.trans st2) _ rd2) .nil))
      · refine ZSt.at (q := q) (h := h') (i := i + 1) ⟨?_, hkp TI _ (by
            simp only [List.mem_cons, List.not_mem_nil, or_false, not_or]
            exact ⟨S.TIz, S.TITO, S.TIi1, S.TIi2⟩) hTI, hTO', h1', h2'⟩ (fun o e => by
          have : h'.get? q = some _ := e3'
          rw [this] at e; cases e
          exact fun z => absurd (Value.type.inj z) (by decide)) hqc fun b o hb e => (Heap.get?_update_other _ _ (Ne.symm hb)).trans e
        have hTc : s.heap.objs.size ∉ [z, TI, TO, i1, i2] := fun hm => Nat.lt_irrefl _ (hcell _ hm)
        rcases hz' with e | e | e
        · exact .inr ⟨s.heap.objs.size, false, _, e, hT, hTc, rfl⟩
        · exact .inr ⟨s.heap.objs.size, true, _, e, hT, hTc, rfl⟩
        · exact .inr e
      · exact FpOk.upd (FpOk.upd (fp c hcm) (Nat.ne_of_lt (hcell c hcm))) (fun e => hqc (e ▸ hcm))
    rcases hz with hz | ⟨T, f, oT, hz, hT, hTc, hTt⟩
    · refine wpAny_bind (wpAny_pyNext_zipD2_item S (drB b1 hh i1 a1 n1 its.toArray) (drB b2 hh i2 a2 n2 its2.toArray) hz hTI hTO ⟨h1, p⟩ ⟨h2, p2⟩ (by simp; omega) (by simp; omega) fun u u2 h' tk hu hu2 z' TO' st1' st2' hT hsz hk => ?_)
      exact go u u2 h' tk hu hu2 (.inl z') ⟨_, _, TO'⟩ st1'.1 st2'.1 hT hsz fun c o hb e => hk c o (fun q' => hb (by simp [q'])) (fun q' => hb (by simp [q'])) (fun q' => hb (by simp [q'])) (fun q' => hb (by simp [q'])) e
    · refine wpAny_bind (pyNext_zipH_item S (drB b1 hh i1 a1 n1 its.toArray) (drB b2 hh i2 a2 n2 its2.toArray) hz hT hTI ⟨h1, p⟩ ⟨h2, p2⟩ (by simp; omega) (by simp; omega) fun u u2 h' tk hu hu2 z' st1' st2' hT' hsz hk => ?_)
      refine go u u2 h' tk hu hu2 (.inr (.inr ⟨T, true, oT, z', hk T oT (fun e => hTc (by simp [e])) (fun e => hTc (by simp [e])) (fun e => hTc (by simp [e])) hT, hTc, hTt⟩)) ⟨x0, y0, hk TO _ S.TOz S.Ti1 S.Ti2 hTO⟩ st1'.1 st2'.1 hT' hsz fun c o hb e => hk c o (fun q' => hb (by simp [q'])) (fun q' => hb (by simp [q'])) (fun q' => hb (by simp [q'])) e
/-- list(z) of a zip just made -/
theorem zl_call {Q : VK} {s : Shared} (D : Ap z TI TO i1 i2 N) (g1 : a1 < N) (g2 : a2 < N) (hh : X.A.in1.in1.in1.in1.handled = none) (I : Inv X pins σ H0 s) (s1 : SqB b1 X.K H0 a1 xs) (r1 : Reps X.K H0 xs l) (s2 : SqB b2 X.K H0 a2 ys) (r2 : Reps X.K H0 ys m)
    (st : ZSt s.heap z TI TO i1 i2 b1 b2 a1 a2 0) (fp : ∀ c ∈ [z, TI, TO, i1, i2], FpOk X pins H0 c)
    (q : ∀ p H accV, H0 p = none → Ex H0 H → H p = some (.lst accV) → Reps X.K H accV (zipD l m) → Q (.ref p) H) : wpAny (model X.prog X.w) X.A (call (.type "list") [.ref z]) (EP X pins σ Q) X.xe s := by
  refine callType_codes (Q₁ := fun obj s₁ => obj = .ref s.heap.objs.size ∧ s₁ = { s with heap := s.heap.push { cls := .type "list", data := .seq #[] } }) PySem.F.called_list (PySem.F.typeCall_list_1 _) PySem.F.entry_list_init
    (code_list_new _ ⟨rfl, rfl⟩) fun obj s₁ h₁ => ?_
  obtain ⟨rfl, rfl⟩ := h₁
  have hS : (s.heap.push { cls := .type "list", data := .seq #[] }).get? s.heap.objs.size = some { cls := .type "list", data := .seq #[] } := Heap.get?_push_size _ rfl
  refine ⟨⟨_, hS, rfl⟩, PySem.F.args_list_init_2 _ _, ?_⟩
  have fr : H0 s.heap.objs.size = none := I.hok.fresh (Nat.le_refl _)
  have I1 : Inv X pins σ (upd H0 s.heap.objs.size (.lst [])) { s with heap := s.heap.push { cls := .type "list", data := .seq #[] } } := I.lnew (its := []) (t' := s.toks) .nil (Nat.zero_le _)
  obtain ⟨hz, hTI, ⟨x0, y0, hTO⟩, h1, h2⟩ := id st
  have hcell : ∀ c ∈ [z, TI, TO, i1, i2], c < s.heap.objs.size := fun c hcm => by
    have e' : c = z ∨ c = TI ∨ c = TO ∨ c = i1 ∨ c = i2 := by simpa using hcm
    rcases e' with q | q | q | q | q
    · rw [q]; obtain ⟨o, e, _⟩ := st.ty; exact Heap.lt_size e
    · rw [q]; exact Heap.lt_size hTI
    · rw [q]; exact Heap.lt_size hTO
    · rw [q]; obtain ⟨_, e1, _⟩ := itB_obj h1; exact Heap.lt_size e1
    · rw [q]; obtain ⟨_, e2, _⟩ := itB_obj h2; exact Heap.lt_size e2
  have hqc : s.heap.objs.size ∉ [z, TI, TO, i1, i2] := fun hm => Nat.lt_irrefl _ (hcell _ hm)
  have st1 : ZSt (s.heap.push { cls := .type "list", data := .seq #[] }) z TI TO i1 i2 b1 b2 a1 a2 0 := st.at (q := s.heap.objs.size) (fun o e => absurd (Heap.lt_size e) (Nat.lt_irrefl _)) hqc fun b o _ e => Heap.get?_push_of_some _ e
  show wpAny _ _ (do let old ← Builtin.List.listItems (.ref s.heap.objs.size); Builtin.List.listUpdate (.ref s.heap.objs.size) (fun _ => #[]); letGo old.toList.reverse; Builtin.List.listExtendWith (.ref s.heap.objs.size) (.ref z) .none) _ _ _
  refine wpAny_bind ?_
  unfold Builtin.List.listItems
  refine wpAny_bind (wpAny_seqItems hS rfl (wpAny_pure ?_))
  show wpAny _ _ (updateSeq s.heap.objs.size (fun _ => #[]) >>= fun _ => letGo (#[] : Array Value).toList.reverse >>= fun _ => Builtin.List.listExtendWith (.ref s.heap.objs.size) (.ref z) .none) _ _ _
  refine wpAny_bind (wpAny_updateSeq hS rfl ?_)
  have I2 := I1.lset (f := fun _ => #[]) (its := []) (its' := []) (ys := []) (t' := s.toks) upd_same hS rfl .nil (Nat.zero_le _)
  rw [upd_upd] at I2
  have nt : ∀ {h : Heap}, (∃ n, h.get? s.heap.objs.size = some { cls := .type "list", data := .seq #[] n }) → ∀ o, h.get? s.heap.objs.size = some o → o.cls ≠ .type "tuple" := fun ⟨n, e⟩ o e2 => by
    rw [e] at e2; cases e2; exact fun z => absurd (Value.type.inj z) (by decide)
  have st2 : ZSt ((s.heap.push { cls := .type "list", data := .seq #[] }).update s.heap.objs.size (Obj.mapSeq fun _ => #[])) z TI TO i1 i2 b1 b2 a1 a2 0 := st1.at (q := s.heap.objs.size) (nt ⟨0, hS⟩) hqc fun b o hb e => (Heap.get?_update_other _ _ (Ne.symm hb)).trans e
  refine wpAny_bind (wpAny_letGo ?_)
  have hne : s.heap.objs.size ≠ z := fun e => hqc (by rw [e]; simp)
  obtain ⟨oz, hoz, hzc⟩ := st2.ty
  have tz : Shared.TypeIs { s with heap := (s.heap.push { cls := .type "list", data := .seq #[] }).update s.heap.objs.size (Obj.mapSeq fun _ => #[]) } (.ref z) "zip" := ⟨oz, hoz, hzc⟩
  unfold Builtin.List.listExtendWith
  refine wpAny_bind (wpAny_typeOf tz ?_)
  have h1 : Builtin.List.listSameRef (.ref s.heap.objs.size) (.ref z) = false := by simp [Builtin.List.listSameRef, hne]
  have h2 : (Value.type "zip" == Value.type "list") = false := by decide
  have h3 : (Value.type "zip" == Value.type "tuple") = false := by decide
  simp only [h1, h2, h3, Bool.or_false, Bool.false_eq_true, if_false]
  have self : ∀ {Q' : Value → Shared → Prop} {E : Value → Shared → Prop} {A' : Around} {s' : Shared}, ZSt s'.heap z TI TO i1 i2 b1 b2 a1 a2 0 → Q' (.ref z) s' → wpAny (model X.prog X.w) A' (pyIter (.ref z)) Q' E s' := fun st' h => by
    rcases st'.1 with e | ⟨T, f, oT, e, _⟩
    · exact wpAny_pyIter_zip e h
    · have hT : Shared.TypeIs _ (.ref z) "zip" := ⟨_, e, rfl⟩
      refine wpAny_pyIter_slot hT PySem.F.slot_zip_iter (wpAny_call_entry PySem.F.slot_zip_iter hT PySem.F.entry_zip_iter ?_ (PySem.F.args_zip_iter_1 _))
      exact wpAny_pure ⟨_, rfl, "zip", _, hT, PySem.F.slot_zip_next.lookup, h⟩
  refine wpAny_bind (self st2 ?_)
  refine wpAny_bind (wpAny_holding ?_)
  unfold Builtin.List.listLengthHint
  refine wpAny_bind (wpAny_specialOf tz zip_no_len ?_)
  show wpAny _ _ (specialOf (Value.ref z) (Str.ofString "__length_hint__") >>= _) _ _ _
  refine wpAny_bind (wpAny_specialOf tz zip_no_hint ?_)
  refine wpAny_pure ?_
  show wpAny _ _ (rule "list.extend.makes-room" >>= fun _ => Builtin.List.listTouch (.ref s.heap.objs.size) >>= fun _ =>
    again (.builtin "list.extend.loop" ⟨[.ref s.heap.objs.size, .ref z, .none], []⟩)) _ _ _
  refine wpAny_bind (wpAny_rule ?_)
  refine wpAny_bind ?_
  obtain ⟨zz, its, k, r3, hl3, e3⟩ := I2.lstM upd_same
  cases r3
  show wpAny _ _ (updateSeq s.heap.objs.size (·.push .none) >>= fun _ => updateSeq s.heap.objs.size (·.pop)) _ _ _
  refine wpAny_bind (wpAny_updateSeq e3 rfl ?_)
  have I3 := I2.lset (f := (·.push Value.none)) (its' := [Value.none]) (ys := [.non]) (t' := s.toks) upd_same e3 (by simp) (.cons rfl .nil) (by rw [List.length_singleton, sizeLine_eq]; decide)
  have st3 := st2.at (q := s.heap.objs.size) (h' := Heap.update _ s.heap.objs.size (Obj.mapSeq (·.push Value.none))) (nt ⟨k, e3⟩) hqc fun b o hb e => (Heap.get?_update_other _ _ (Ne.symm hb)).trans e
  obtain ⟨z4, its4, k4, r4, hl4, e4⟩ := I3.lstM upd_same
  obtain ⟨u4, rfl, ru4⟩ := r4.one
  refine wpAny_updateSeq e4 rfl ?_ (by show 1 ≤ sizeLine; rw [sizeLine_eq]; decide) (by show 0 ≤ sizeLine + 1; exact Nat.zero_le _)
  have I4 := I3.lset (f := (·.pop)) (its := [u4]) (its' := []) (ys := []) (t' := s.toks) upd_same e4 (by rfl) .nil (Nat.zero_le _)
  have st4 := st3.at (q := s.heap.objs.size) (h' := Heap.update _ s.heap.objs.size (Obj.mapSeq (·.pop))) (fun o e => by
    have e' := e4.symm.trans e
    cases e'; exact fun z => absurd (Value.type.inj z) (by decide)) hqc fun b o hb e => (Heap.get?_update_other _ _ (Ne.symm hb)).trans e
  rw [upd_upd, upd_upd] at I4
  refine wpAny_pure ⟨plainId_quiet PySem.F.plain_extend_loop _, ?_⟩
  refine zl_loop (A1 := X.A.in1) (Rs := wants (fun r s₂ => r = .none ∧ EP X pins σ Q (.ref s.heap.objs.size) s₂) X.xe) D g1 g2 hh fr s1 r1 s2 r2 (fun H s' accV I' ex hq' rp => ?_) _ 0 [] _ _ rfl (Nat.zero_le _) I4 (Ex.new fr) upd_same .nil st4 fun c hcm => FpOk.upd (fp c hcm) (fun e => hqc (e ▸ hcm))
  exact ⟨rfl, .ref s.heap.objs.size, H, I', rfl, q _ H accV fr ex hq' rp⟩
end
def mZip (f : LF) : MF := fun ρ S => (f ρ S).bind fun ws S1 => match ws with
  | [.d x, .d y] => match kindB x with
    | some (_, l) => match kindB y with
      | some (_, m) => .ok (zipD l m) S1
      | none => .bad
    | none => .bad
  | _ => .bad
theorem dm_listzip {X : Cx} {Wx : WX} {e e2 : Expr} {l : LF} {p pos p2 pos2 : Pos} (hc : X.calm = true) (hgl : Gl X "list") (hml : X.mg "list" = none) (hg : Gl X "zip") (hm : X.mg "zip" = none) (ha : DA X Wx [e, e2] l) (hs : starEach [e, e2] X.env = (false, eval e X.env) :: starEach [e2] X.env := by rfl) (hpl : (backTo pos (starEach [e2] X.env)).any (·.1) = false := by rfl)
    (he : starEach [.Call (.Name "zip" p) [e, e2] [] pos] X.env = (false, eval (.Call (.Name "zip" p) [e, e2] [] pos) X.env) :: starEach [] X.env := by rfl) :
    DM X Wx (.Call (.Name "list" p2) [.Call (.Name "zip" p) [e, e2] [] pos] [] pos2) (mZip l) := by
  refine ⟨fun pins s σ H Q I ⟨ad, ρ, S, sg, rs, q⟩ => ?_⟩
  refine wpAny_Call_Name_kw (ld_blt I hgl hml PyProof.Rows.boot_list ?_)
  refine PyProof.Rows.callWith_type1 ?_ he rfl
  rw [he]
  show wpAny _ _ (spliced ((false, eval (.Call (.Name "zip" p) [e, e2] [] pos) X.env) :: backTo pos2 (starEach [] X.env))) _ _ s
  refine Calls.spliced_cons ?_
  refine Call_ (ld_blt I hg hm PyProof.Rows.boot_zip (PyProof.Rows.callWith_type1 (thn (ha.run pos pins s σ H (fun vs H1 => ∃ x y dx dy b1 b2 l1 l2, vs = [x, y] ∧ Rep X.K H1 x dx ∧ Rep X.K H1 y dy ∧ kindB dx = some (b1, l1) ∧ kindB dy = some (b2, l2) ∧
    ∀ p H' accV, H1 p = none → Ex H1 H' → H' p = some (.lst accV) → Reps X.K H' accV (zipD l1 l2) → Q (.ref p) H') I ⟨ad, ρ, S, sg, rs, ?_⟩) fun us s1 ⟨vs, H1, I1, r1, q1⟩ => ?_) hs hpl))
  · revert q
    unfold mZip
    cases l ρ S with
    | bad => exact fun z => z
    | exc x S' => exact fun z => z
    | ok ws S1 =>
      intro q vs H1 ad1 fr1 r1 rs1
      simp only [Rs.bind] at q
      split at q
      · rename_i x y
        cases hx : kindB x with
        | none => rw [hx] at q; exact q.elim
        | some bl =>
          rw [hx] at q
          dsimp only at q
          cases hy : kindB y with
          | none => rw [hy] at q; exact q.elim
          | some bm =>
            rw [hy] at q
            cases r1 with
            | cons ra rr =>
              cases rr with
              | cons rb rr =>
                cases rr
                refine ⟨_, _, x, y, bl.1, bm.1, bl.2, bm.2, rfl, ra, rb, hx, hy, fun p H' accV hp ex hq rp => ?_⟩
                obtain ⟨h0, hn⟩ := fr1.back rs1 hp
                exact q _ H' ad1 (fr1.trans ex.fr) ⟨p, accV, rfl, h0, hn, hq, rp⟩ (rs1.ex ex)
      · exact q.elim
  · obtain ⟨x, y, dx, dy, b1, b2, l1, l2, rfl, rx, ry, kx, ky, q⟩ := q1
    obtain ⟨a1, xs, rfl, sx, rpx⟩ := kind_rep rx kx
    obtain ⟨a2, ys, rfl, sy, rpy⟩ := kind_rep ry ky
    cases r1 with
    | cons r rr =>
      cases rr with
      | cons r' rr =>
        cases rr
        cases r
        cases r'
        obtain ⟨its, rv, p1, z1, g1⟩ := seqB I1 sx
        obtain ⟨its2, rv2, p2, z2, g2⟩ := seqB I1 sy
        refine zip_begins2 (beB b1 a1 its.toArray) (beB b2 a2 its2.toArray) p1 p2 fun h' hz hTI hTO h1 h2 hsz hk => ?_
        have I2 : Inv X pins σ H1 { s1 with heap := h' } := I1.kept (t' := s1.toks) hk
        refine Calls.spliced_nil ?_
        refine zl_call (ap_new s1.heap.objs.size) g1 g2 (show _ = none from I.ok.hd hc) I2 sx rpx sy rpy ⟨.inl hz, hTI, ⟨_, _, hTO⟩, itB_new h1, itB_new h2⟩ (fun c hcm => ?_) q
        have hle := (ap_new s1.heap.objs.size).ge c hcm
        exact I1.fpOk hle (I1.hok.fresh hle)
end DL

set_option Elab.async false
set_option linter.all false
set_option maxRecDepth 100000
set_option maxHeartbeats 4000000
/-! D10: slices, isinstance, op=, stores into lists, append, extend, list(x), n * list, the empty dict. -/
namespace DL
open PySem PySem.Spec PyProof.Rows L2

/-! ### slices -/
def cutD (l : List PyData) (lo hi : Option Int) : List PyData := (l.drop (HT.sIx l.length 0 lo)).take (HT.sIx l.length l.length hi - HT.sIx l.length 0 lo)
def slD : PyData → Option Int → Option Int → Option PyData
  | .list l, lo, hi => some (.list (cutD l lo hi))
  | .tuple l, lo, hi => some (.tuple (cutD l lo hi))
  | .str z, lo, hi => some (.str (cutS z lo hi))
  | _, _, _ => none
theorem SlR.freeze {X : Cx} {r : V → Option Int → Option Int → Hp → VK → Prop} (h : SlR X r) : SlR X (fun x lo hi H Q => r x lo hi H fun v H' => ∃ a vs, v = .ref a ∧ H' a = some (.lst vs) ∧ ∀ o, Q v (upd H' a (.frz o (.lst vs)))) :=
  fun pins s σ H x v vl vu lo hi sl Q I rx hs pl pu q => by
    obtain ⟨T, id, h1, h2, h3⟩ := h pins s σ H x v vl vu lo hi sl _ I rx hs pl pu q
    exact ⟨T, id, h1, h2, thn h3 fun _ _ z => EP.freeze z⟩
def rSlD (K : PySem.W.Frag) : V → Option Int → Option Int → Hp → VK → Prop := fun x lo hi H Q => ∃ dx d, RepV K H x dx ∧ slD dx lo hi = some d ∧ ∀ v H', Ex H H' → Rep K H' v d → Q v H'
theorem cut_rep {K : PySem.W.Frag} {H : Hp} {vs : List V} {ds : List PyData} {lo hi : Option Int} (r : Reps K H vs ds) : Reps K H (cutV vs lo hi) (cutD ds lo hi) := by
  unfold cutV cutD
  rw [r.length]
  exact Reps.take _ (Reps.drop _ r)
theorem strOk_of {z : Str} {l : List Nat} (h : PyData.strOk z = true) (m : ∀ c ∈ l, c ∈ z.cps.toList) : PyData.strOk ⟨l.toArray⟩ = true := by
  unfold PyData.strOk at *
  rw [← Array.all_toList, List.all_eq_true] at *
  exact fun c hc => h c (m c (by simpa using hc))
theorem cutS_G {z : Str} {lo hi : Option Int} (h : strG z = true) : strG (cutS z lo hi) = true :=
  strG_mk (Nat.le_trans (cutS_length z lo hi) (strG_len h)) (strOk_of (strG_ok h) fun c hc => List.mem_of_mem_drop (List.mem_of_mem_take hc))
theorem sl_D {X : Cx} : SlR X (rSlD X.K) := by
  intro pins s σ H x v vl vu lo hi sl Q I rx hs pl pu ⟨dx, d, h, e, q⟩
  unfold slD at e
  split at e
  · cases e
    obtain ⟨a, vs, rfl, t, r⟩ := h.lst
    refine SlR.freeze sl_list pins s σ H _ v vl vu lo hi sl Q I rx hs pl pu ⟨a, vs, rfl, t, fun p hp => ⟨p, _, rfl, upd_same, fun o => ?_⟩⟩
    have ex : Ex H (upd (upd H p (.lst (cutV vs lo hi))) p (.frz o (.lst (cutV vs lo hi)))) := (Ex.new hp).upd2 hp
    exact q _ _ ex (.lst (.inl ⟨o, upd_same⟩) (Reps.stb ex.stb _ (cut_rep r)))
  · cases e
    obtain ⟨a, vs, rfl, t, r⟩ := h.tup
    refine sl_tupA pins s σ H _ v vl vu lo hi sl Q I rx hs pl pu ⟨a, vs, rfl, t, fun hw => ?_, fun _ p hp => ?_⟩
    · refine q _ H (Ex.refl H) (.tup t ?_)
      have := cut_rep (lo := lo) (hi := hi) r
      have e2 : cutV vs lo hi = vs := by
        unfold cutV
        rw [hw.1, hw.2]
        simp
      rw [e2] at this
      exact this
    · have ex : Ex H (upd H p (.tup (cutV vs lo hi))) := Ex.new hp
      exact q _ _ ex (.tup (SqT.of upd_same) (Reps.stb ex.stb _ (cut_rep r)))
  · cases e
    obtain ⟨rfl, z⟩ := h.str
    exact sl_str pins s σ H _ v vl vu lo hi sl Q I rx hs pl pu ⟨_, rfl, strG_len z, q _ H (Ex.refl H) (.str _ (cutS_G z))⟩
  · cases e
abbrev OF := Rho → Sto → Rs (Option Int)
def tDO (K : PySem.W.Frag) (mg : Str → Option Value) (Wx : WX) (f : OF) : TO := fun σ H Q => ∃ ad ρ S, Sig K ad H σ ρ ∧ RS K ad H S ∧ post K mg Wx σ ad H (fun _ _ v b => v = b) (f ρ S) Q
abbrev DO (X : Cx) (Wx : WX) (e : Option Expr) (f : OF) : Prop := PO X e (tDO X.K X.mg Wx f)
theorem PO.conv {X : Cx} {e : Option Expr} {t t' : TO} (h : PO X e t) (c : ∀ σ H Q, t' σ H Q → t σ H Q) : PO X e t' := ⟨fun pins s σ H Q I q => h.run pins s σ H Q I (c _ _ _ q)⟩
def oNon : OF := fun _ S => .ok none S
def oSom (f : EF) : OF := fun ρ S => (f ρ S).bind fun w S1 => match w with
  | .d (.int i) => .ok (some i) S1
  | _ => .bad
def eSl (f : EF) (lo hi : OF) : EF := fun ρ S => (f ρ S).bind fun w S1 => (lo ρ S1).bind fun l S2 => (hi ρ S2).bind fun h S3 => match view S3 w with
  | some d => match slD d l h with
    | some r => .ok (.d r) S3
    | none => .bad
  | none => .bad
section
variable {X : Cx} {Wx : WX} {a b c e : Expr} {f g h : EF} {pos p2 : Pos}
theorem do_non : DO X Wx none oNon := PO.conv po_none fun σ H Q ⟨ad, ρ, S, sg, rs, q⟩ => q _ H ad (Fr.refl _ _) rfl rs
theorem do_som (ha : DE X Wx a f) : DO X Wx (some a) (oSom f) := PO.conv (po_some ha) fun σ H Q ⟨ad, ρ, S, sg, rs, q⟩ => by
  refine ⟨ad, ρ, S, sg, rs, post_mono (post_bind q) ?_⟩
  rintro x H1 ⟨ad1, w, S1, fr1, r1, rs1, q1⟩
  split at q1
  · cases r1
    exact ⟨_, rfl, q1 _ H1 ad1 (Fr.refl _ _) rfl rs1⟩
  · exact q1.elim
theorem de_sl {lo hi : Option Expr} {fl fh : OF} (ha : DE X Wx a f) (hl : DO X Wx lo fl) (hh : DO X Wx hi fh) : DE X Wx (.Subscript a (.Slice lo hi none p2) pos) (eSl f fl fh) := PE.conv (pe_slice sl_D ha hl hh) fun σ H Q ⟨ad, ρ, S, sg, rs, q⟩ => by
  refine ⟨ad, ρ, S, sg, rs, post_mono (post_bind q) ?_⟩
  rintro x H1 ⟨ad1, w, S1, fr1, r1, rs1, q1⟩
  refine ⟨ad1, ρ, S1, sg.fr fr1, rs1, post_mono (post_bind (Rel1 := fun _ _ v b => v = b) q1) ?_⟩
  rintro l H2 ⟨ad2, l2, S2, fr2, e2, rs2, q2⟩
  subst e2
  refine ⟨ad2, ρ, S2, (sg.fr fr1).fr fr2, rs2, post_mono (post_bind (Rel1 := fun _ _ v b => v = b) q2) ?_⟩
  rintro u H3 ⟨ad3, u2, S3, fr3, e3, rs3, q3⟩
  subst e3
  cases e1 : view S3 w with
  | none => rw [e1] at q3; exact q3.elim
  | some d =>
    rw [e1] at q3
    dsimp only at q3
    cases e4 : slD d l u with
    | none => rw [e4] at q3; exact q3.elim
    | some r =>
      rw [e4] at q3
      exact ⟨d, r, view_rep ((r1.fr fr2).fr fr3) rs3 e1, e4, fun v H' ex rv => q3 v H' ad3 ex.fr rv (rs3.ex ex)⟩

/-! ### isinstance -/
def tyD : PyData → String
  | .none => "NoneType"
  | .bool _ => "bool"
  | .int _ => "int"
  | .str _ => "str"
  | .list _ => "list"
  | .tuple _ => "tuple"
  | .dict _ => "dict"
def subT (t c : String) : Bool := t == c || (t == "bool" && c == "int")
def isTys : List String := ["bool", "int", "str", "list", "tuple", "dict"]
theorem kit_pure (K : PySem.W.Frag) (t c : String) : PySem.W.kitOne K (.type t) (.type c) = (if (Value.type t == Value.type c) = true then some true else if PySem.W.kitMeta c = true then (fastBuiltinMro t).map (·.contains (.type c)) else none) := rfl
theorem kit_ty (K : PySem.W.Frag) (d : PyData) {c : String} (hc : c ∈ isTys) : PySem.W.kitOne K (.type (tyD d)) (.type c) = some (subT (tyD d) c) := by
  have : ∀ t ∈ ["NoneType", "bool", "int", "str", "list", "tuple", "dict"], ∀ c ∈ isTys, PySem.W.kitOne K (.type t) (.type c) = some (subT t c) := by
    intro t ht c hc
    simp only [isTys, List.mem_cons, List.not_mem_nil, or_false] at ht hc
    rcases ht with rfl | rfl | rfl | rfl | rfl | rfl | rfl <;> rcases hc with rfl | rfl | rfl | rfl | rfl | rfl <;> (rw [kit_pure]; decide +kernel)
  exact this _ (by cases d <;> simp [tyD]) _ hc
theorem RepV.tyX {K : PySem.W.Frag} {H : Hp} {v : V} {d : PyData} (h : RepV K H v d) : TyX K H v (.type (tyD d)) := by
  rcases h with h | ⟨a, vs, l, e1, e2, e3, e4⟩
  · cases h with
    | non => exact .base .non
    | bl b => exact .base (.bl b)
    | int b => exact .base (.int b)
    | str b => exact .base (.str b)
    | lst t r =>
      rcases t with ⟨o, t⟩ | ⟨o, its, n, t1, t2, _⟩
      · exact .base (.frz t)
      · exact .kList t1 t2
    | tup t r =>
      rcases t with (t | ⟨o, t⟩) | ⟨o, its, n, t1, t2, _⟩
      · exact .base (.tup t)
      · exact .fTuple t
      · exact .kTuple t1 t2
    | dic t r => exact .fDict t
  · subst e1 e2
    exact .base (.lst e3)
def isiW (cs : List String) (w : Wv) (S : Sto) : Rs Wv := match view S w with
  | some d => .ok (.d (.bool (cs.any fun c => subT (tyD d) c))) S
  | none => .bad
def eIsi (cs : List String) (f : EF) : EF := fun ρ S => (f ρ S).bind (isiW cs)
theorem pe_ty {T : String} {x : Str} {p : Pos} (hg : Gl X x) (hm : X.mg x = none) (hv : bootBuiltins x = some (.type T)) (hn : x ≠ "__name__" := by decide) (hd : (x == ("__debug__" : Str)) = false := by decide) : PE X (.Name x p) (tC (.ty T)) := pe_bltn hg hm hv rfl hn hd
theorem boot_isi : bootBuiltins "isinstance" = some (.builtin "isinstance") := by decide +kernel
theorem de_isi {T : String} {x : Str} {p p1 : Pos} (hgi : Gl X "isinstance") (hmi : X.mg "isinstance" = none) (ha : DE X Wx a f) (hT : T ∈ isTys) (ht : PE X (.Name x p1) (tC (.ty T)))
    (h0 : starEach [a, .Name x p1] X.env = (false, eval a X.env) :: starEach [.Name x p1] X.env := by rfl) (h1 : starEach [.Name x p1] X.env = (false, eval (.Name x p1) X.env) :: starEach [] X.env := by rfl)
    (hpl : (backTo pos (starEach [.Name x p1] X.env)).any (·.1) = false := by rfl) : DE X Wx (.Call (.Name "isinstance" p) [a, .Name x p1] [] pos) (eIsi [T] f) :=
  PE.conv (pe_callB call_isi hgi hmi boot_isi (pa_cons ha (pa_cons ht pa_nil h1) h0) (by decide) (by decide) h0 hpl) fun σ H Q ⟨ad, ρ, S, sg, rs, q⟩ => by
    refine ⟨ad, ρ, S, sg, rs, post_mono (post_bind q) ?_⟩
    rintro v H1 ⟨ad1, w, S1, fr1, r1, rs1, q1⟩
    unfold isiW at q1
    cases e : view S1 w with
    | none => rw [e] at q1; exact q1.elim
    | some d =>
      rw [e] at q1
      refine ⟨v, .ty T, _, _, _, rfl, .ty T, (view_rep r1 rs1 e).tyX, kit_ty X.K d hT, ?_⟩
      have q1 := q1 (.bl _) H1 ad1 (Fr.refl _ _) (.bl _) rs1
      rw [List.any_cons, List.any_nil, Bool.or_false] at q1
      exact q1
theorem de_isi2 {T T' : String} {x x' : Str} {p p1 p2 tp : Pos} {kt : Nat} (hgi : Gl X "isinstance") (hmi : X.mg "isinstance" = none) (ha : DE X Wx a f) (hT : T ∈ isTys) (hT' : T' ∈ isTys) (ht : PE X (.Name x p1) (tC (.ty T))) (ht' : PE X (.Name x' p2) (tC (.ty T')))
    (h0 : starEach [a, .Tuple [.Name x p1, .Name x' p2] kt tp] X.env = (false, eval a X.env) :: starEach [.Tuple [.Name x p1, .Name x' p2] kt tp] X.env := by rfl)
    (h1 : starEach [.Tuple [.Name x p1, .Name x' p2] kt tp] X.env = (false, eval (.Tuple [.Name x p1, .Name x' p2] kt tp) X.env) :: starEach [] X.env := by rfl)
    (h2 : starEach [.Name x p1, .Name x' p2] X.env = (false, eval (.Name x p1) X.env) :: starEach [.Name x' p2] X.env := by rfl) (h3 : starEach [.Name x' p2] X.env = (false, eval (.Name x' p2) X.env) :: starEach [] X.env := by rfl)
    (hpl : (backTo pos (starEach [.Tuple [.Name x p1, .Name x' p2] kt tp] X.env)).any (·.1) = false := by rfl) : DE X Wx (.Call (.Name "isinstance" p) [a, .Tuple [.Name x p1, .Name x' p2] kt tp] [] pos) (eIsi [T, T'] f) :=
  PE.conv (pe_callB call_isiT hgi hmi boot_isi (pa_cons ha (pa_cons (pe_tup (pa_cons ht (pa_cons ht' pa_nil h3) h2)) pa_nil h1) h0) (by decide) (by decide) h0 hpl) fun σ H Q ⟨ad, ρ, S, sg, rs, q⟩ => by
    refine ⟨ad, ρ, S, sg, rs, post_mono (post_bind q) ?_⟩
    rintro v H1 ⟨ad1, w, S1, fr1, r1, rs1, q1⟩
    unfold isiW at q1
    cases e : view S1 w with
    | none => rw [e] at q1; exact q1.elim
    | some d =>
      rw [e] at q1
      refine ⟨by show 2 ≤ sizeLine; decide, fun tp htp => ?_⟩
      have ex : Ex H1 (upd H1 tp (.tup [.ty T, .ty T'])) := Ex.new htp
      refine ⟨v, tp, [.ty T, .ty T'], _, [.type T, .type T'], ([T, T'].any fun c => subT (tyD d) c), rfl, upd_same, .cons (.ty T) (.cons (.ty T') .nil), ((view_rep r1 rs1 e).ex ex).tyX, ?_, q1 _ _ ad1 ex.fr (.bl _) (rs1.ex ex)⟩
      unfold PySem.W.kitAny
      rw [kit_ty X.K d hT]
      cases h5 : subT (tyD d) T with
      | true => simp [h5]
      | false =>
        unfold PySem.W.kitAny
        dsimp only
        rw [kit_ty X.K d hT']
        cases h6 : subT (tyD d) T' <;> simp [PySem.W.kitAny, h5, h6]

/-! ### name op= e -/
def OpI (X : Cx) (op : Operator) (g : PyData → PyData → Option PyData) : Prop := PIp X op (rP2 X.K g)
def iaddD : PyData → PyData → Option PyData
  | .int i, .int j => some (.int (i + j))
  | _, _ => none
theorem ipd_iadd : OpI X .Add iaddD := by
  intro pins s σ H x y v u Q I rx ry ⟨dx, dy, d, h1, h2, e, q⟩
  unfold iaddD at e
  split at e
  · cases e
    cases h1.int; cases h2.int
    exact ip_add pins s σ H _ _ v u Q I rx ry ⟨_, _, rfl, rfl, q _ H (Ex.refl H) (.int _)⟩
  · cases e
theorem ipd_sub : OpI X .Sub subD := by
  intro pins s σ H x y v u Q I rx ry ⟨dx, dy, d, h1, h2, e, q⟩
  unfold subD at e
  split at e
  · cases e
    cases h1.int; cases h2.int
    exact ip_sub pins s σ H _ _ v u Q I rx ry ⟨_, _, rfl, rfl, q _ H (Ex.refl H) (.int _)⟩
  · cases e
def sAug (i : Nat) (g : PyData → PyData → Option PyData) (f : EF) : SF := fun ρ S => match ρ[i]? with
  | some (some w) => bindS ((f ρ S).bind fun y S1 => op2 g w y S1) ρ fun z S2 => .fl (.nx (ρ.set i (some z))) S2
  | _ => .bad
theorem ds_aug {op : Operator} {g0 : PyData → PyData → Option PyData} {i : Nat} {x : Str} {pos' : Pos} (hN : X.N.Nodup) (hi : X.N[i]? = some x) (hx : Loc X.env.scope x) (he : DE X Wx e f) (ho : OpI X op g0) (hf : X.fn x = true ∨ X.env.scope.names.lookup x = some .local := by first | exact .inl rfl | exact .inr rfl | assumption) :
    DS X Wx (.AugAssign (.Name x pos') op e pos) (sAug i g0 f) := PS.conv (ps_aug hN hi hx he ho hf) fun D σ H ⟨ad, ρ, S, sg, rs, q⟩ => by
  unfold sAug at q
  cases e0 : ρ[i]? with
  | none => rw [e0] at q; exact q.elim
  | some o =>
    rw [e0] at q
    cases o with
    | none => exact q.elim
    | some w =>
      obtain ⟨v, e1, r⟩ := sg.sl i w e0
      refine ⟨v, e1, ad, ρ, S, sg, rs, ?_⟩
      dsimp only at q
      refine post_mono (post_bind (Rel2 := RepW X.K) (k := fun y S1 => op2 g0 w y S1) (Q := fun z H2 => D.nx (σ.set i (some z)) H2) ?_) ?_
      · refine post_mono (bindS_post (Rel := RepW X.K) sg q) ?_
        rintro z H2 ⟨ad2, w2, S2, fr2, r2, rs2, q2⟩
        exact q2 _ H2 ad2 (Fr.refl _ _) ((sg.fr fr2).set i r2) rs2
      · rintro y H1 ⟨ad1, w1, S1, fr1, r1, rs1, q1⟩
        exact op2_post q1 (r.fr fr1) r1 rs1

/-! ### a changing list is changed -/
def ownL (S : Sto) (w : Wv) : Option (Nat × List PyData) := match w with
  | .own k => match S[k]? with
    | some (.lst l) => some (k, l)
    | _ => none
  | .d _ => none
theorem ownL_rep {K : PySem.W.Frag} {ad : List Addr} {H : Hp} {S : Sto} {v : V} {w : Wv} {k : Nat} {l : List PyData} (r : RepW K ad H v w) (rs : RS K ad H S) (e : ownL S w = some (k, l)) :
    ∃ a vs, v = .ref a ∧ ad[k]? = some a ∧ H a = some (.lst vs) ∧ Reps K H vs l := by
  unfold ownL at e
  split at e
  · rename_i j
    split at e
    · rename_i l' hk
      cases e
      obtain ⟨a, ha, rfl⟩ := r
      obtain ⟨a', ha', vs, h1, h2⟩ := rs.ob _ _ hk
      rw [ha] at ha'; cases ha'
      exact ⟨a, vs, rfl, ha, h1, h2⟩
    · cases e
  · cases e
/-- the list at k is written anew -/
theorem put_own {K : PySem.W.Frag} {ad : List Addr} {H : Hp} {S : Sto} {a : Addr} {vs us : List V} {k : Nat} {m : List PyData} (rs : RS K ad H S) (ha : ad[k]? = some a) (e : H a = some (.lst vs)) (r : Reps K H us m) :
    Fr ad H ad (upd H a (.lst us)) ∧ RS K ad (upd H a (.lst us)) (S.set k (.lst m)) := by
  refine ⟨⟨⟨[], by simp⟩, fun b u q hb => ?_, fun _ h h' => absurd h h', stb_upd e⟩, rs_set rs ha e ⟨us, upd_same, Reps.stb (stb_upd e) _ r⟩⟩
  have : b ≠ a := fun z => hb (z ▸ List.mem_of_getElem? ha)
  rw [upd_ne this]; exact q
def ixSet (l : List PyData) (i : Int) (x : PyData) : Option (List PyData) := (ixN l.length i).map fun j => l.set j x
/-- o[i] = e, o a changing list -/
def sPut (fo fi fe : EF) : SF := fun ρ S => bindS ((fe ρ S).bind frzW) ρ fun x S1 => bindS (fo ρ S1) ρ fun o S2 => bindS (fi ρ S2) ρ fun i S3 => match ownL S3 o with
  | some (k, l) => match i with
    | .d (.int j) => match x with
      | .d d => match ixSet l j d with
        | some l' => .fl (.nx ρ) (S3.set k (.lst l'))
        | none => .bad
      | .own _ => .bad
    | _ => .bad
  | none => .bad
theorem ds_put (ho : DE X Wx a f) (hi : DE X Wx b g) (he : DE X Wx e h) (hs : swapsWithSole [.Subscript a b p2] e pos.line X.env = pure false := by rfl) (hw : swappedStores [.Subscript a b p2] e X.env = pure none := by rfl)
    (h1 : (assignEach [.Subscript a b p2] X.env).map (·.2) = [assign (.Subscript a b p2) X.env] := by rfl)
    (hh : ∀ v, assign (.Subscript a b p2) X.env v = (do
      let ov ← holding [v] (eval a X.env)
      let iv ← holding [v, ov] (eval b X.env)
      standAt p2
      holding [v, ov, iv] (setItem ov iv v)
      release [v, ov, iv] []) := by intro _; rfl) : DS X Wx (.Assign [.Subscript a b p2] e pos) (sPut f g h) := PS.conv (ps_asg (de_frz he) (pg_sub ho hi set_list hh) hs hw h1) fun D σ H ⟨ad, ρ, S, sg, rs, q⟩ => by
  refine ⟨ad, ρ, S, sg, rs, post_mono (bindS_post (Rel := RepW X.K) sg q) ?_⟩
  rintro x H1 ⟨ad1, wx, S1, fr1, r1, rs1, q1⟩
  refine ⟨ad1, ρ, S1, sg.fr fr1, rs1, post_mono (bindS_post (Rel := RepW X.K) (sg.fr fr1) q1) ?_⟩
  rintro o H2 ⟨ad2, wo, S2, fr2, r2, rs2, q2⟩
  refine ⟨ad2, ρ, S2, (sg.fr fr1).fr fr2, rs2, post_mono (bindS_post (Rel := RepW X.K) ((sg.fr fr1).fr fr2) q2) ?_⟩
  rintro i H3 ⟨ad3, wi, S3, fr3, r3, rs3, q3⟩
  cases e1 : ownL S3 wo with
  | none => rw [e1] at q3; exact q3.elim
  | some kl =>
    obtain ⟨k, l⟩ := kl
    rw [e1] at q3
    dsimp only at q3
    split at q3
    · split at q3
      · rename_i j _ d
        cases e2 : ixSet l j d with
        | none => rw [e2] at q3; exact q3.elim
        | some l' =>
          rw [e2] at q3
          unfold ixSet at e2
          cases e3 : ixN l.length j with
          | none => rw [e3] at e2; cases e2
          | some n =>
            rw [e3] at e2
            cases e2
            obtain ⟨p, vs, rfl, ha, hl, rp⟩ := ownL_rep (r2.fr fr3) rs3 e1
            cases r3
            have rx : RepW X.K ad3 H3 x (.d d) := (r1.fr fr2).fr fr3
            obtain ⟨f1, f2⟩ := put_own (m := l.set n d) rs3 ha hl (Reps.set n rp rx)
            exact ⟨p, vs, j, n, rfl, rfl, hl, by rw [rp.length]; exact e3, q3 σ _ ad3 f1 ((((sg.fr fr1).fr fr2).fr fr3).fr f1) f2⟩
      · exact q3.elim
    · exact q3.elim
theorem get_list : PGet X (fun o i H Q => ∃ p xs k x, o = .ref p ∧ i = .int k ∧ SqL X.K H p xs ∧ atI xs k = some x ∧ Q x H) := by
  intro pins s σ H o i ov iv Q I ro ri ⟨p, xs, k, z, h1, h2, hq, he, q⟩
  subst h1 h2
  cases ro
  obtain ⟨t, rfl⟩ := ri
  obtain ⟨its, r, pl, hz⟩ := I.list hq
  obtain ⟨j, h1, h2, h3, h4, h5⟩ := atI_get he
  obtain ⟨w, ew, rw'⟩ := r.get h2
  have hl := r.length
  have hn := line63
  have fin : EP X pins σ Q w s := ⟨z, H, I, rw', q⟩
  by_cases h0 : 0 ≤ k
  · have hj : k.toNat = j := by
      rw [seqIndex_of h0 h5] at h1
      exact Option.some.inj h1
    exact wpAny_getItem_list pl.isList h0 (by omega) (by rw [hj]; simpa using ew) fin
  · have hj : (k + (its.toArray.size : Int)).toNat = j := by
      rw [seqIndex_neg (by omega) h4] at h1
      rw [List.size_toArray, ← hl]
      exact Option.some.inj h1
    exact wpAny_getItem_list_neg pl.isList (by omega) (by rw [List.size_toArray] <;> omega) (by omega) (by rw [hj]; simpa using ew) fin
/-- o[i] op= e, o a changing list -/
def sAugI (g0 : PyData → PyData → Option PyData) (fo fi fe : EF) : SF := fun ρ S => bindS (fo ρ S) ρ fun o S1 => bindS (fi ρ S1) ρ fun i S2 => match i with
  | .d (.int j) => match ownL S2 o with
    | some (_, l) => match atI l j with
      | some x => bindS (fe ρ S2) ρ fun y S3 => match view S3 y with
        | some dy => match g0 x dy with
          | some z => match ownL S3 o with
            | some (k, l') => match ixSet l' j z with
              | some l2 => .fl (.nx ρ) (S3.set k (.lst l2))
              | none => .bad
            | none => .bad
          | none => .bad
        | none => .bad
      | none => .bad
    | none => .bad
  | _ => .bad
theorem ds_augI {op : Operator} {g0 : PyData → PyData → Option PyData} (ho : DE X Wx a f) (hi : DE X Wx b g) (he : DE X Wx e h) (hop : OpI X op g0)
    (ha : ∀ ov iv new, augStore b ov iv new = (do holding [new, ov, iv] (setItem ov iv new); release [new, ov, iv] []; pure .next) := by intros; rfl) : DS X Wx (.AugAssign (.Subscript a b p2) op e pos) (sAugI g0 f g h) := PS.conv (ps_augS ho hi get_list he hop set_list ha) fun D σ H ⟨ad, ρ, S, sg, rs, q⟩ => by
  refine ⟨ad, ρ, S, sg, rs, post_mono (bindS_post (Rel := RepW X.K) sg q) ?_⟩
  rintro o H1 ⟨ad1, wo, S1, fr1, r1, rs1, q1⟩
  refine ⟨ad1, ρ, S1, sg.fr fr1, rs1, post_mono (bindS_post (Rel := RepW X.K) (sg.fr fr1) q1) ?_⟩
  rintro i H2 ⟨ad2, wi, S2, fr2, r2, rs2, q2⟩
  have sg2 := (sg.fr fr1).fr fr2
  split at q2
  · rename_i j
    cases e1 : ownL S2 wo with
    | none => rw [e1] at q2; exact q2.elim
    | some kl =>
      obtain ⟨k, l⟩ := kl
      rw [e1] at q2
      dsimp only at q2
      cases e2 : atI l j with
      | none => rw [e2] at q2; exact q2.elim
      | some x =>
        rw [e2] at q2
        dsimp only at q2
        obtain ⟨p, vs, rfl, ha, hl, rp⟩ := ownL_rep (r1.fr fr2) rs2 e1
        cases r2
        obtain ⟨xv, ex1, ex2⟩ := atI_rep rp e2
        refine ⟨p, vs, j, xv, rfl, rfl, SqL.of hl, ex1, ad2, ρ, S2, sg2, rs2, post_mono (bindS_post (Rel := RepW X.K) sg2 q2) ?_⟩
        rintro y H3 ⟨ad3, wy, S3, fr3, r3, rs3, q3⟩
        cases e3 : view S3 wy with
        | none => rw [e3] at q3; exact q3.elim
        | some dy =>
          rw [e3] at q3
          dsimp only at q3
          cases e4 : g0 x dy with
          | none => rw [e4] at q3; exact q3.elim
          | some z =>
            rw [e4] at q3
            dsimp only at q3
            cases e5 : ownL S3 wo with
            | none => rw [e5] at q3; exact q3.elim
            | some kl2 =>
              obtain ⟨k2, l2⟩ := kl2
              rw [e5] at q3
              dsimp only at q3
              cases e6 : ixSet l2 j z with
              | none => rw [e6] at q3; exact q3.elim
              | some l3 =>
                rw [e6] at q3
                refine ⟨x, dy, z, .inl (Rep.stb fr3.stb _ ex2), view_rep r3 rs3 e3, e4, fun zv H4 ex rz => ?_⟩
                have fr4 : Fr ad3 H3 ad3 H4 := ex.fr
                have rs4 := rs3.ex ex
                obtain ⟨p2, vs2, ep, ha2, hl2, rp2⟩ := ownL_rep (((r1.fr fr2).fr fr3).fr fr4) rs4 e5
                cases ep
                unfold ixSet at e6
                cases e7 : ixN l2.length j with
                | none => rw [e7] at e6; cases e6
                | some n =>
                  rw [e7] at e6
                  cases e6
                  obtain ⟨f1, f2⟩ := put_own (m := l2.set n z) rs4 ha2 hl2 (Reps.set n rp2 rz)
                  exact ⟨p, vs2, j, n, rfl, rfl, hl2, by rw [rp2.length]; exact e7, q3 σ _ ad3 (fr4.trans f1) (((sg2.fr fr3).fr fr4).fr f1) f2⟩
  · exact q2.elim
end
end DL

set_option Elab.async false
set_option linter.all false
set_option maxRecDepth 100000
set_option maxHeartbeats 4000000
/-! D11: append, extend, pop; new lists; n * list; the empty dict; starred items. -/
namespace DL
open PySem PySem.Spec PyProof.Rows L2
section
variable {X : Cx} {Wx : WX} {o e : Expr} {es : List Expr} {f g : EF} {m : MF} {apos cpos pos p2 : Pos}

def eApp (fo fe : EF) : EF := fun ρ S => (fo ρ S).bind fun w S1 => match w with
  | .own k => (fe ρ S1).bind fun x S2 => match ownL S2 (.own k) with
    | some (k, l) => match x with
      | .d d => if l.length < sizeLine then .ok (.d .none) (S2.set k (.lst (l ++ [d]))) else .bad
      | .own _ => .bad
    | none => .bad
  | .d _ => .bad
theorem ty_own {K : PySem.W.Frag} {H : Hp} {a : Addr} {vs : List V} (h : H a = some (.lst vs)) : tyV K "list" (.ref a) H := .inl ⟨rfl, vs, SqL.of h⟩
/-- what stands in the store is a list, before its arguments come -/
theorem own_ty {K : PySem.W.Frag} {ad : List Addr} {H : Hp} {S : Sto} {v : V} {k : Nat} (r : RepW K ad H v (.own k)) (rs : RS K ad H S) : tyV K "list" v H := by
  obtain ⟨a, ha, rfl⟩ := r
  have hk : k < S.length := by rw [← rs.len]; exact (List.getElem?_eq_some_iff.mp ha).1
  obtain ⟨a', e1, e2⟩ := rs.ob k S[k] (by simp [hk])
  rw [ha] at e1; cases e1
  revert e2
  cases S[k] with
  | lst l => exact fun ⟨vs, h, _⟩ => .inl ⟨rfl, vs, SqL.of h⟩
  | frz l => exact fun ⟨vs, o, h, _⟩ => .inl ⟨rfl, vs, .inl (.inr ⟨o, h⟩)⟩
theorem de_append (ho : DE X Wx o f) (he : DE X Wx e g) (hbase : attributeBase o "append" X.env (eval o X.env) = eval o X.env := by rfl)
    (hfew : ((backTo cpos (starEach [e] X.env)).all (fun x => !x.1) && (backToKw cpos (keywordEach [] X.env)).all (fun x => x.1.isSome)
      && decide ([e].length + ([] : List Keyword).length + (if ([] : List Keyword).isEmpty then 0 else 1) < 30)) = true := by rfl)
    (hline : (apos.endLine == cpos.line) = true := by rfl) (hs : starEach [e] X.env = (false, eval e X.env) :: starEach [] X.env := by rfl) : DE X Wx (.Call (.Attribute o "append" apos) [e] [] cpos) (eApp f (eFrz g)) :=
  PE.conv (pe_bm PySem.F.plainAttrs_list PySem.F.slot_list_append PySem.F.type_list_append mt_append ho (pa_cons (de_frz he) pa_nil hs) hbase hfew hline hs rfl) fun σ H Q ⟨ad, ρ, S, sg, rs, q⟩ => by
    refine ⟨ad, ρ, S, sg, rs, post_mono (post_bind q) ?_⟩
    rintro x H1 ⟨ad1, w, S1, fr1, r1, rs1, q1⟩
    cases w with
    | d _ => exact q1.elim
    | own k0 =>
    refine ⟨own_ty r1 rs1, ad1, ρ, S1, sg.fr fr1, rs1, post_mono (post_bind q1) ?_⟩
    rintro y H2 ⟨ad2, wy, S2, fr2, r2, rs2, q2⟩
    cases e1 : ownL S2 (.own k0) with
    | none => rw [e1] at q2; exact q2.elim
    | some kl =>
      obtain ⟨k, l⟩ := kl
      rw [e1] at q2
      dsimp only at q2
      split at q2
      · split at q2
        · rename_i d hz
          obtain ⟨a, vs, rfl, ha, hl, rp⟩ := ownL_rep (r1.fr fr2) rs2 e1
          obtain ⟨f1, f2⟩ := put_own (m := l ++ [d]) rs2 ha hl (Reps.append rp (.cons r2 .nil))
          exact ⟨a, vs, y, rfl, rfl, hl, by rw [rp.length]; exact hz, q2 _ _ ad2 f1 .non f2⟩
        · exact q2.elim
      · exact q2.elim
def eExt (fo : EF) (m : MF) : EF := fun ρ S => (fo ρ S).bind fun w S1 => match w with
  | .own k => (m ρ S1).bind fun x S2 => match ownL S2 (.own k) with
    | some (k, l) => if l.length + x.length ≤ sizeLine then .ok (.d .none) (S2.set k (.lst (l ++ x))) else .bad
    | none => .bad
  | .d _ => .bad
theorem de_extend (ho : DE X Wx o f) (he : DM X Wx e m) (hbase : attributeBase o "extend" X.env (eval o X.env) = eval o X.env := by rfl)
    (hfew : ((backTo cpos (starEach [e] X.env)).all (fun x => !x.1) && (backToKw cpos (keywordEach [] X.env)).all (fun x => x.1.isSome)
      && decide ([e].length + ([] : List Keyword).length + (if ([] : List Keyword).isEmpty then 0 else 1) < 30)) = true := by rfl)
    (hline : (apos.endLine == cpos.line) = true := by rfl) (hs : starEach [e] X.env = (false, eval e X.env) :: starEach [] X.env := by rfl) : DE X Wx (.Call (.Attribute o "extend" apos) [e] [] cpos) (eExt f m) :=
  PE.conv (pe_bm PySem.F.plainAttrs_list PySem.F.slot_list_extend PySem.F.type_list_extend mt_extend ho (pa_cons he pa_nil hs) hbase hfew hline hs rfl) fun σ H Q ⟨ad, ρ, S, sg, rs, q⟩ => by
    refine ⟨ad, ρ, S, sg, rs, post_mono (post_bind q) ?_⟩
    rintro x H1 ⟨ad1, w, S1, fr1, r1, rs1, q1⟩
    cases w with
    | d _ => exact q1.elim
    | own k0 =>
    refine ⟨own_ty r1 rs1, ad1, ρ, S1, sg.fr fr1, rs1, ?_⟩
    revert q1
    cases m ρ S1 with
    | bad => exact fun z => z
    | exc x S2 => exact fun z => z
    | ok xs S2 =>
      rintro q1 y H2 ad2 fr2 ⟨p, us, rfl, h0, hn, hp, rpx⟩ rs2
      simp only [Rs.bind] at q1
      cases e1 : ownL S2 (.own k0) with
      | none => rw [e1] at q1; exact q1.elim
      | some kl =>
        obtain ⟨k, l⟩ := kl
        rw [e1] at q1
        dsimp only at q1
        split at q1
        · rename_i hz
          obtain ⟨a, vs, rfl, ha, hl, rp⟩ := ownL_rep (r1.fr fr2) rs2 e1
          obtain ⟨f1, f2⟩ := put_own (m := l ++ xs) rs2 ha hl (Reps.append rp rpx)
          exact ⟨a, p, vs, us, rfl, rfl, hl, hp, by rw [rp.length, rpx.length]; exact hz, q1 _ _ ad2 (fr2.trans f1) .non f2⟩
        · exact q1.elim

/-! ### new lists -/
/-- list(x), x a list or a tuple -/
def mLstOf (l : LF) : MF := fun ρ S => (l ρ S).bind fun ws S1 => match ws with
  | [w] => match view S1 w with
    | some (.list l) => .ok l S1
    | some (.tuple l) => .ok l S1
    | _ => .bad
  | _ => .bad
theorem dm_listof {l : LF} {p : Pos} (hg : Gl X "list") (hm : X.mg "list" = none) (ha : DA X Wx (e :: es) l)
    (he : starEach (e :: es) X.env = (false, eval e X.env) :: starEach es X.env := by rfl) (hpl : (backTo pos (starEach es X.env)).any (·.1) = false := by rfl) : DM X Wx (.Call (.Name "list" p) (e :: es) [] pos) (mLstOf l) :=
  PE.conv (pe_callTy call_list_of hg hm PyProof.Rows.boot_list ha (by decide) (by decide) he hpl) fun σ H Q ⟨ad, ρ, S, sg, rs, q⟩ => by
    refine ⟨ad, ρ, S, sg, rs, ?_⟩
    unfold mLstOf at q
    revert q
    cases l ρ S with
    | bad => exact fun z => z
    | exc x S2 => exact fun z => z
    | ok ws S1 =>
      rintro q vs H1 ad1 fr1 r1 rs1
      simp only [Rs.bind] at q
      split at q
      · cases r1 with
        | cons r rr =>
          cases rr
          split at q
          · rename_i l0 e0
            obtain ⟨a, us, rfl, t, rp⟩ := (view_rep r rs1 e0).lst
            refine ⟨a, us, rfl, .inl t, fun p hp => ?_⟩
            obtain ⟨h0, hn⟩ := fr1.back rs1 hp
            have ex : Ex H1 (upd H1 p (.lst us)) := Ex.new hp
            exact q _ _ ad1 (fr1.trans ex.fr) ⟨p, us, rfl, h0, hn, upd_same, Reps.stb ex.stb _ rp⟩ (rs1.ex ex)
          · rename_i l0 e0
            obtain ⟨a, us, rfl, t, rp⟩ := (view_rep r rs1 e0).tup
            refine ⟨a, us, rfl, .inr t, fun p hp => ?_⟩
            obtain ⟨h0, hn⟩ := fr1.back rs1 hp
            have ex : Ex H1 (upd H1 p (.lst us)) := Ex.new hp
            exact q _ _ ad1 (fr1.trans ex.fr) ⟨p, us, rfl, h0, hn, upd_same, Reps.stb ex.stb _ rp⟩ (rs1.ex ex)
          · exact q.elim
      · exact q.elim
/-- a new list times an int -/
def mRep (m : MF) (f : EF) : MF := fun ρ S => (m ρ S).bind fun l S1 => (f ρ S1).bind fun w S2 => match w with
  | .d (.int k) => if k ≤ 1000 ∧ 0 ≤ k ∧ l.length ≤ 1000 then .ok (List.replicate k.toNat l).flatten S2 else .bad
  | _ => .bad
theorem Reps.rep {K : PySem.W.Frag} {H : Hp} {vs : List V} {l : List PyData} (r : Reps K H vs l) : ∀ n, Reps K H (List.replicate n vs).flatten (List.replicate n l).flatten
  | 0 => .nil
  | n + 1 => by
    rw [List.replicate_succ, List.replicate_succ, List.flatten_cons, List.flatten_cons]
    exact Reps.append r (Reps.rep r n)
theorem dm_rep {k : Nat} {i : Int} (he : DM X Wx o m) : DM X Wx (.BinOp o .Mult (.Constant (.int i) k p2) pos) (mRep m (eC (.int i))) := PE.conv (pe_op op_rep he (pe_int (i := i))) fun σ H Q ⟨ad, ρ, S, sg, rs, q⟩ => by
  refine ⟨ad, ρ, S, sg, rs, ?_⟩
  unfold mRep eC at q
  revert q
  cases m ρ S with
  | bad => exact fun z => z
  | exc x S2 => exact fun z => z
  | ok xs S1 =>
    rintro q y H1 ad1 fr1 ⟨p, us, rfl, h0, hn, hp, rp⟩ rs1
    simp only [Rs.bind] at q
    split at q
    · rename_i hz
      obtain ⟨z1, z2, z3⟩ := hz
      have h9 : xs.length * i.toNat ≤ 1000 * 1000 := Nat.mul_le_mul z3 (by omega)
      have h8 : (1000 * 1000 : Nat) ≤ sizeLine := by decide
      refine ⟨p, i, us, rfl, rfl, hp, by omega, by omega, by rw [rp.length]; omega, fun p2 hp2 => ?_⟩
      obtain ⟨h02, hn2⟩ := fr1.back rs1 hp2
      have ex : Ex H1 (upd H1 p2 (.lst (List.replicate i.toNat us).flatten)) := Ex.new hp2
      exact q _ _ ad1 (fr1.trans ex.fr) ⟨p2, _, rfl, h02, hn2, upd_same, Reps.stb ex.stb _ (Reps.rep rp _)⟩ (rs1.ex ex)
    · exact q.elim

/-! ### the empty dict -/
theorem freezeK {pins : List (Addr × Obj)} {σ : L2.St} {H : Hp} {s : Shared} {a : Addr} {kvs : List (Key × V)} (I : Inv X pins σ H s) (h : H a = some (.dK kvs)) :
    ∃ o, Inv X pins σ (upd H a (.frz o (.dK kvs))) s := by
  have ok := I.hok a _ h
  obtain ⟨z, hd, vs, kv, o, es, ep, e, ex⟩ := id ok
  refine ⟨o, ?_⟩
  have ne : ∀ {b : Addr} {o : HO}, H b = some o → (∀ xs, o ≠ .dK xs) → b ≠ a := fun {b o} hb hn z => by
    subst z
    rw [h] at hb
    cases hb
    exact hn _ rfl
  have un : Un X.fs [] H (upd H a (.frz o (.dK kvs))) s.heap s.heap := by
    refine ⟨fun b o q _ _ _ => q, fun b o q _ _ _ => ⟨o.slots, q⟩, fun b o q hn _ => ?_, fun b o q _ => ⟨o, q⟩, fun b xs q => ?_, fun b o u q => ?_, fun b ps q => ⟨#[], ?_⟩⟩
    · have : b ≠ a := fun z => by subst z; rw [h] at hn; cases hn
      rw [upd_ne this]; exact hn
    · rw [upd_ne (ne q fun _ z => nomatch z)]; exact q
    · rw [upd_ne (ne q fun _ z => nomatch z)]; exact q
    · rw [upd_ne (ne q fun _ z => nomatch z), q]; simp
  have hok : HOk X.prog X.w (upd H a (.frz o (.dK kvs))) s.heap := fun b u q => by
    by_cases hb : b = a
    · subst hb
      rw [upd_same] at q; cases q
      exact ⟨e, ok⟩
    · rw [upd_ne hb] at q
      refine (I.hok b u q).stay (fun c v _ r => r) (fun c r => ?_) fun c xs r => ?_
      · rw [upd_ne (ne r fun _ z => nomatch z)]; exact r
      · rw [upd_ne (ne r fun _ z => nomatch z)]; exact r
  have := I.un (h' := s.heap) (t' := s.toks) un hok
  exact this
theorem de_dic0 : DE X Wx (.Dict [] [] pos) (eC (.dict [])) := by
  have p : PE X (.Dict [] [] pos) (fun σ H Q => ∀ p, H p = none → ∀ o, Q (.ref p) (upd (upd H p (.dK [])) p (.frz o (.dK [])))) := ⟨fun pins s σ H Q I q => by
    refine thn (pe_dnewK.run pins s σ H (fun v H' => ∃ p, v = .ref p ∧ H p = none ∧ H' = upd H p (.dK [])) I fun p hp => ⟨p, rfl, hp, rfl⟩) fun v s1 ⟨x, H1, I1, r1, p, e1, hp, e2⟩ => ?_
    subst e1 e2
    obtain ⟨o, I2⟩ := freezeK I1 upd_same
    exact ⟨_, _, I2, r1, q p hp o⟩⟩
  refine PE.conv p fun σ H Q ⟨ad, ρ, S, sg, rs, q⟩ p hp o => ?_
  have ex : Ex H (upd (upd H p (.dK [])) p (.frz o (.dK []))) := (Ex.new hp).upd2 hp
  exact q _ _ ad ex.fr (.dic upd_same .nil) (rs.ex ex)

/-! ### starred items -/
def lStar (f : EF) (l : LF) : LF := fun ρ S => ((f ρ S).bind frzW).bind fun w S1 => match w with
  | .d (.list xs) => (l ρ S1).bind fun ys S2 => .ok (xs.map Wv.d ++ ys) S2
  | .d (.tuple xs) => (l ρ S1).bind fun ys S2 => .ok (xs.map Wv.d ++ ys) S2
  | _ => .bad
end
end DL

set_option Elab.async false
set_option linter.all false
set_option maxRecDepth 100000
set_option maxHeartbeats 4000000
/-! D12: methods of texts; list(text); starred items. -/
namespace DL
open PySem PySem.Spec PyProof.Rows L2

/-! ### methods of texts, by data -/
def rMP (K : PySem.W.Frag) (g : Str → List PyData → Option PyData) : V → List V → Hp → VK → Prop := fun x vs H Q => ∃ z ds d, x = .str z ∧ RepVs K H vs ds ∧ g z ds = some d ∧ strG z = true ∧ ∀ v H', Ex H H' → Rep K H' v d → Q v H'
def MtP (X : Cx) (id : String) (g : Str → List PyData → Option PyData) : Prop := MtR X id (rMP X.K g)
def eMet (g : Str → List PyData → Option PyData) (fo : EF) (l : LF) : EF := fun ρ S => (fo ρ S).bind fun w S1 => match w with
  | .d (.str z) => (l ρ S1).bind fun ws S2 => match views S2 ws with
    | some ds => match g z ds with
      | some d => .ok (.d d) S2
      | none => .bad
    | none => .bad
  | _ => .bad
section
variable {X : Cx} {Wx : WX} {o e : Expr} {es : List Expr} {f : EF} {l : LF} {g : Str → List PyData → Option PyData} {name : Str} {id : String} {apos cpos : Pos}
theorem de_met (slot : Slot "str" name id) (hty : typeOf (.builtin id) = pure (.type "method_descriptor")) (hm : MtP X id g) (ho : DE X Wx o f) (ha : DA X Wx (e :: es) l)
    (hbase : attributeBase o name X.env (eval o X.env) = eval o X.env := by rfl)
    (hfew : ((backTo cpos (starEach (e :: es) X.env)).all (fun x => !x.1) && (backToKw cpos (keywordEach [] X.env)).all (fun x => x.1.isSome)
      && decide ((e :: es).length + ([] : List Keyword).length + (if ([] : List Keyword).isEmpty then 0 else 1) < 30)) = true := by rfl)
    (hline : (apos.endLine == cpos.line) = true := by rfl) (hs : starEach (e :: es) X.env = (false, eval e X.env) :: starEach es X.env := by rfl) (hplain : (backTo cpos (starEach es X.env)).any (·.1) = false := by rfl) :
    DE X Wx (.Call (.Attribute o name apos) (e :: es) [] cpos) (eMet g f l) :=
  PE.conv (pe_bm PySem.F.plainAttrs_str slot hty hm ho ha hbase hfew hline hs hplain) fun σ H Q ⟨ad, ρ, S, sg, rs, q⟩ => by
    refine ⟨ad, ρ, S, sg, rs, post_mono (post_bind q) ?_⟩
    rintro x H1 ⟨ad1, w, S1, fr1, r1, rs1, q1⟩
    split at q1
    · rename_i z
      obtain ⟨rfl, hz⟩ : x = .str z ∧ strG z = true := by cases r1 with | str _ h => exact ⟨rfl, h⟩
      refine ⟨rfl, ad1, ρ, S1, sg.fr fr1, rs1, post_mono (post_bind q1) ?_⟩
      rintro vs H2 ⟨ad2, ws, S2, fr2, r2, rs2, q2⟩
      cases e1 : views S2 ws with
      | none => rw [e1] at q2; exact q2.elim
      | some ds =>
        rw [e1] at q2
        dsimp only at q2
        cases e2 : g z ds with
        | none => rw [e2] at q2; exact q2.elim
        | some d =>
          rw [e2] at q2
          exact ⟨z, ds, d, rfl, views_rep rs2 r2 e1, e2, hz, fun v H' ex r => q2 v H' ad2 ex.fr r (rs2.ex ex)⟩
    · exact q1.elim
theorem de_met0 (slot : Slot "str" name id) (hty : typeOf (.builtin id) = pure (.type "method_descriptor")) (hm : MtP X id g) (ho : DE X Wx o f)
    (hbase : attributeBase o name X.env (eval o X.env) = eval o X.env := by rfl) (hline : (apos.endLine == cpos.line) = true := by rfl) :
    DE X Wx (.Call (.Attribute o name apos) [] [] cpos) (eMet g f lNil) :=
  PE.conv (pe_bm0 PySem.F.plainAttrs_str slot hty hm ho hbase hline) fun σ H Q ⟨ad, ρ, S, sg, rs, q⟩ => by
    refine ⟨ad, ρ, S, sg, rs, post_mono (post_bind q) ?_⟩
    rintro x H1 ⟨ad1, w, S1, fr1, r1, rs1, q1⟩
    split at q1
    · rename_i z
      obtain ⟨rfl, hz⟩ : x = .str z ∧ strG z = true := by cases r1 with | str _ h => exact ⟨rfl, h⟩
      refine ⟨rfl, ?_⟩
      simp only [lNil, Rs.bind, views] at q1
      cases e2 : g z [] with
      | none => rw [e2] at q1; exact q1.elim
      | some d =>
        rw [e2] at q1
        exact ⟨z, [], d, rfl, .nil, e2, hz, fun v H' ex r => q1 v H' ad1 ex.fr r (rs1.ex ex)⟩
    · exact q1.elim
end
theorem MtR.freeze {X : Cx} {id : String} {r : V → List V → Hp → VK → Prop} (h : MtR X id r) : MtR X id (fun x xs H Q => r x xs H fun v H' => ∃ a vs, v = .ref a ∧ H' a = some (.lst vs) ∧ ∀ o, Q v (upd H' a (.frz o (.lst vs)))) :=
  fun pins s σ H x xs v us Q I rx rs q => thn (h pins s σ H x xs v us _ I rx rs q) fun _ _ z => EP.freeze z
def splitG : Str → List PyData → Option PyData
  | a, [.str b] => if (b.length == 0) = false ∧ a.length + 2 ≤ sizeLine ∧ ((Txt.split a b).all strG) = true then some (.list ((Txt.split a b).map PyData.str)) else none
  | _, _ => none
theorem strsReps {K : PySem.W.Frag} {H : Hp} : ∀ {ys : List Str}, ys.all strG = true → Reps K H (ys.map V.str) (ys.map PyData.str)
  | [], _ => .nil
  | y :: ys, h => by
    rw [List.all_cons, Bool.and_eq_true] at h
    exact .cons (.str _ h.1) (strsReps h.2)
section
variable {X : Cx}
theorem mp_split : MtP X "str.split" splitG := by
  intro pins s σ H x xs v us Q I rx rs ⟨z, ds, d, ex, h, e, hz, q⟩
  subst ex
  unfold splitG at e
  split at e
  · rename_i b
    split at e
    · rename_i hc
      cases e
      obtain ⟨y, rfl, r1⟩ := repV1 h
      obtain ⟨rfl, z1⟩ := r1.str
      refine MtR.freeze mt_split pins s σ H _ _ v us Q I rx rs ⟨_, _, rfl, rfl, hc.1, hc.2.1, fun p hp => ⟨p, _, rfl, upd_same, fun o => ?_⟩⟩
      have ex : Ex H (upd (upd H p (.lst ((Txt.split z b).map V.str))) p (.frz o (.lst ((Txt.split z b).map V.str)))) := (Ex.new hp).upd2 hp
      exact q _ _ ex (.lst (.inl ⟨o, upd_same⟩) (strsReps hc.2.2))
    · cases e
  · cases e
def joinG : Str → List PyData → Option PyData
  | a, [.list l] => match strsD l with
    | some ys => if (ys.map (·.length)).sum + ys.length * a.length ≤ 16777216 ∧ strG (Txt.join a ys) = true then some (.str (Txt.join a ys)) else none
    | none => none
  | _, _ => none
theorem mp_join : MtP X "str.join" joinG := by
  intro pins s σ H x xs v us Q I rx rs ⟨z, ds, d, ex, h, e, hz, q⟩
  subst ex
  unfold joinG at e
  split at e
  · rename_i l
    cases hs : strsD l with
    | none => rw [hs] at e; cases e
    | some ys =>
      rw [hs] at e
      dsimp only at e
      split at e
      · rename_i hc
        cases e
        obtain ⟨y, rfl, r1⟩ := repV1 h
        obtain ⟨a, vs, rfl, t, rr⟩ := r1.lst
        obtain ⟨e1, e2⟩ := strs_rep rr hs
        subst e1
        exact mt_join pins s σ H _ _ v us Q I rx rs ⟨_, _, ys, rfl, rfl, .inl t, hc.1, q _ H (Ex.refl H) (.str _ hc.2)⟩
      · cases e
  · cases e
def indexG : Str → List PyData → Option PyData
  | a, [.str b] => match Builtin.Str.occurrences a b 0 a.length 1 with
    | i :: _ => some (.int (i : Nat))
    | [] => none
  | _, _ => none
theorem mp_index : MtP X "str.index" indexG := by
  intro pins s σ H x xs v us Q I rx rs ⟨z, ds, d, ex, h, e, hz, q⟩
  subst ex
  unfold indexG at e
  split at e
  · split at e
    · rename_i i r ho
      cases e
      obtain ⟨y, rfl, r1⟩ := repV1 h
      obtain ⟨rfl, z1⟩ := r1.str
      exact mt_sindex pins s σ H _ _ v us Q I rx rs ⟨_, _, i, r, rfl, rfl, ho, q _ H (Ex.refl H) (.int _)⟩
    · cases e
  · cases e
end
def strGG : List PyData → Option PyData := fun ds => match ds with
    | [.int i] => if i.natAbs.log2 < 1920 ∧ strG (toString i) = true then some (.str (toString i)) else none
    | [.str x] => some (.str x)
    | _ => none
theorem cp_str {X : Cx} : CallP X (.type "str") strGG := by
  intro pins s σ H xs us Q I r ⟨ds, d, h, e, q⟩
  unfold strGG at e
  split at e
  · split at e
    · rename_i hc
      cases e
      obtain ⟨x, rfl, r1⟩ := repV1 h
      cases r1.int
      exact call_str_int pins s σ H _ us Q I r ⟨_, rfl, hc.1, q _ H (Ex.refl H) (.str _ hc.2)⟩
    · cases e
  · cases e
    obtain ⟨x, rfl, r1⟩ := repV1 h
    obtain ⟨rfl, z⟩ := r1.str
    exact SkE.call_str_str pins s σ H _ us Q I r ⟨_, rfl, q _ H (Ex.refl H) (.str _ z)⟩
  · cases e
/-! ### starred items -/
section
variable {X : Cx} {Wx : WX} {e : Expr} {es : List Expr} {f : EF} {l : LF} {p : Pos}
theorem reps_ws {K : PySem.W.Frag} {ad : List Addr} {H : Hp} : ∀ {vs : List V} {xs : List PyData}, Reps K H vs xs → RepWs K ad H vs (xs.map Wv.d)
  | _, _, .nil => .nil
  | _, _, .cons h t => .cons h (reps_ws t)
theorem repWs_append {K : PySem.W.Frag} {ad : List Addr} {H : Hp} : ∀ {vs us : List V} {ws xs : List Wv}, RepWs K ad H vs ws → RepWs K ad H us xs → RepWs K ad H (vs ++ us) (ws ++ xs)
  | _, _, _, _, .nil, h => h
  | _, _, _, _, .cons r t, h => .cons r (repWs_append t h)
theorem da_star (ha : DE X Wx e f) (hb : DA X Wx es l) (hs : starEach (.Starred e p :: es) X.env = (true, eval e X.env) :: starEach es X.env := by rfl) : DA X Wx (.Starred e p :: es) (lStar f l) := PA.conv (StX.pa_star (de_frz ha) hb hs) fun σ H Q ⟨ad, ρ, S, sg, rs, q⟩ => by
  refine ⟨ad, ρ, S, sg, rs, post_mono (post_bind q) ?_⟩
  rintro x H1 ⟨ad1, w, S1, fr1, r1, rs1, q1⟩
  split at q1
  · rename_i xs
    cases r1 with
    | lst t rp =>
      refine ⟨_, _, rfl, .inr t.sq, ad1, ρ, S1, sg.fr fr1, rs1, post_mono (post_bind (Rel1 := RepWs X.K) q1) ?_⟩
      rintro ys H2 ⟨ad2, ws, S2, fr2, r2, rs2, q2⟩
      exact q2 _ H2 ad2 (Fr.refl _ _) (repWs_append (reps_ws (Reps.stb fr2.stb _ rp)) r2) rs2
  · rename_i xs
    cases r1 with
    | tup t rp =>
      refine ⟨_, _, rfl, .inl t, ad1, ρ, S1, sg.fr fr1, rs1, post_mono (post_bind (Rel1 := RepWs X.K) q1) ?_⟩
      rintro ys H2 ⟨ad2, ws, S2, fr2, r2, rs2, q2⟩
      exact q2 _ H2 ad2 (Fr.refl _ _) (repWs_append (reps_ws (Reps.stb fr2.stb _ rp)) r2) rs2
  · exact q1.elim

/-! ### list(a text) -/
def mSigns (l : LF) : MF := fun ρ S => (l ρ S).bind fun ws S1 => match ws with
  | [.d (.str z)] => .ok (signsD z) S1
  | _ => .bad
theorem call_signs (hc : X.calm = true) : CallR X (.type "list") (fun xs H Q => ∃ z, xs = [.str z] ∧ strG z = true ∧ ∀ p, H p = none → Q (.ref p) (upd H p (.lst (z.cps.toList.map fun c => V.str ⟨#[c]⟩)))) := by
  intro pins s σ H xs us Q I r ⟨z, e, hz, q⟩
  subst e
  obtain ⟨u, rfl, t, rfl⟩ := r.one
  refine call_list_str (hn := strG_len hz) (I.ok.hd hc) z t fun h' tk acc c hk hS ha => ?_
  have hacc : Vals (z.cps.toList.map fun c => V.str ⟨#[c]⟩) acc.toList := by
    obtain ⟨hsz, hat⟩ := ha
    have key : ∀ (cs : List Nat) (vs : List Value), cs.length = vs.length → (∀ (j : Nat) (c : Nat) (v : Value), cs[j]? = some c → vs[j]? = some v → ∃ u, v = .str ⟨#[c]⟩ u) → Vals (cs.map fun c => V.str ⟨#[c]⟩) vs := by
      intro cs
      induction cs with
      | nil => intro vs hl _; cases vs with
        | nil => exact .nil
        | cons _ _ => simp at hl
      | cons c cs ih =>
        intro vs hl h
        cases vs with
        | nil => simp at hl
        | cons v vs =>
          obtain ⟨u, e⟩ := h 0 c v rfl rfl
          exact .cons ⟨u, e⟩ (ih vs (by simpa using hl) fun j c' v' h1 h2 => h (j + 1) c' v' (by simpa using h1) (by simpa using h2))
    refine key _ _ (by simp [hsz]) fun j c v h1 h2 => ?_
    obtain ⟨c', u, e1, e2⟩ := hat j v (by rw [← Array.getElem?_toList]; exact h2)
    rw [Array.getElem?_toList, e1] at h1
    cases h1
    exact ⟨u, e2⟩
  refine ⟨.ref s.heap.objs.size, _, I.laid (t' := tk) (o := .lst (z.cps.toList.map fun c => V.str ⟨#[c]⟩)) hk (Nat.le_refl _) ⟨?_, acc.toList, c, hacc, ?_⟩, rfl, q _ I.fresh⟩
  · rw [List.length_map, Array.length_toList]; exact strG_len hz
  · exact hS
theorem dm_signs {p pos : Pos} (hc : X.calm = true) (hg : Gl X "list") (hm : X.mg "list" = none) (ha : DA X Wx [e] l)
    (he : starEach [e] X.env = (false, eval e X.env) :: starEach [] X.env := by rfl) : DM X Wx (.Call (.Name "list" p) [e] [] pos) (mSigns l) :=
  PE.conv (pe_callTy (call_signs hc) hg hm PyProof.Rows.boot_list ha (by decide) (by decide) he rfl) fun σ H Q ⟨ad, ρ, S, sg, rs, q⟩ => by
    refine ⟨ad, ρ, S, sg, rs, ?_⟩
    unfold mSigns at q
    revert q
    cases l ρ S with
    | bad => exact fun z => z
    | exc x S2 => exact fun z => z
    | ok ws S1 =>
      rintro q vs H1 ad1 fr1 r1 rs1
      simp only [Rs.bind] at q
      split at q
      · rename_i z
        cases r1 with
        | cons r rr =>
          cases rr
          cases r with
          | str _ hz =>
            refine ⟨z, rfl, hz, fun p hp => ?_⟩
            obtain ⟨h0, hn⟩ := fr1.back rs1 hp
            have ex : Ex H1 (upd H1 p (.lst (z.cps.toList.map fun c => V.str ⟨#[c]⟩))) := Ex.new hp
            refine q _ _ ad1 (fr1.trans ex.fr) ⟨p, _, rfl, h0, hn, upd_same, ?_⟩ (rs1.ex ex)
            have : ∀ cs : List Nat, (∀ c ∈ cs, c ∈ z.cps.toList) → Reps X.K (upd H1 p (.lst (z.cps.toList.map fun c => V.str ⟨#[c]⟩))) (cs.map fun c => V.str ⟨#[c]⟩) (cs.map fun c => PyData.str ⟨#[c]⟩) := by
              intro cs
              induction cs with
              | nil => exact fun _ => .nil
              | cons c cs ih => exact fun h => .cons (.str _ (sign_G hz (h c (by simp)))) (ih fun d hd => h d (by simp [hd]))
            exact this _ fun _ h => h
      · exact q.elim
end
end DL

set_option Elab.async false
set_option linter.all false
set_option maxRecDepth 100000
set_option maxHeartbeats 4000000
/-! D13: the ends: constants of the module, the law's own promise. -/
namespace DL
open PySem PySem.Spec PyProof.Rows L2
theorem Fn.mono {P : Program} {w : World} {K : PySem.W.Frag} {mg : Str → Option Value} {base : Heap} {j k : Nat} {x : Str} {n : Nat} {sem : FD} (F : Fn P w K mg base j x n sem) (h : j ≤ k) : Fn P w K mg base k x n sem := by
  obtain ⟨f, fd, ps, F1, r⟩ := F.ex
  exact ⟨f, fd, ps, F1.mono h, r⟩
theorem gv_str {K : PySem.W.Frag} {mg : Str → Option Value} {x z : Str} {t : Tok} (h : mg x = some (.str z t)) (g : strG z = true := by decide +kernel) : Gv K mg x (.str z) := ⟨_, .str z, h, ⟨t, rfl⟩, fun _ => .str z g⟩
theorem gv_int {K : PySem.W.Frag} {mg : Str → Option Value} {x : Str} {i : Int} {t : Tok} (h : mg x = some (.int i t)) : Gv K mg x (.int i) := ⟨_, .int i, h, ⟨t, rfl⟩, fun _ => .int i⟩
theorem gv_tup {K : PySem.W.Frag} {mg : Str → Option Value} {x : Str} {a : Addr} {od : Option Addr} {its : Array Value} {n : Nat} {sl : Array (Option Value)} {vs : List V} {ds : List PyData} (h : mg x = some (.ref a)) (l : K.lookup a = some ⟨.type "tuple", od, .seq its n, sl⟩)
    (hz : its.size ≤ sizeLine) (hv : Vals vs its.toList) (hr : ∀ H, Reps K H vs ds) : Gv K mg x (.tuple ds) := ⟨_, .ref a, h, rfl, fun H => .tup (.inr ⟨_, its, n, l, rfl, rfl, hz, hv⟩) (hr H)⟩
/-- what the law's def promises -/
def spLawD (K : PySem.W.Frag) : Sp := fun vs H Q _ => ∃ (a : Addr) (ns : List Int), vs = [.ref a] ∧ FzL K H a (ns.map V.int) ∧ ns.length ≤ 63 ∧ (∀ z ∈ ns, Builtin.Int.intBits z ≤ 1048576) ∧ ∀ H', Q (.bl true) H'
theorem reps_ints {K : PySem.W.Frag} {H : Hp} : ∀ ns : List Int, Reps K H (ns.map V.int) (ns.map PyData.int)
  | [] => .nil
  | n :: ns => .cons (.int n) (reps_ints ns)
theorem law_fn {P : Program} {w : World} {K : PySem.W.Frag} {mg : Str → Option Value} {base : Heap} {k : Nat} {f : Addr} {fd : FuncData} {ps : List Str} {sem : FD} (F : FnOk P w K mg base (L2.CX P w) k f fd ps (spD K mg 1 sem))
    (hl : ∀ ns : List Int, ns.length ≤ 63 → (∀ z ∈ ns, Builtin.Int.intBits z ≤ 1048576) → sem [.d (.list (ns.map PyData.int))] [] = .ok (.d (.bool true)) []) : FnOk P w K mg base (L2.CX P w) k f fd ps (spLawD K) := F.imp fun vs H Q E h => by
  obtain ⟨a, ns, rfl, hf, hn, hb, q⟩ := h
  refine ⟨rfl, [], [.d (.list (ns.map PyData.int))], [], .cons (.lst hf (reps_ints ns)) .nil, ⟨rfl, List.nodup_nil, fun k o e => by simp at e⟩, ?_⟩
  rw [hl ns hn hb]
  intro v H' ad' fr r rs
  cases r
  exact q H'
theorem only_fz {K : PySem.W.Frag} {H : Hp} {a : Addr} {xs : List V} (o : Only H) (h : SqL K H a xs) : FzL K H a xs := by
  rcases h with (h | h) | h
  · rcases o a with z | ⟨_, _, z⟩
    · rw [z] at h; cases h
    · rw [z] at h; cases h
  · exact .inl h
  · exact .inr h
theorem noCX {P : Program} {w : World} {H : Hp} {s : Shared} {e : Value} {s' : Shared} (h : L2.CX P w [] H s (fun _ _ _ => False) e s') : False := by
  obtain ⟨_, _, _, _, _, _, _, _, _, _, _, _, z⟩ := h
  exact z.elim
theorem walkD {l : PySem.W.OpenLaw} {k : Nat} {q : Program} {loose : List Str} {XP : (Str → Option Value) → Heap → Prop} {YP : World → Heap → Prop} {d : DefRec} {K : Params → PySem.W.Frag} (hn : l.most = some 63) (hdf : d.params.defaults = []) (hr : Room k callerA)
    (hY : ∀ (w : World) (h : Heap), YP w h → (K w.params).In h)
    (F : ∀ (w : World) (mg : Str → Option Value) (fa : Addr) (h : Heap), (K w.params).In h → h.Ns mainGlobals mg → mg d.name = some (.ref fa) →
      ∃ fd : FuncData, (∀ (s : Shared) (u : Value), BindsTo s fd ⟨[u], []⟩ [("script", u)]) ∧ ∀ base : Heap, (K w.params).In base → base.Ns mainGlobals mg → FnOk l.prog w (K w.params) mg base (L2.CX l.prog w) k fa fd ["script"] (spLawD (K w.params))) :
    PySem.W.WalkO q loose XP YP l.row.toRowW d [] (fun f vs => PySem.call f vs) :=
  L2.walk_ofB (n := 63) (k := k) (x := "script") (CX := fun w => L2.CX l.prog w) (sp := fun w => spLawD (K w.params)) hn (by decide) hdf hr hY F (fun _ _ a ns hl hb ho hS => ⟨a, ns, rfl, only_fz ho hS, hl, hb, fun _ => rfl⟩) fun _ _ _ _ _ z => noCX z
end DL

set_option Elab.async false
set_option linter.all false
set_option maxRecDepth 100000
set_option maxHeartbeats 4000000
namespace DL
open PySem PySem.Spec PyProof.Rows L2
def top (i : Nat) : Stmt := PySem.Challenge.pw_basketfair_k71_frames_and_texts_of_entri.main.body.getD i (.Pass ⟨0, 0, 0, 0⟩)
theorem boot_abs : bootBuiltins "abs" = some (.builtin "abs") := by decide +kernel
theorem boot_all : bootBuiltins "all" = some (.builtin "all") := by decide +kernel
theorem boot_bool : bootBuiltins "bool" = some (.type "bool") := by decide +kernel
theorem boot_int : bootBuiltins "int" = some (.type "int") := by decide +kernel
theorem boot_isinstance : bootBuiltins "isinstance" = some (.builtin "isinstance") := by decide +kernel
theorem boot_len : bootBuiltins "len" = some (.builtin "len") := by decide +kernel
theorem boot_list : bootBuiltins "list" = some (.type "list") := by decide +kernel
theorem boot_max : bootBuiltins "max" = some (.builtin "max") := by decide +kernel
theorem boot_range : bootBuiltins "range" = some (.type "range") := by decide +kernel
theorem boot_str : bootBuiltins "str" = some (.type "str") := by decide +kernel
theorem boot_sum : bootBuiltins "sum" = some (.builtin "sum") := by decide +kernel
theorem boot_tuple : bootBuiltins "tuple" = some (.type "tuple") := by decide +kernel
theorem boot_zip : bootBuiltins "zip" = some (.type "zip") := by decide +kernel
def k_SIGNS : PyData := (.str (PySem.Str.ofString " 0123456789abcdefghijklmnopqrstuvwxyz"))
def k_DIGITS : PyData := (.str (PySem.Str.ofString "0123456789"))
def k_FACTOR : PyData := (.int 41)
def k_MODULUS : PyData := (.int 99991)
def k_MARK : PyData := (.str (PySem.Str.ofString ":"))
def k_END : PyData := (.str (PySem.Str.ofString "\n"))
def k_MOST_FIGURES : PyData := (.int 9)
def k_SALE : PyData := (.str (PySem.Str.ofString "sale"))
def k_BACK : PyData := (.str (PySem.Str.ofString "back"))
def k_SINGLE : PyData := (.str (PySem.Str.ofString "single"))
def k_DROP : PyData := (.str (PySem.Str.ofString "drop"))
theorem sc_is_inner : FnScope ["text", "sign"] ["text"] (defScope (top 8)) := ⟨rfl, rfl, rfl, by decide +kernel, rfl, by decide +kernel, by decide +kernel⟩
noncomputable def b_is_inner : SF := (sRet (eB allG (lCons (eFz (mLc (iVal (eVar 0)) (gNm 1) bYes (eBin inD (eVar 1) (eC k_SIGNS)) [1])) lNil)))
noncomputable def f_is_inner : FD := runDef 2 1 b_is_inner
theorem sc_check_of : FnScope ["text", "found", "sign"] ["text"] (defScope (top 9)) := ⟨rfl, rfl, rfl, by decide +kernel, rfl, by decide +kernel, by decide +kernel⟩
noncomputable def b_check_of : SF := (sSeq (sSet 1 (eC (.int 0))) (sSeq (sFor (iVal (eVar 0)) (gNm 2) (sSet 1 (eBin modD (eBin addD (eBin addD (eBin mulD (eVar 1) (eC k_FACTOR)) (eMet indexG (eC k_SIGNS) (lCons (eVar 2) lNil))) (eC (.int 1))) (eC k_MODULUS)))) (sRet (eVar 1))))
noncomputable def f_check_of : FD := runDef 3 1 b_check_of
theorem sc_framed : FnScope ["text"] ["text"] (defScope (top 10)) := ⟨rfl, rfl, rfl, by decide +kernel, rfl, by decide +kernel, by decide +kernel⟩
noncomputable def b_framed : SF := (sRet (eBin addD (eMet joinG (eC k_MARK) (lCons (eFz (mLst (lCons (eB strGG (lCons (eB lenG (lCons (eVar 0) lNil)) lNil)) (lCons (eB strGG (lCons (eCall 1 f_check_of (lCons (eVar 0) lNil)) lNil)) (lCons (eVar 0) lNil))))) lNil)) (eC k_END)))
noncomputable def f_framed : FD := runDef 1 1 b_framed
theorem sc_is_number : FnScope ["word", "sign"] ["word"] (defScope (top 11)) := ⟨rfl, rfl, rfl, by decide +kernel, rfl, by decide +kernel, by decide +kernel⟩
noncomputable def b_is_number : SF := (sSeq (sIf (tOrB (tNotB (tChB leD leD (eC (.int 1)) (eB lenG (lCons (eVar 0) lNil)) (eC k_MOST_FIGURES))) (tNotB (tTru (eB allG (lCons (eFz (mLc (iVal (eVar 0)) (gNm 1) bYes (eBin inD (eVar 1) (eC k_DIGITS)) [1])) lNil))))) (sRet (eC (.bool false))) sNil) (sRet (eOr (eBin eqD (eVar 0) (eC (.str (PySem.Str.ofString "0")))) (eBin neD (eBin ixD (eVar 0) (eC (.int 0))) (eC (.str (PySem.Str.ofString "0")))))))
noncomputable def f_is_number : FD := runDef 2 1 b_is_number
theorem sc_text_in : FnScope ["line", "parts", "is_right"] ["line"] (defScope (top 12)) := ⟨rfl, rfl, rfl, by decide +kernel, rfl, by decide +kernel, by decide +kernel⟩
noncomputable def b_text_in : SF := (sSeq (sSet 1 (eMet splitG (eVar 0) (lCons (eC k_MARK) lNil))) (sSeq (sIf (tOrB (tCmpB neD (eB lenG (lCons (eVar 1) lNil)) (eC (.int 3))) (tOrB (tNotB (tTru (eCall 1 f_is_number (lCons (eBin ixD (eVar 1) (eC (.int 0))) lNil)))) (tOrB (tNotB (tTru (eCall 1 f_is_number (lCons (eBin ixD (eVar 1) (eC (.int 1))) lNil)))) (tNotB (tTru (eCall 1 f_is_inner (lCons (eBin ixD (eVar 1) (eC (.int 2))) lNil))))))) (sRet (eC .none)) sNil) (sSeq (sSet 2 (eAnd (eBin eqD (eB intG (lCons (eBin ixD (eVar 1) (eC (.int 0))) lNil)) (eB lenG (lCons (eBin ixD (eVar 1) (eC (.int 2))) lNil))) (eBin eqD (eB intG (lCons (eBin ixD (eVar 1) (eC (.int 1))) lNil)) (eCall 1 f_check_of (lCons (eBin ixD (eVar 1) (eC (.int 2))) lNil))))) (sRet (eIf (tTru (eVar 2)) (eBin ixD (eVar 1) (eC (.int 2))) (eC .none))))))
noncomputable def f_text_in : FD := runDef 3 1 b_text_in
theorem sc_unframed : FnScope ["data", "found", "many", "line", "text"] ["data"] (defScope (top 13)) := ⟨rfl, rfl, rfl, by decide +kernel, rfl, by decide +kernel, by decide +kernel⟩
noncomputable def b_unframed : SF := (sSeq (sPar 1 2 (eOwn (mLst lNil)) (eC (.int 0))) (sSeq (sFor (iVal (eSl (eMet splitG (eVar 0) (lCons (eC k_END) lNil)) oNon (oSom (eB negG (lCons (eC (.int 1)) lNil))))) (gNm 3) (sSeq (sSet 4 (eCall 1 f_text_in (lCons (eVar 3) lNil))) (sSeq (sIf (tCmpB isNoneD (eVar 4) (eC .none)) sBreak sNil) (sSeq (sExpr (eApp (eVar 1) (eFrz (eVar 4)))) (sAug 2 iaddD (eBin addD (eB lenG (lCons (eVar 3) lNil)) (eC (.int 1)))))))) (sRet (eTup (lCons (eB tupG (lCons (eVar 1) lNil)) (lCons (eVar 2) lNil))))))
noncomputable def f_unframed : FD := runDef 5 1 b_unframed
theorem sc_is_whole : FnScope ["data"] ["data"] (defScope (top 14)) := ⟨rfl, rfl, rfl, by decide +kernel, rfl, by decide +kernel, by decide +kernel⟩
noncomputable def b_is_whole : SF := (sRet (eBin eqD (eBin ixD (eCall 1 f_unframed (lCons (eVar 0) lNil)) (eC (.int 1))) (eB lenG (lCons (eVar 0) lNil))))
noncomputable def f_is_whole : FD := runDef 1 1 b_is_whole
theorem sc_spaced : FnScope ["words", "word"] ["words"] (defScope (top 20)) := ⟨rfl, rfl, rfl, by decide +kernel, rfl, by decide +kernel, by decide +kernel⟩
noncomputable def b_spaced : SF := (sRet (eMet joinG (eC (.str (PySem.Str.ofString " "))) (lCons (eFz (mLc (iVal (eVar 0)) (gNm 1) bYes (eB strGG (lCons (eVar 1) lNil)) [1])) lNil)))
noncomputable def f_spaced : FD := runDef 2 1 b_spaced
theorem sc_entry_text : FnScope ["entry", "word"] ["entry"] (defScope (top 21)) := ⟨rfl, rfl, rfl, by decide +kernel, rfl, by decide +kernel, by decide +kernel⟩
noncomputable def b_entry_text : SF := (sSeq (sSet 1 (eBin ixD (eVar 0) (eC (.int 0)))) (sSeq (sIf (tOrB (tCmpB eqD (eVar 1) (eC k_SALE)) (tCmpB eqD (eVar 1) (eC k_DROP))) (sRet (eCall 1 f_spaced (lCons (eTup (lCons (eVar 1) (lStar (eBin ixD (eVar 0) (eC (.int 1))) lNil))) lNil))) sNil) (sSeq (sIf (tCmpB eqD (eVar 1) (eC k_BACK)) (sRet (eCall 1 f_spaced (lCons (eTup (lCons (eVar 1) (lCons (eBin ixD (eVar 0) (eC (.int 1))) (lStar (eBin ixD (eVar 0) (eC (.int 2))) lNil)))) lNil))) sNil) (sRet (eIf (tCmpB eqD (eVar 1) (eC k_SINGLE)) (eCall 1 f_spaced (lCons (eVar 0) lNil)) (eCall 1 f_spaced (lCons (eTup (lCons (eVar 1) (lCons (eBin ixD (eVar 0) (eC (.int 2))) (lStar (eBin ixD (eVar 0) (eC (.int 1))) lNil)))) lNil)))))))
noncomputable def f_entry_text : FD := runDef 2 1 b_entry_text
theorem sc__law_bag : FnScope ["script", "cell"] ["script"] (defScope (top 23)) := ⟨rfl, rfl, rfl, by decide +kernel, rfl, by decide +kernel, by decide +kernel⟩
noncomputable def b__law_bag : SF := (sRet (eOwn (mLst (lCons (eC (.int 0)) (lCons (eC (.int 1234567891)) (lCons (eC (.int 0)) (lCons (eFz (mLc (iVal (eSl (eVar 0) oNon (oSom (eC (.int 63))))) (gNm 1) bYes (eB absG (lCons (eVar 1) lNil)) [1])) lNil)))))))
noncomputable def f__law_bag : FD := runDef 2 1 b__law_bag
theorem sc__law_take : FnScope ["bag", "many", "cell", "stirred", "value", "begin", "second"] ["bag", "many"] (defScope (top 24)) := ⟨rfl, rfl, rfl, by decide +kernel, rfl, by decide +kernel, by decide +kernel⟩
noncomputable def b__law_take : SF := (sSeq (sIf (tCmpB eqD (eBin ixD (eVar 0) (eC (.int 0))) (eC (.int 0))) (sSeq (sSet 2 (eBin ixD (eBin addD (eSl (eBin ixD (eVar 0) (eC (.int 3))) (oSom (eBin ixD (eVar 0) (eC (.int 2)))) oNon) (eFz (mLst (lCons (eC (.int 0)) lNil)))) (eC (.int 0)))) (sSeq (sAugI iaddD (eVar 0) (eC (.int 2)) (eC (.int 1))) (sSeq (sIf (tCmpB geD (eVar 2) (eBin powD (eC (.int 10)) (eC (.int 18)))) (sPut (eVar 0) (eC (.int 0)) (eVar 2)) sNil) (sSeq (sSet 3 (eBin addD (eBin addD (eBin mulD (eBin ixD (eVar 0) (eC (.int 1))) (eC (.int 48271))) (eBin modD (eB intG (lCons (eVar 2) lNil)) (eC (.int 2147483647)))) (eBin mulD (eC (.int 7919)) (eBin ixD (eVar 0) (eC (.int 2)))))) (sPut (eVar 0) (eC (.int 1)) (eBin modD (eB intG (lCons (eVar 3) lNil)) (eC (.int 2147483647)))))))) sNil) (sSeq (sIf (tCmpB gtD (eBin ixD (eVar 0) (eC (.int 0))) (eC (.int 0))) (sSeq (sSet 4 (eBin modD (eB intG (lCons (eBin ixD (eVar 0) (eC (.int 0))) lNil)) (eVar 1))) (sSeq (sPut (eVar 0) (eC (.int 0)) (eBin fdivD (eB intG (lCons (eBin ixD (eVar 0) (eC (.int 0))) lNil)) (eVar 1))) (sRet (eVar 4)))) sNil) (sSeq (sSet 5 (eBin modD (eB intG (lCons (eBin mulD (eBin addD (eBin ixD (eVar 0) (eC (.int 1))) (eC (.int 1))) (eC (.int 39373))) lNil)) (eC (.int 1000000007)))) (sSeq (sSet 6 (eBin modD (eB intG (lCons (eBin mulD (eBin modD (eB intG (lCons (eBin mulD (eVar 5) (eVar 5)) lNil)) (eC (.int 998244353))) (eC (.int 30011))) lNil)) (eC (.int 998244353)))) (sRet (eBin modD (eB intG (lCons (eBin fdivD (eVar 6) (eC (.int 7))) lNil)) (eVar 1)))))))
noncomputable def f__law_take : FD := runDef 7 2 b__law_take
theorem sc__law_some : FnScope ["bag", "things"] ["bag", "things"] (defScope (top 25)) := ⟨rfl, rfl, rfl, by decide +kernel, rfl, by decide +kernel, by decide +kernel⟩
noncomputable def b__law_some : SF := (sRet (eBin ixD (eVar 1) (eCall 2 f__law_take (lCons (eVar 0) (lCons (eB lenG (lCons (eVar 1) lNil)) lNil)))))
noncomputable def f__law_some : FD := runDef 2 2 b__law_some
theorem sc__law_alike : FnScope ["found", "due", "pairs", "at", "one", "other"] ["found", "due"] (defScope (top 26)) := ⟨rfl, rfl, rfl, by decide +kernel, rfl, by decide +kernel, by decide +kernel⟩
noncomputable def b__law_alike : SF := (sSeq (sPar 2 3 (eOwn (mLst (lCons (eTup (lCons (eVar 0) (lCons (eVar 1) lNil))) lNil))) (eC (.int 0))) (sSeq (sWhile (tCmpB ltD (eVar 3) (eB lenG (lCons (eVar 2) lNil))) (sSeq (sAsg (eBin ixD (eVar 2) (eVar 3)) (gTp 2 (gsCons (gNm 4) (gsCons (gNm 5) gsNil)))) (sSeq (sAug 3 iaddD (eC (.int 1))) (sSeq (sIf (tOrB (tCmpB neD (eIsi ["bool"] (eVar 4)) (eIsi ["bool"] (eVar 5))) (tCmpB neD (eIsi ["str"] (eVar 4)) (eIsi ["str"] (eVar 5)))) (sRet (eC (.bool false))) sNil) (sSeq (sIf (tCmpB neD (eIsi ["tuple", "list"] (eVar 4)) (eIsi ["tuple", "list"] (eVar 5))) (sRet (eC (.bool false))) sNil) (sIf (tTru (eIsi ["tuple", "list"] (eVar 4))) (sSeq (sIf (tOrB (tCmpB neD (eIsi ["tuple"] (eVar 4)) (eIsi ["tuple"] (eVar 5))) (tCmpB neD (eB lenG (lCons (eVar 4) lNil)) (eB lenG (lCons (eVar 5) lNil)))) (sRet (eC (.bool false))) sNil) (sExpr (eExt (eVar 2) (mZip (lCons (eVar 4) (lCons (eVar 5) lNil)))))) (sIf (tCmpB neD (eVar 4) (eVar 5)) (sRet (eC (.bool false))) sNil))))))) (sRet (eC (.bool true)))))
noncomputable def f__law_alike : FD := runDef 6 2 b__law_alike
theorem sc__law_check : FnScope ["text", "found", "sign"] ["text"] (defScope (top 27)) := ⟨rfl, rfl, rfl, by decide +kernel, rfl, by decide +kernel, by decide +kernel⟩
noncomputable def b__law_check : SF := (sSeq (sSet 1 (eC (.int 0))) (sSeq (sFor (iVal (eVar 0)) (gNm 2) (sSet 1 (eBin modD (eB intG (lCons (eBin addD (eBin addD (eBin mulD (eVar 1) (eC (.int 41))) (eMet indexG (eC (.str (PySem.Str.ofString " 0123456789abcdefghijklmnopqrstuvwxyz"))) (lCons (eVar 2) lNil))) (eC (.int 1))) lNil)) (eC (.int 99991))))) (sRet (eVar 1))))
noncomputable def f__law_check : FD := runDef 3 1 b__law_check
theorem sc__law_framed : FnScope ["text"] ["text"] (defScope (top 28)) := ⟨rfl, rfl, rfl, by decide +kernel, rfl, by decide +kernel, by decide +kernel⟩
noncomputable def b__law_framed : SF := (sRet (eBin addD (eBin addD (eBin addD (eBin addD (eBin addD (eB strGG (lCons (eB lenG (lCons (eVar 0) lNil)) lNil)) (eC (.str (PySem.Str.ofString ":")))) (eB strGG (lCons (eCall 1 f__law_check (lCons (eVar 0) lNil)) lNil))) (eC (.str (PySem.Str.ofString ":")))) (eVar 0)) (eC (.str (PySem.Str.ofString "\n")))))
noncomputable def f__law_framed : FD := runDef 1 1 b__law_framed
theorem sc__law_number : FnScope ["word", "sign"] ["word"] (defScope (top 29)) := ⟨rfl, rfl, rfl, by decide +kernel, rfl, by decide +kernel, by decide +kernel⟩
noncomputable def b__law_number : SF := (sSeq (sIf (tOrB (tNotB (tChB leD leD (eC (.int 1)) (eB lenG (lCons (eVar 0) lNil)) (eC (.int 9)))) (tOrB (tCmpB neD (eFz (mLc (iVal (eVar 0)) (gNm 1) (tCmpB notInD (eVar 1) (eC (.str (PySem.Str.ofString "0123456789")))) (eC (.int 1)) [1])) (eFz (mLst lNil))) (tAndB (tCmpB gtD (eB lenG (lCons (eVar 0) lNil)) (eC (.int 1))) (tCmpB eqD (eBin ixD (eVar 0) (eC (.int 0))) (eC (.str (PySem.Str.ofString "0"))))))) (sRet (eC .none)) sNil) (sRet (eB intG (lCons (eVar 0) lNil))))
noncomputable def f__law_number : FD := runDef 2 1 b__law_number
theorem sc__law_unframed : FnScope ["data", "found", "many", "line", "parts", "sign"] ["data"] (defScope (top 30)) := ⟨rfl, rfl, rfl, by decide +kernel, rfl, by decide +kernel, by decide +kernel⟩
noncomputable def b__law_unframed : SF := (sSeq (sPar 1 2 (eOwn (mLst lNil)) (eC (.int 0))) (sSeq (sFor (iVal (eSl (eMet splitG (eVar 0) (lCons (eC (.str (PySem.Str.ofString "\n"))) lNil)) oNon (oSom (eB negG (lCons (eC (.int 1)) lNil))))) (gNm 3) (sSeq (sSet 4 (eMet splitG (eVar 3) (lCons (eC (.str (PySem.Str.ofString ":"))) lNil))) (sSeq (sIf (tOrB (tCmpB neD (eB lenG (lCons (eVar 4) lNil)) (eC (.int 3))) (tCmpB neD (eFz (mLc (iVal (eBin ixD (eVar 4) (eC (.int 2)))) (gNm 5) (tCmpB notInD (eVar 5) (eC (.str (PySem.Str.ofString " 0123456789abcdefghijklmnopqrstuvwxyz")))) (eC (.int 1)) [5])) (eFz (mLst lNil)))) sBreak sNil) (sSeq (sIf (tOrB (tCmpB neD (eCall 1 f__law_number (lCons (eBin ixD (eVar 4) (eC (.int 0))) lNil)) (eB lenG (lCons (eBin ixD (eVar 4) (eC (.int 2))) lNil))) (tCmpB neD (eCall 1 f__law_number (lCons (eBin ixD (eVar 4) (eC (.int 1))) lNil)) (eCall 1 f__law_check (lCons (eBin ixD (eVar 4) (eC (.int 2))) lNil)))) sBreak sNil) (sSeq (sExpr (eApp (eVar 1) (eFrz (eBin ixD (eVar 4) (eC (.int 2)))))) (sAug 2 iaddD (eBin addD (eB lenG (lCons (eVar 3) lNil)) (eC (.int 1))))))))) (sRet (eTup (lCons (eB tupG (lCons (eVar 1) lNil)) (lCons (eVar 2) lNil))))))
noncomputable def f__law_unframed : FD := runDef 6 1 b__law_unframed
theorem sc__law_text : FnScope ["bag", "turn"] ["bag"] (defScope (top 31)) := ⟨rfl, rfl, rfl, by decide +kernel, rfl, by decide +kernel, by decide +kernel⟩
noncomputable def b__law_text : SF := (sRet (eMet joinG (eC (.str (PySem.Str.ofString ""))) (lCons (eFz (mLc (iRange1 (lCons (eCall 2 f__law_some (lCons (eVar 0) (lCons (eFz (mLst (lCons (eC (.int 0)) (lCons (eC (.int 1)) (lCons (eC (.int 5)) (lCons (eC (.int 12)) (lCons (eC (.int 30)) lNil))))))) lNil))) lNil)) (gNm 1) bYes (eCall 2 f__law_some (lCons (eVar 0) (lCons (eFz (mSigns (lCons (eC (.str (PySem.Str.ofString " 019abz"))) lNil))) lNil))) [1])) lNil)))
noncomputable def f__law_text : FD := runDef 2 1 b__law_text
theorem sc__law_bent : FnScope ["bag", "data", "at", "signs"] ["bag", "data"] (defScope (top 32)) := ⟨rfl, rfl, rfl, by decide +kernel, rfl, by decide +kernel, by decide +kernel⟩
noncomputable def b__law_bent : SF := (sSeq (sSet 2 (eCall 2 f__law_take (lCons (eVar 0) (lCons (eBin addD (eB lenG (lCons (eVar 1) lNil)) (eC (.int 1))) lNil)))) (sSeq (sSet 3 (eFz (mLst (lCons (eC (.str (PySem.Str.ofString ""))) (lCons (eC (.str (PySem.Str.ofString "a"))) (lCons (eC (.str (PySem.Str.ofString "0"))) (lCons (eC (.str (PySem.Str.ofString ":"))) (lCons (eC (.str (PySem.Str.ofString "\n"))) (lCons (eC (.str (PySem.Str.ofString "A"))) (lCons (eC (.str (PySem.Str.ofString " "))) (lCons (eC (.str (PySem.Str.ofString "-"))) (lCons (eC (.str (PySem.Str.ofString "1:"))) lNil)))))))))))) (sRet (eBin addD (eBin addD (eSl (eVar 1) oNon (oSom (eVar 2))) (eCall 2 f__law_some (lCons (eVar 0) (lCons (eVar 3) lNil)))) (eSl (eVar 1) (oSom (eBin addD (eVar 2) (eCall 2 f__law_take (lCons (eVar 0) (lCons (eC (.int 2)) lNil))))) oNon)))))
noncomputable def f__law_bent : FD := runDef 4 2 b__law_bent
theorem sc_law : FnScope ["script", "bag", "turn", "texts", "frames", "data", "many", "whole", "again", "odd", "text", "at", "sign", "other", "entries", "one", "entry"] ["script"] (defScope (top 33)) := ⟨rfl, rfl, rfl, by decide +kernel, rfl, by decide +kernel, by decide +kernel⟩
noncomputable def b_law : SF := (sSeq (sSet 1 (eCall 1 f__law_bag (lCons (eVar 0) lNil))) (sSeq (sFor (iRange1 (lCons (eC (.int 5)) lNil)) (gNm 2) (sSeq (sSet 3 (eFz (mLc (iRange1 (lCons (eCall 2 f__law_take (lCons (eVar 1) (lCons (eC (.int 5)) lNil))) lNil)) (gNm 8) bYes (eCall 1 f__law_text (lCons (eVar 1) lNil)) [8]))) (sSeq (sSet 4 (eFz (mLc (iVal (eVar 3)) (gNm 10) bYes (eCall 1 f__law_framed (lCons (eVar 10) lNil)) [10]))) (sSeq (sSet 5 (eMet joinG (eC (.str (PySem.Str.ofString ""))) (lCons (eVar 4) lNil))) (sSeq (sIf (tNotB (tTru (eCall 2 f__law_alike (lCons (eFz (mLst (lCons (eFz (mLc (iVal (eVar 3)) (gNm 10) bYes (eCall 1 f_check_of (lCons (eVar 10) lNil)) [10])) (lCons (eFz (mLc (iVal (eVar 3)) (gNm 10) bYes (eCall 1 f_framed (lCons (eVar 10) lNil)) [10])) lNil)))) (lCons (eFz (mLst (lCons (eFz (mLc (iVal (eVar 3)) (gNm 10) bYes (eCall 1 f__law_check (lCons (eVar 10) lNil)) [10])) (lCons (eVar 4) lNil)))) lNil))))) (sRet (eC (.bool false))) sNil) (sSeq (sIf (tNotB (tTru (eCall 2 f__law_alike (lCons (eFz (mLst (lCons (eCall 1 f_unframed (lCons (eVar 5) lNil)) (lCons (eCall 1 f_is_whole (lCons (eVar 5) lNil)) lNil)))) (lCons (eFz (mLst (lCons (eTup (lCons (eB tupG (lCons (eVar 3) lNil)) (lCons (eB lenG (lCons (eVar 5) lNil)) lNil))) (lCons (eC (.bool true)) lNil)))) lNil))))) (sRet (eC (.bool false))) sNil) (sSeq (sFor (iRange1 (lCons (eBin addD (eB lenG (lCons (eVar 5) lNil)) (eC (.int 1))) lNil)) (gNm 6) (sSeq (sSet 7 (eBin ixD (eFz (mLc (iRange1 (lCons (eBin addD (eB lenG (lCons (eVar 4) lNil)) (eC (.int 1))) lNil)) (gNm 11) (tCmpB leD (eB sumG (lCons (eFz (mLc (iVal (eSl (eVar 4) oNon (oSom (eVar 11)))) (gNm 15) bYes (eB lenG (lCons (eVar 15) lNil)) [15])) lNil)) (eVar 6)) (eVar 11) [11])) (eB negG (lCons (eC (.int 1)) lNil)))) (sIf (tNotB (tTru (eCall 2 f__law_alike (lCons (eCall 1 f_unframed (lCons (eSl (eVar 5) oNon (oSom (eVar 6))) lNil)) (lCons (eTup (lCons (eB tupG (lCons (eSl (eVar 3) oNon (oSom (eVar 7))) lNil)) (lCons (eB sumG (lCons (eFz (mLc (iVal (eSl (eVar 4) oNon (oSom (eVar 7)))) (gNm 15) bYes (eB lenG (lCons (eVar 15) lNil)) [15])) lNil)) lNil))) lNil))))) (sRet (eC (.bool false))) sNil))) (sSeq (sFor (iRange1 (lCons (eC (.int 12)) lNil)) (gNm 8) (sSeq (sSet 9 (eCall 2 f__law_bent (lCons (eVar 1) (lCons (eVar 5) lNil)))) (sIf (tNotB (tTru (eCall 2 f__law_alike (lCons (eFz (mLst (lCons (eCall 1 f_unframed (lCons (eVar 9) lNil)) (lCons (eCall 1 f_is_whole (lCons (eVar 9) lNil)) lNil)))) (lCons (eFz (mLst (lCons (eCall 1 f__law_unframed (lCons (eVar 9) lNil)) (lCons (eBin eqD (eBin ixD (eCall 1 f__law_unframed (lCons (eVar 9) lNil)) (eC (.int 1))) (eB lenG (lCons (eVar 9) lNil))) lNil)))) lNil))))) (sRet (eC (.bool false))) sNil))) (sFor (iVal (eVar 3)) (gNm 10) (sSeq (sSet 11 (eCall 2 f__law_take (lCons (eVar 1) (lCons (eB maxG (lCons (eC (.int 1)) (lCons (eB lenG (lCons (eVar 10) lNil)) lNil))) lNil)))) (sFor (iVal (eC (.str (PySem.Str.ofString "0b z")))) (gNm 12) (sSeq (sSet 13 (eBin addD (eBin addD (eSl (eVar 10) oNon (oSom (eVar 11))) (eVar 12)) (eSl (eVar 10) (oSom (eBin addD (eVar 11) (eC (.int 1)))) oNon))) (sIf (tAndB (tCmpB eqD (eB lenG (lCons (eVar 13) lNil)) (eB lenG (lCons (eVar 10) lNil))) (tAndB (tCmpB neD (eVar 13) (eVar 10)) (tCmpB eqD (eCall 1 f_check_of (lCons (eVar 13) lNil)) (eCall 1 f_check_of (lCons (eVar 10) lNil))))) (sRet (eC (.bool false))) sNil))))))))))))) (sSeq (sSet 14 (eFz (mLst (lCons (eTup (lCons (eC (.str (PySem.Str.ofString "sale"))) (lCons (eTup (lCons (eC (.int 2)) (lCons (eC (.int 0)) lNil))) lNil))) (lCons (eTup (lCons (eC (.str (PySem.Str.ofString "back"))) (lCons (eC (.int 3)) (lCons (eTup (lCons (eC (.int 0)) (lCons (eC (.int 1)) lNil))) lNil)))) (lCons (eTup (lCons (eC (.str (PySem.Str.ofString "single"))) (lCons (eC (.str (PySem.Str.ofString "tea"))) (lCons (eC (.int 120)) lNil)))) (lCons (eTup (lCons (eC (.str (PySem.Str.ofString "deal"))) (lCons (eTup (lCons (eC (.int 2)) (lCons (eC (.int 1)) lNil))) (lCons (eC (.int 95)) lNil)))) (lCons (eTup (lCons (eC (.str (PySem.Str.ofString "drop"))) (lCons (eTup (lCons (eC (.int 0)) (lCons (eC (.int 12)) lNil))) lNil))) lNil)))))))) (sRet (eCall 2 f__law_alike (lCons (eFz (mLc (iVal (eVar 14)) (gNm 16) bYes (eCall 1 f_entry_text (lCons (eVar 16) lNil)) [16])) (lCons (eFz (mLst (lCons (eC (.str (PySem.Str.ofString "sale 2 0"))) (lCons (eC (.str (PySem.Str.ofString "back 3 0 1"))) (lCons (eC (.str (PySem.Str.ofString "single tea 120"))) (lCons (eC (.str (PySem.Str.ofString "deal 95 2 1"))) (lCons (eC (.str (PySem.Str.ofString "drop 0 12"))) lNil))))))) lNil)))))))
noncomputable def f_law : FD := runDef 17 1 b_law
structure Txt (P : Program) (w : World) (K : PySem.W.Frag) (mg : Str → Option Value) : Prop where
  b_abs : mg "abs" = none
  b_all : mg "all" = none
  b_bool : mg "bool" = none
  b_int : mg "int" = none
  b_isinstance : mg "isinstance" = none
  b_len : mg "len" = none
  b_list : mg "list" = none
  b_max : mg "max" = none
  b_range : mg "range" = none
  b_str : mg "str" = none
  b_sum : mg "sum" = none
  b_tuple : mg "tuple" = none
  b_zip : mg "zip" = none
  g_SIGNS : Gv K mg "SIGNS" k_SIGNS
  g_DIGITS : Gv K mg "DIGITS" k_DIGITS
  g_FACTOR : Gv K mg "FACTOR" k_FACTOR
  g_MODULUS : Gv K mg "MODULUS" k_MODULUS
  g_MARK : Gv K mg "MARK" k_MARK
  g_END : Gv K mg "END" k_END
  g_MOST_FIGURES : Gv K mg "MOST_FIGURES" k_MOST_FIGURES
  g_SALE : Gv K mg "SALE" k_SALE
  g_BACK : Gv K mg "BACK" k_BACK
  g_SINGLE : Gv K mg "SINGLE" k_SINGLE
  g_DROP : Gv K mg "DROP" k_DROP
section
variable {P : Program} {w : World} {K : PySem.W.Frag} {mg : Str → Option Value} {base : Heap}
theorem fn_is_inner (T : Txt P w K mg)  {f : Addr} {fd : FuncData} (F : Fun K "is_inner" "is_inner" (top 8) f fd) (hm : mg "is_inner" = some (.ref f)) (hb : Binds K fd ["text"] []) : Fn P w K mg base 1 "is_inner" 1 f_is_inner :=
  Fn.mk' F sc_is_inner hm hb fun cdv A outer s H E hr => by
    have hu : (A.deeper (envOfC "is_inner" (defScope (top 8)) s.heap.objs.size f cdv)).units + 64 < cLine := hr.units
    have tk : Takes (cxOf (L2.CX P w) P w K mg base ["text", "sign"] "is_inner" (defScope (top 8)) f cdv A outer s H E) (fun cls d _ H => E cls d H) := takes_of rfl rfl rfl rfl
    exact (ds_one (ds_ret (de_blt (cp_all rfl) rfl T.b_all boot_all (da_cons (de_fz (dm_lc rfl sc_is_inner.nd (di_val (de_var (pv 0))) (own := [("sign", 1)]) (blkOk_by (by kernel_rfl)) (by decide) (fun _ _ _ _ _ => (dg_name (pg_name sc_is_inner.nd (i := 1) rfl (by first | exact .inl rfl | exact .inr rfl)))) (fun _ _ _ _ _ => dts_nil) (fun _ _ _ _ _ => (de_cmp op_inD (de_var (pv 1)) (de_glob T.g_SIGNS rfl))))) da_nil))))
theorem fn_check_of (T : Txt P w K mg)  {f : Addr} {fd : FuncData} (F : Fun K "check_of" "check_of" (top 9) f fd) (hm : mg "check_of" = some (.ref f)) (hb : Binds K fd ["text"] []) : Fn P w K mg base 1 "check_of" 1 f_check_of :=
  Fn.mk' F sc_check_of hm hb fun cdv A outer s H E hr => by
    have hu : (A.deeper (envOfC "check_of" (defScope (top 9)) s.heap.objs.size f cdv)).units + 64 < cLine := hr.units
    have tk : Takes (cxOf (L2.CX P w) P w K mg base ["text", "found", "sign"] "check_of" (defScope (top 9)) f cdv A outer s H E) (fun cls d _ H => E cls d H) := takes_of rfl rfl rfl rfl
    exact (ds_cons (ds_set sc_check_of.nd (i := 1) rfl (by first | exact .inl rfl | exact .inr rfl) de_int) (ds_cons (ds_for (passes_of rfl) rfl (di_val (de_var (pv 0))) (dg_name (pg_name sc_check_of.nd (i := 2) rfl (by first | exact .inl rfl | exact .inr rfl))) (ds_one (ds_set sc_check_of.nd (i := 1) rfl (by first | exact .inl rfl | exact .inr rfl) (de_bin op_modD (de_bin op_addD (de_bin op_addD (de_bin op_mulD (de_var (pv 1)) (de_glob T.g_FACTOR rfl)) (de_met PySem.F.slot_str_index PySem.F.type_str_index mp_index (de_glob T.g_SIGNS rfl) (da_cons (de_var (pv 2)) da_nil))) de_int) (de_glob T.g_MODULUS rfl))))) (ds_one (ds_ret (de_var (pv 1))))))
theorem fn_framed (T : Txt P w K mg) (F_check_of : Fn P w K mg base 1 "check_of" 1 f_check_of) {f : Addr} {fd : FuncData} (F : Fun K "framed" "framed" (top 10) f fd) (hm : mg "framed" = some (.ref f)) (hb : Binds K fd ["text"] []) : Fn P w K mg base 2 "framed" 1 f_framed :=
  Fn.mk' F sc_framed hm hb fun cdv A outer s H E hr => by
    have hu : (A.deeper (envOfC "framed" (defScope (top 10)) s.heap.objs.size f cdv)).units + 64 < cLine := hr.units
    have tk : Takes (cxOf (L2.CX P w) P w K mg base ["text"] "framed" (defScope (top 10)) f cdv A outer s H E) (fun cls d _ H => E cls d H) := takes_of rfl rfl rfl rfl
    exact (ds_one (ds_ret (de_bin op_addD (de_met PySem.F.slot_str_join PySem.F.type_str_join mp_join (de_glob T.g_MARK rfl) (da_cons (de_fz (dm_lst (da_cons (de_bty cp_str rfl T.b_str boot_str (da_cons (de_blt cp_len rfl T.b_len boot_len (da_cons (de_var (pv 0)) da_nil)) da_nil)) (da_cons (de_bty cp_str rfl T.b_str boot_str (da_cons (de_call (F_check_of.mono (by decide : 1 ≤ 1)) hr tk rfl (da_cons (de_var (pv 0)) da_nil)) da_nil)) (da_cons (de_var (pv 0)) da_nil))))) da_nil)) (de_glob T.g_END rfl))))
theorem fn_is_number (T : Txt P w K mg)  {f : Addr} {fd : FuncData} (F : Fun K "is_number" "is_number" (top 11) f fd) (hm : mg "is_number" = some (.ref f)) (hb : Binds K fd ["word"] []) : Fn P w K mg base 1 "is_number" 1 f_is_number :=
  Fn.mk' F sc_is_number hm hb fun cdv A outer s H E hr => by
    have hu : (A.deeper (envOfC "is_number" (defScope (top 11)) s.heap.objs.size f cdv)).units + 64 < cLine := hr.units
    have tk : Takes (cxOf (L2.CX P w) P w K mg base ["word", "sign"] "is_number" (defScope (top 11)) f cdv A outer s H E) (fun cls d _ H => E cls d H) := takes_of rfl rfl rfl rfl
    exact (ds_cons (ds_if (PW.pt (dw_or (dt_not (dt_ch op_leD op_leD de_int (de_blt cp_len rfl T.b_len boot_len (da_cons (de_var (pv 0)) da_nil)) (de_glob T.g_MOST_FIGURES rfl))) (dw_or1 (dt_not (dt_tru (de_blt (cp_all rfl) rfl T.b_all boot_all (da_cons (de_fz (dm_lc rfl sc_is_number.nd (di_val (de_var (pv 0))) (own := [("sign", 1)]) (blkOk_by (by kernel_rfl)) (by decide) (fun _ _ _ _ _ => (dg_name (pg_name sc_is_number.nd (i := 1) rfl (by first | exact .inl rfl | exact .inr rfl)))) (fun _ _ _ _ _ => dts_nil) (fun _ _ _ _ _ => (de_cmp op_inD (de_var (pv 1)) (de_glob T.g_DIGITS rfl))))) da_nil))))))) (ds_one (ds_ret de_bl)) ds_nil) (ds_one (ds_ret (de_or (de_cmp (op_eqDD hu) (de_var (pv 0)) de_str) (de_one (de_cmp (op_neDD hu) (de_ix (de_var (pv 0)) de_int) de_str))))))
theorem fn_text_in (T : Txt P w K mg) (F_check_of : Fn P w K mg base 1 "check_of" 1 f_check_of) (F_is_inner : Fn P w K mg base 1 "is_inner" 1 f_is_inner) (F_is_number : Fn P w K mg base 1 "is_number" 1 f_is_number) {f : Addr} {fd : FuncData} (F : Fun K "text_in" "text_in" (top 12) f fd) (hm : mg "text_in" = some (.ref f)) (hb : Binds K fd ["line"] []) : Fn P w K mg base 2 "text_in" 1 f_text_in :=
  Fn.mk' F sc_text_in hm hb fun cdv A outer s H E hr => by
    have hu : (A.deeper (envOfC "text_in" (defScope (top 12)) s.heap.objs.size f cdv)).units + 64 < cLine := hr.units
    have tk : Takes (cxOf (L2.CX P w) P w K mg base ["line", "parts", "is_right"] "text_in" (defScope (top 12)) f cdv A outer s H E) (fun cls d _ H => E cls d H) := takes_of rfl rfl rfl rfl
    exact (ds_cons (ds_set sc_text_in.nd (i := 1) rfl (by first | exact .inl rfl | exact .inr rfl) (de_met PySem.F.slot_str_split PySem.F.type_str_split mp_split (de_var (pv 0)) (da_cons (de_glob T.g_MARK rfl) da_nil))) (ds_cons (ds_if (PW.pt (dw_or (dt_cmp (op_neDD hu) (de_blt cp_len rfl T.b_len boot_len (da_cons (de_var (pv 1)) da_nil)) de_int) (dw_or (dt_not (dt_tru (de_call (F_is_number.mono (by decide : 1 ≤ 1)) hr tk rfl (da_cons (de_ix (de_var (pv 1)) de_int) da_nil)))) (dw_or (dt_not (dt_tru (de_call (F_is_number.mono (by decide : 1 ≤ 1)) hr tk rfl (da_cons (de_ix (de_var (pv 1)) de_int) da_nil)))) (dw_or1 (dt_not (dt_tru (de_call (F_is_inner.mono (by decide : 1 ≤ 1)) hr tk rfl (da_cons (de_ix (de_var (pv 1)) de_int) da_nil))))))))) (ds_one (ds_ret de_non)) ds_nil) (ds_cons (ds_set sc_text_in.nd (i := 2) rfl (by first | exact .inl rfl | exact .inr rfl) (de_and (de_cmp (op_eqDD hu) (de_bty cp_int rfl T.b_int boot_int (da_cons (de_ix (de_var (pv 1)) de_int) da_nil)) (de_blt cp_len rfl T.b_len boot_len (da_cons (de_ix (de_var (pv 1)) de_int) da_nil))) (de_one (de_cmp (op_eqDD hu) (de_bty cp_int rfl T.b_int boot_int (da_cons (de_ix (de_var (pv 1)) de_int) da_nil)) (de_call (F_check_of.mono (by decide : 1 ≤ 1)) hr tk rfl (da_cons (de_ix (de_var (pv 1)) de_int) da_nil)))))) (ds_one (ds_ret (de_if (dt_tru (de_var (pv 2))) (de_ix (de_var (pv 1)) de_int) de_non))))))
theorem fn_unframed (T : Txt P w K mg) (F_text_in : Fn P w K mg base 2 "text_in" 1 f_text_in) {f : Addr} {fd : FuncData} (F : Fun K "unframed" "unframed" (top 13) f fd) (hm : mg "unframed" = some (.ref f)) (hb : Binds K fd ["data"] []) : Fn P w K mg base 3 "unframed" 1 f_unframed :=
  Fn.mk' F sc_unframed hm hb fun cdv A outer s H E hr => by
    have hu : (A.deeper (envOfC "unframed" (defScope (top 13)) s.heap.objs.size f cdv)).units + 64 < cLine := hr.units
    have tk : Takes (cxOf (L2.CX P w) P w K mg base ["data", "found", "many", "line", "text"] "unframed" (defScope (top 13)) f cdv A outer s H E) (fun cls d _ H => E cls d H) := takes_of rfl rfl rfl rfl
    exact (ds_cons (ds_par (i := 1) (j := 2) rfl sc_unframed.nd rfl rfl (by decide) rfl rfl (de_own (dm_lst da_nil)) de_int) (ds_cons (ds_for (passes_of rfl) rfl (di_val (de_sl (de_met PySem.F.slot_str_split PySem.F.type_str_split mp_split (de_var (pv 0)) (da_cons (de_glob T.g_END rfl) da_nil)) do_non (do_som (un_negD de_int)))) (dg_name (pg_name sc_unframed.nd (i := 3) rfl (by first | exact .inl rfl | exact .inr rfl))) (ds_cons (ds_set sc_unframed.nd (i := 4) rfl (by first | exact .inl rfl | exact .inr rfl) (de_call (F_text_in.mono (by decide : 2 ≤ 2)) hr tk rfl (da_cons (de_var (pv 3)) da_nil))) (ds_cons (ds_if (dt_cmp op_isNoneD (de_var (pv 4)) de_non) (ds_one ds_break) ds_nil) (ds_cons (ds_expr (de_append (de_var (pv 1)) (de_var (pv 4)))) (ds_one (ds_aug sc_unframed.nd (i := 2) rfl (by first | exact .inl rfl | exact .inr rfl) (de_bin op_addD (de_blt cp_len rfl T.b_len boot_len (da_cons (de_var (pv 3)) da_nil)) de_int) ipd_iadd)))))) (ds_one (ds_ret (de_tup (da_cons (de_bty cp_tup rfl T.b_tuple boot_tuple (da_cons (de_var (pv 1)) da_nil)) (da_cons (de_var (pv 2)) da_nil)))))))
theorem fn_is_whole (T : Txt P w K mg) (F_unframed : Fn P w K mg base 3 "unframed" 1 f_unframed) {f : Addr} {fd : FuncData} (F : Fun K "is_whole" "is_whole" (top 14) f fd) (hm : mg "is_whole" = some (.ref f)) (hb : Binds K fd ["data"] []) : Fn P w K mg base 4 "is_whole" 1 f_is_whole :=
  Fn.mk' F sc_is_whole hm hb fun cdv A outer s H E hr => by
    have hu : (A.deeper (envOfC "is_whole" (defScope (top 14)) s.heap.objs.size f cdv)).units + 64 < cLine := hr.units
    have tk : Takes (cxOf (L2.CX P w) P w K mg base ["data"] "is_whole" (defScope (top 14)) f cdv A outer s H E) (fun cls d _ H => E cls d H) := takes_of rfl rfl rfl rfl
    exact (ds_one (ds_ret (de_cmp (op_eqDD hu) (de_ix (de_call (F_unframed.mono (by decide : 3 ≤ 3)) hr tk rfl (da_cons (de_var (pv 0)) da_nil)) de_int) (de_blt cp_len rfl T.b_len boot_len (da_cons (de_var (pv 0)) da_nil)))))
theorem fn_spaced (T : Txt P w K mg)  {f : Addr} {fd : FuncData} (F : Fun K "spaced" "spaced" (top 20) f fd) (hm : mg "spaced" = some (.ref f)) (hb : Binds K fd ["words"] []) : Fn P w K mg base 1 "spaced" 1 f_spaced :=
  Fn.mk' F sc_spaced hm hb fun cdv A outer s H E hr => by
    have hu : (A.deeper (envOfC "spaced" (defScope (top 20)) s.heap.objs.size f cdv)).units + 64 < cLine := hr.units
    have tk : Takes (cxOf (L2.CX P w) P w K mg base ["words", "word"] "spaced" (defScope (top 20)) f cdv A outer s H E) (fun cls d _ H => E cls d H) := takes_of rfl rfl rfl rfl
    exact (ds_one (ds_ret (de_met PySem.F.slot_str_join PySem.F.type_str_join mp_join de_str (da_cons (de_fz (dm_lc rfl sc_spaced.nd (di_val (de_var (pv 0))) (own := [("word", 1)]) (blkOk_by (by kernel_rfl)) (by decide) (fun _ _ _ _ _ => (dg_name (pg_name sc_spaced.nd (i := 1) rfl (by first | exact .inl rfl | exact .inr rfl)))) (fun _ _ _ _ _ => dts_nil) (fun _ _ _ _ _ => (de_bty cp_str rfl T.b_str boot_str (da_cons (de_var (pv 1)) da_nil))))) da_nil))))
theorem fn_entry_text (T : Txt P w K mg) (F_spaced : Fn P w K mg base 1 "spaced" 1 f_spaced) {f : Addr} {fd : FuncData} (F : Fun K "entry_text" "entry_text" (top 21) f fd) (hm : mg "entry_text" = some (.ref f)) (hb : Binds K fd ["entry"] []) : Fn P w K mg base 2 "entry_text" 1 f_entry_text :=
  Fn.mk' F sc_entry_text hm hb fun cdv A outer s H E hr => by
    have hu : (A.deeper (envOfC "entry_text" (defScope (top 21)) s.heap.objs.size f cdv)).units + 64 < cLine := hr.units
    have tk : Takes (cxOf (L2.CX P w) P w K mg base ["entry", "word"] "entry_text" (defScope (top 21)) f cdv A outer s H E) (fun cls d _ H => E cls d H) := takes_of rfl rfl rfl rfl
    exact (ds_cons (ds_set sc_entry_text.nd (i := 1) rfl (by first | exact .inl rfl | exact .inr rfl) (de_ix (de_var (pv 0)) de_int)) (ds_cons (ds_if (PW.pt (dw_or (dt_cmp (op_eqDD hu) (de_var (pv 1)) (de_glob T.g_SALE rfl)) (dw_or1 (dt_cmp (op_eqDD hu) (de_var (pv 1)) (de_glob T.g_DROP rfl))))) (ds_one (ds_ret (de_call (F_spaced.mono (by decide : 1 ≤ 1)) hr tk rfl (da_cons (de_tup (da_cons (de_var (pv 1)) (da_star (de_ix (de_var (pv 0)) de_int) da_nil))) da_nil)))) ds_nil) (ds_cons (ds_if (dt_cmp (op_eqDD hu) (de_var (pv 1)) (de_glob T.g_BACK rfl)) (ds_one (ds_ret (de_call (F_spaced.mono (by decide : 1 ≤ 1)) hr tk rfl (da_cons (de_tup (da_cons (de_var (pv 1)) (da_cons (de_ix (de_var (pv 0)) de_int) (da_star (de_ix (de_var (pv 0)) de_int) da_nil)))) da_nil)))) ds_nil) (ds_one (ds_ret (de_if (dt_cmp (op_eqDD hu) (de_var (pv 1)) (de_glob T.g_SINGLE rfl)) (de_call (F_spaced.mono (by decide : 1 ≤ 1)) hr tk rfl (da_cons (de_var (pv 0)) da_nil)) (de_call (F_spaced.mono (by decide : 1 ≤ 1)) hr tk rfl (da_cons (de_tup (da_cons (de_var (pv 1)) (da_cons (de_ix (de_var (pv 0)) de_int) (da_star (de_ix (de_var (pv 0)) de_int) da_nil)))) da_nil))))))))
theorem fn__law_bag (T : Txt P w K mg)  {f : Addr} {fd : FuncData} (F : Fun K "_law_bag" "_law_bag" (top 23) f fd) (hm : mg "_law_bag" = some (.ref f)) (hb : Binds K fd ["script"] []) : Fn P w K mg base 1 "_law_bag" 1 f__law_bag :=
  Fn.mk' F sc__law_bag hm hb fun cdv A outer s H E hr => by
    have hu : (A.deeper (envOfC "_law_bag" (defScope (top 23)) s.heap.objs.size f cdv)).units + 64 < cLine := hr.units
    have tk : Takes (cxOf (L2.CX P w) P w K mg base ["script", "cell"] "_law_bag" (defScope (top 23)) f cdv A outer s H E) (fun cls d _ H => E cls d H) := takes_of rfl rfl rfl rfl
    exact (ds_one (ds_ret (de_own (dm_lst (da_cons de_int (da_cons de_int (da_cons de_int (da_cons (de_fz (dm_lc rfl sc__law_bag.nd (di_val (de_sl (de_var (pv 0)) do_non (do_som de_int))) (own := [("cell", 1)]) (blkOk_by (by kernel_rfl)) (by decide) (fun _ _ _ _ _ => (dg_name (pg_name sc__law_bag.nd (i := 1) rfl (by first | exact .inl rfl | exact .inr rfl)))) (fun _ _ _ _ _ => dts_nil) (fun _ _ _ _ _ => (de_blt cp_abs rfl T.b_abs boot_abs (da_cons (de_var (pv 1)) da_nil))))) da_nil))))))))
theorem fn__law_take (T : Txt P w K mg)  {f : Addr} {fd : FuncData} (F : Fun K "_law_take" "_law_take" (top 24) f fd) (hm : mg "_law_take" = some (.ref f)) (hb : Binds K fd ["bag", "many"] []) : Fn P w K mg base 1 "_law_take" 2 f__law_take :=
  Fn.mk' F sc__law_take hm hb fun cdv A outer s H E hr => by
    have hu : (A.deeper (envOfC "_law_take" (defScope (top 24)) s.heap.objs.size f cdv)).units + 64 < cLine := hr.units
    have tk : Takes (cxOf (L2.CX P w) P w K mg base ["bag", "many", "cell", "stirred", "value", "begin", "second"] "_law_take" (defScope (top 24)) f cdv A outer s H E) (fun cls d _ H => E cls d H) := takes_of rfl rfl rfl rfl
    exact (ds_cons (ds_if (dt_cmp (op_eqDD hu) (de_ix (de_var (pv 0)) de_int) de_int) (ds_cons (ds_set sc__law_take.nd (i := 2) rfl (by first | exact .inl rfl | exact .inr rfl) (de_ix (de_bin op_addD (de_sl (de_ix (de_var (pv 0)) de_int) (do_som (de_ix (de_var (pv 0)) de_int)) do_non) (de_fz (dm_lst (da_cons de_int da_nil)))) de_int)) (ds_cons (ds_augI (de_var (pv 0)) de_int de_int ipd_iadd) (ds_cons (ds_if (dt_cmp op_geD (de_var (pv 2)) (de_bin op_powD de_int de_int)) (ds_one (ds_put (de_var (pv 0)) de_int (de_var (pv 2)))) ds_nil) (ds_cons (ds_set sc__law_take.nd (i := 3) rfl (by first | exact .inl rfl | exact .inr rfl) (de_bin op_addD (de_bin op_addD (de_bin op_mulD (de_ix (de_var (pv 0)) de_int) de_int) (de_bin op_modD (de_bty cp_int rfl T.b_int boot_int (da_cons (de_var (pv 2)) da_nil)) de_int)) (de_bin op_mulD de_int (de_ix (de_var (pv 0)) de_int)))) (ds_one (ds_put (de_var (pv 0)) de_int (de_bin op_modD (de_bty cp_int rfl T.b_int boot_int (da_cons (de_var (pv 3)) da_nil)) de_int))))))) ds_nil) (ds_cons (ds_if (dt_cmp op_gtD (de_ix (de_var (pv 0)) de_int) de_int) (ds_cons (ds_set sc__law_take.nd (i := 4) rfl (by first | exact .inl rfl | exact .inr rfl) (de_bin op_modD (de_bty cp_int rfl T.b_int boot_int (da_cons (de_ix (de_var (pv 0)) de_int) da_nil)) (de_var (pv 1)))) (ds_cons (ds_put (de_var (pv 0)) de_int (de_bin op_fdivD (de_bty cp_int rfl T.b_int boot_int (da_cons (de_ix (de_var (pv 0)) de_int) da_nil)) (de_var (pv 1)))) (ds_one (ds_ret (de_var (pv 4)))))) ds_nil) (ds_cons (ds_set sc__law_take.nd (i := 5) rfl (by first | exact .inl rfl | exact .inr rfl) (de_bin op_modD (de_bty cp_int rfl T.b_int boot_int (da_cons (de_bin op_mulD (de_bin op_addD (de_ix (de_var (pv 0)) de_int) de_int) de_int) da_nil)) de_int)) (ds_cons (ds_set sc__law_take.nd (i := 6) rfl (by first | exact .inl rfl | exact .inr rfl) (de_bin op_modD (de_bty cp_int rfl T.b_int boot_int (da_cons (de_bin op_mulD (de_bin op_modD (de_bty cp_int rfl T.b_int boot_int (da_cons (de_bin op_mulD (de_var (pv 5)) (de_var (pv 5))) da_nil)) de_int) de_int) da_nil)) de_int)) (ds_one (ds_ret (de_bin op_modD (de_bty cp_int rfl T.b_int boot_int (da_cons (de_bin op_fdivD (de_var (pv 6)) de_int) da_nil)) (de_var (pv 1)))))))))
theorem fn__law_some (T : Txt P w K mg) (F__law_take : Fn P w K mg base 1 "_law_take" 2 f__law_take) {f : Addr} {fd : FuncData} (F : Fun K "_law_some" "_law_some" (top 25) f fd) (hm : mg "_law_some" = some (.ref f)) (hb : Binds K fd ["bag", "things"] []) : Fn P w K mg base 2 "_law_some" 2 f__law_some :=
  Fn.mk' F sc__law_some hm hb fun cdv A outer s H E hr => by
    have hu : (A.deeper (envOfC "_law_some" (defScope (top 25)) s.heap.objs.size f cdv)).units + 64 < cLine := hr.units
    have tk : Takes (cxOf (L2.CX P w) P w K mg base ["bag", "things"] "_law_some" (defScope (top 25)) f cdv A outer s H E) (fun cls d _ H => E cls d H) := takes_of rfl rfl rfl rfl
    exact (ds_one (ds_ret (de_ix (de_var (pv 1)) (de_call (F__law_take.mono (by decide : 1 ≤ 1)) hr tk rfl (da_cons (de_var (pv 0)) (da_cons (de_blt cp_len rfl T.b_len boot_len (da_cons (de_var (pv 1)) da_nil)) da_nil))))))
theorem fn__law_alike (T : Txt P w K mg)  {f : Addr} {fd : FuncData} (F : Fun K "_law_alike" "_law_alike" (top 26) f fd) (hm : mg "_law_alike" = some (.ref f)) (hb : Binds K fd ["found", "due"] []) : Fn P w K mg base 1 "_law_alike" 2 f__law_alike :=
  Fn.mk' F sc__law_alike hm hb fun cdv A outer s H E hr => by
    have hu : (A.deeper (envOfC "_law_alike" (defScope (top 26)) s.heap.objs.size f cdv)).units + 64 < cLine := hr.units
    have tk : Takes (cxOf (L2.CX P w) P w K mg base ["found", "due", "pairs", "at", "one", "other"] "_law_alike" (defScope (top 26)) f cdv A outer s H E) (fun cls d _ H => E cls d H) := takes_of rfl rfl rfl rfl
    exact (ds_cons (ds_par (i := 2) (j := 3) rfl sc__law_alike.nd rfl rfl (by decide) rfl rfl (de_own (dm_lst (da_cons (de_tup (da_cons (de_var (pv 0)) (da_cons (de_var (pv 1)) da_nil))) da_nil))) de_int) (ds_cons (ds_while (passes_of rfl) (dt_cmp op_ltD (de_var (pv 3)) (de_blt cp_len rfl T.b_len boot_len (da_cons (de_var (pv 2)) da_nil))) (ds_cons (ds_asg (de_ix (de_var (pv 2)) (de_var (pv 3))) (dg_tup rfl (dgs_cons (dg_name (pg_name sc__law_alike.nd (i := 4) rfl (by first | exact .inl rfl | exact .inr rfl))) (dgs_cons (dg_name (pg_name sc__law_alike.nd (i := 5) rfl (by first | exact .inl rfl | exact .inr rfl))) dgs_nil)))) (ds_cons (ds_aug sc__law_alike.nd (i := 3) rfl (by first | exact .inl rfl | exact .inr rfl) de_int ipd_iadd) (ds_cons (ds_if (PW.pt (dw_or (dt_cmp (op_neDD hu) (de_isi rfl T.b_isinstance (de_var (pv 4)) (by decide) (pe_ty rfl T.b_bool boot_bool)) (de_isi rfl T.b_isinstance (de_var (pv 5)) (by decide) (pe_ty rfl T.b_bool boot_bool))) (dw_or1 (dt_cmp (op_neDD hu) (de_isi rfl T.b_isinstance (de_var (pv 4)) (by decide) (pe_ty rfl T.b_str boot_str)) (de_isi rfl T.b_isinstance (de_var (pv 5)) (by decide) (pe_ty rfl T.b_str boot_str)))))) (ds_one (ds_ret de_bl)) ds_nil) (ds_cons (ds_if (dt_cmp (op_neDD hu) (de_isi2 rfl T.b_isinstance (de_var (pv 4)) (by decide) (by decide) (pe_ty rfl T.b_tuple boot_tuple) (pe_ty rfl T.b_list boot_list)) (de_isi2 rfl T.b_isinstance (de_var (pv 5)) (by decide) (by decide) (pe_ty rfl T.b_tuple boot_tuple) (pe_ty rfl T.b_list boot_list))) (ds_one (ds_ret de_bl)) ds_nil) (ds_one (ds_if (dt_tru (de_isi2 rfl T.b_isinstance (de_var (pv 4)) (by decide) (by decide) (pe_ty rfl T.b_tuple boot_tuple) (pe_ty rfl T.b_list boot_list))) (ds_cons (ds_if (PW.pt (dw_or (dt_cmp (op_neDD hu) (de_isi rfl T.b_isinstance (de_var (pv 4)) (by decide) (pe_ty rfl T.b_tuple boot_tuple)) (de_isi rfl T.b_isinstance (de_var (pv 5)) (by decide) (pe_ty rfl T.b_tuple boot_tuple))) (dw_or1 (dt_cmp (op_neDD hu) (de_blt cp_len rfl T.b_len boot_len (da_cons (de_var (pv 4)) da_nil)) (de_blt cp_len rfl T.b_len boot_len (da_cons (de_var (pv 5)) da_nil)))))) (ds_one (ds_ret de_bl)) ds_nil) (ds_one (ds_expr (de_extend (de_var (pv 2)) (dm_listzip rfl rfl T.b_list rfl T.b_zip (da_cons (de_var (pv 4)) (da_cons (de_var (pv 5)) da_nil))))))) (ds_one (ds_if (dt_cmp (op_neDD hu) (de_var (pv 4)) (de_var (pv 5))) (ds_one (ds_ret de_bl)) ds_nil))))))))) (ds_one (ds_ret de_bl))))
theorem fn__law_check (T : Txt P w K mg)  {f : Addr} {fd : FuncData} (F : Fun K "_law_check" "_law_check" (top 27) f fd) (hm : mg "_law_check" = some (.ref f)) (hb : Binds K fd ["text"] []) : Fn P w K mg base 1 "_law_check" 1 f__law_check :=
  Fn.mk' F sc__law_check hm hb fun cdv A outer s H E hr => by
    have hu : (A.deeper (envOfC "_law_check" (defScope (top 27)) s.heap.objs.size f cdv)).units + 64 < cLine := hr.units
    have tk : Takes (cxOf (L2.CX P w) P w K mg base ["text", "found", "sign"] "_law_check" (defScope (top 27)) f cdv A outer s H E) (fun cls d _ H => E cls d H) := takes_of rfl rfl rfl rfl
    exact (ds_cons (ds_set sc__law_check.nd (i := 1) rfl (by first | exact .inl rfl | exact .inr rfl) de_int) (ds_cons (ds_for (passes_of rfl) rfl (di_val (de_var (pv 0))) (dg_name (pg_name sc__law_check.nd (i := 2) rfl (by first | exact .inl rfl | exact .inr rfl))) (ds_one (ds_set sc__law_check.nd (i := 1) rfl (by first | exact .inl rfl | exact .inr rfl) (de_bin op_modD (de_bty cp_int rfl T.b_int boot_int (da_cons (de_bin op_addD (de_bin op_addD (de_bin op_mulD (de_var (pv 1)) de_int) (de_met PySem.F.slot_str_index PySem.F.type_str_index mp_index de_str (da_cons (de_var (pv 2)) da_nil))) de_int) da_nil)) de_int)))) (ds_one (ds_ret (de_var (pv 1))))))
theorem fn__law_framed (T : Txt P w K mg) (F__law_check : Fn P w K mg base 1 "_law_check" 1 f__law_check) {f : Addr} {fd : FuncData} (F : Fun K "_law_framed" "_law_framed" (top 28) f fd) (hm : mg "_law_framed" = some (.ref f)) (hb : Binds K fd ["text"] []) : Fn P w K mg base 2 "_law_framed" 1 f__law_framed :=
  Fn.mk' F sc__law_framed hm hb fun cdv A outer s H E hr => by
    have hu : (A.deeper (envOfC "_law_framed" (defScope (top 28)) s.heap.objs.size f cdv)).units + 64 < cLine := hr.units
    have tk : Takes (cxOf (L2.CX P w) P w K mg base ["text"] "_law_framed" (defScope (top 28)) f cdv A outer s H E) (fun cls d _ H => E cls d H) := takes_of rfl rfl rfl rfl
    exact (ds_one (ds_ret (de_bin op_addD (de_bin op_addD (de_bin op_addD (de_bin op_addD (de_bin op_addD (de_bty cp_str rfl T.b_str boot_str (da_cons (de_blt cp_len rfl T.b_len boot_len (da_cons (de_var (pv 0)) da_nil)) da_nil)) de_str) (de_bty cp_str rfl T.b_str boot_str (da_cons (de_call (F__law_check.mono (by decide : 1 ≤ 1)) hr tk rfl (da_cons (de_var (pv 0)) da_nil)) da_nil))) de_str) (de_var (pv 0))) de_str)))
theorem fn__law_number (T : Txt P w K mg)  {f : Addr} {fd : FuncData} (F : Fun K "_law_number" "_law_number" (top 29) f fd) (hm : mg "_law_number" = some (.ref f)) (hb : Binds K fd ["word"] []) : Fn P w K mg base 1 "_law_number" 1 f__law_number :=
  Fn.mk' F sc__law_number hm hb fun cdv A outer s H E hr => by
    have hu : (A.deeper (envOfC "_law_number" (defScope (top 29)) s.heap.objs.size f cdv)).units + 64 < cLine := hr.units
    have tk : Takes (cxOf (L2.CX P w) P w K mg base ["word", "sign"] "_law_number" (defScope (top 29)) f cdv A outer s H E) (fun cls d _ H => E cls d H) := takes_of rfl rfl rfl rfl
    exact (ds_cons (ds_if (PW.pt (dw_or (dt_not (dt_ch op_leD op_leD de_int (de_blt cp_len rfl T.b_len boot_len (da_cons (de_var (pv 0)) da_nil)) de_int)) (dw_or (dt_cmp (op_neDD hu) (de_fz (dm_lc rfl sc__law_number.nd (di_val (de_var (pv 0))) (own := [("sign", 1)]) (blkOk_by (by kernel_rfl)) (by decide) (fun _ _ _ _ _ => (dg_name (pg_name sc__law_number.nd (i := 1) rfl (by first | exact .inl rfl | exact .inr rfl)))) (fun _ _ _ _ _ => (dts_one (dt_cmp op_notInD (de_var (pv 1)) de_str))) (fun _ _ _ _ _ => de_int))) (de_fz (dm_lst da_nil))) (dw_or1 (PW.pt (dw_and (dt_cmp op_gtD (de_blt cp_len rfl T.b_len boot_len (da_cons (de_var (pv 0)) da_nil)) de_int) (dw_and1 (dt_cmp (op_eqDD hu) (de_ix (de_var (pv 0)) de_int) de_str)))))))) (ds_one (ds_ret de_non)) ds_nil) (ds_one (ds_ret (de_bty cp_int rfl T.b_int boot_int (da_cons (de_var (pv 0)) da_nil)))))
theorem fn__law_unframed (T : Txt P w K mg) (F__law_check : Fn P w K mg base 1 "_law_check" 1 f__law_check) (F__law_number : Fn P w K mg base 1 "_law_number" 1 f__law_number) {f : Addr} {fd : FuncData} (F : Fun K "_law_unframed" "_law_unframed" (top 30) f fd) (hm : mg "_law_unframed" = some (.ref f)) (hb : Binds K fd ["data"] []) : Fn P w K mg base 2 "_law_unframed" 1 f__law_unframed :=
  Fn.mk' F sc__law_unframed hm hb fun cdv A outer s H E hr => by
    have hu : (A.deeper (envOfC "_law_unframed" (defScope (top 30)) s.heap.objs.size f cdv)).units + 64 < cLine := hr.units
    have tk : Takes (cxOf (L2.CX P w) P w K mg base ["data", "found", "many", "line", "parts", "sign"] "_law_unframed" (defScope (top 30)) f cdv A outer s H E) (fun cls d _ H => E cls d H) := takes_of rfl rfl rfl rfl
    exact (ds_cons (ds_par (i := 1) (j := 2) rfl sc__law_unframed.nd rfl rfl (by decide) rfl rfl (de_own (dm_lst da_nil)) de_int) (ds_cons (ds_for (passes_of rfl) rfl (di_val (de_sl (de_met PySem.F.slot_str_split PySem.F.type_str_split mp_split (de_var (pv 0)) (da_cons de_str da_nil)) do_non (do_som (un_negD de_int)))) (dg_name (pg_name sc__law_unframed.nd (i := 3) rfl (by first | exact .inl rfl | exact .inr rfl))) (ds_cons (ds_set sc__law_unframed.nd (i := 4) rfl (by first | exact .inl rfl | exact .inr rfl) (de_met PySem.F.slot_str_split PySem.F.type_str_split mp_split (de_var (pv 3)) (da_cons de_str da_nil))) (ds_cons (ds_if (PW.pt (dw_or (dt_cmp (op_neDD hu) (de_blt cp_len rfl T.b_len boot_len (da_cons (de_var (pv 4)) da_nil)) de_int) (dw_or1 (dt_cmp (op_neDD hu) (de_fz (dm_lc rfl sc__law_unframed.nd (di_val (de_ix (de_var (pv 4)) de_int)) (own := [("sign", 5)]) (blkOk_by (by kernel_rfl)) (by decide) (fun _ _ _ _ _ => (dg_name (pg_name sc__law_unframed.nd (i := 5) rfl (by first | exact .inl rfl | exact .inr rfl)))) (fun _ _ _ _ _ => (dts_one (dt_cmp op_notInD (de_var (pv 5)) de_str))) (fun _ _ _ _ _ => de_int))) (de_fz (dm_lst da_nil)))))) (ds_one ds_break) ds_nil) (ds_cons (ds_if (PW.pt (dw_or (dt_cmp (op_neDD hu) (de_call (F__law_number.mono (by decide : 1 ≤ 1)) hr tk rfl (da_cons (de_ix (de_var (pv 4)) de_int) da_nil)) (de_blt cp_len rfl T.b_len boot_len (da_cons (de_ix (de_var (pv 4)) de_int) da_nil))) (dw_or1 (dt_cmp (op_neDD hu) (de_call (F__law_number.mono (by decide : 1 ≤ 1)) hr tk rfl (da_cons (de_ix (de_var (pv 4)) de_int) da_nil)) (de_call (F__law_check.mono (by decide : 1 ≤ 1)) hr tk rfl (da_cons (de_ix (de_var (pv 4)) de_int) da_nil)))))) (ds_one ds_break) ds_nil) (ds_cons (ds_expr (de_append (de_var (pv 1)) (de_ix (de_var (pv 4)) de_int))) (ds_one (ds_aug sc__law_unframed.nd (i := 2) rfl (by first | exact .inl rfl | exact .inr rfl) (de_bin op_addD (de_blt cp_len rfl T.b_len boot_len (da_cons (de_var (pv 3)) da_nil)) de_int) ipd_iadd))))))) (ds_one (ds_ret (de_tup (da_cons (de_bty cp_tup rfl T.b_tuple boot_tuple (da_cons (de_var (pv 1)) da_nil)) (da_cons (de_var (pv 2)) da_nil)))))))
theorem fn__law_text (T : Txt P w K mg) (F__law_some : Fn P w K mg base 2 "_law_some" 2 f__law_some) {f : Addr} {fd : FuncData} (F : Fun K "_law_text" "_law_text" (top 31) f fd) (hm : mg "_law_text" = some (.ref f)) (hb : Binds K fd ["bag"] []) : Fn P w K mg base 3 "_law_text" 1 f__law_text :=
  Fn.mk' F sc__law_text hm hb fun cdv A outer s H E hr => by
    have hu : (A.deeper (envOfC "_law_text" (defScope (top 31)) s.heap.objs.size f cdv)).units + 64 < cLine := hr.units
    have tk : Takes (cxOf (L2.CX P w) P w K mg base ["bag", "turn"] "_law_text" (defScope (top 31)) f cdv A outer s H E) (fun cls d _ H => E cls d H) := takes_of rfl rfl rfl rfl
    exact (ds_one (ds_ret (de_met PySem.F.slot_str_join PySem.F.type_str_join mp_join de_str (da_cons (de_fz (dm_lc rfl sc__law_text.nd (di_range1 rfl T.b_range (da_cons (de_call (F__law_some.mono (by decide : 2 ≤ 2)) hr tk rfl (da_cons (de_var (pv 0)) (da_cons (de_fz (dm_lst (da_cons de_int (da_cons de_int (da_cons de_int (da_cons de_int (da_cons de_int da_nil))))))) da_nil))) da_nil)) (own := [("turn", 1)]) (blkOk_by (by kernel_rfl)) (by decide) (fun _ _ _ _ _ => (dg_name (pg_name sc__law_text.nd (i := 1) rfl (by first | exact .inl rfl | exact .inr rfl)))) (fun _ _ _ _ _ => dts_nil) (fun _ _ _ _ _ => (de_call (F__law_some.mono (by decide : 2 ≤ 2)) hr takes0 rfl (da_cons (de_var (pv 0)) (da_cons (de_fz (dm_signs rfl rfl T.b_list (da_cons de_str da_nil))) da_nil)))))) da_nil))))
theorem fn__law_bent (T : Txt P w K mg) (F__law_some : Fn P w K mg base 2 "_law_some" 2 f__law_some) (F__law_take : Fn P w K mg base 1 "_law_take" 2 f__law_take) {f : Addr} {fd : FuncData} (F : Fun K "_law_bent" "_law_bent" (top 32) f fd) (hm : mg "_law_bent" = some (.ref f)) (hb : Binds K fd ["bag", "data"] []) : Fn P w K mg base 3 "_law_bent" 2 f__law_bent :=
  Fn.mk' F sc__law_bent hm hb fun cdv A outer s H E hr => by
    have hu : (A.deeper (envOfC "_law_bent" (defScope (top 32)) s.heap.objs.size f cdv)).units + 64 < cLine := hr.units
    have tk : Takes (cxOf (L2.CX P w) P w K mg base ["bag", "data", "at", "signs"] "_law_bent" (defScope (top 32)) f cdv A outer s H E) (fun cls d _ H => E cls d H) := takes_of rfl rfl rfl rfl
    exact (ds_cons (ds_set sc__law_bent.nd (i := 2) rfl (by first | exact .inl rfl | exact .inr rfl) (de_call (F__law_take.mono (by decide : 1 ≤ 2)) hr tk rfl (da_cons (de_var (pv 0)) (da_cons (de_bin op_addD (de_blt cp_len rfl T.b_len boot_len (da_cons (de_var (pv 1)) da_nil)) de_int) da_nil)))) (ds_cons (ds_set sc__law_bent.nd (i := 3) rfl (by first | exact .inl rfl | exact .inr rfl) (de_fz (dm_lst (da_cons de_str (da_cons de_str (da_cons de_str (da_cons de_str (da_cons de_str (da_cons de_str (da_cons de_str (da_cons de_str (da_cons de_str da_nil)))))))))))) (ds_one (ds_ret (de_bin op_addD (de_bin op_addD (de_sl (de_var (pv 1)) do_non (do_som (de_var (pv 2)))) (de_call (F__law_some.mono (by decide : 2 ≤ 2)) hr tk rfl (da_cons (de_var (pv 0)) (da_cons (de_var (pv 3)) da_nil)))) (de_sl (de_var (pv 1)) (do_som (de_bin op_addD (de_var (pv 2)) (de_call (F__law_take.mono (by decide : 1 ≤ 2)) hr tk rfl (da_cons (de_var (pv 0)) (da_cons de_int da_nil))))) do_non))))))
theorem fn_law (T : Txt P w K mg) (F__law_alike : Fn P w K mg base 1 "_law_alike" 2 f__law_alike) (F__law_bag : Fn P w K mg base 1 "_law_bag" 1 f__law_bag) (F__law_bent : Fn P w K mg base 3 "_law_bent" 2 f__law_bent) (F__law_check : Fn P w K mg base 1 "_law_check" 1 f__law_check) (F__law_framed : Fn P w K mg base 2 "_law_framed" 1 f__law_framed) (F__law_take : Fn P w K mg base 1 "_law_take" 2 f__law_take) (F__law_text : Fn P w K mg base 3 "_law_text" 1 f__law_text) (F__law_unframed : Fn P w K mg base 2 "_law_unframed" 1 f__law_unframed) (F_check_of : Fn P w K mg base 1 "check_of" 1 f_check_of) (F_entry_text : Fn P w K mg base 2 "entry_text" 1 f_entry_text) (F_framed : Fn P w K mg base 2 "framed" 1 f_framed) (F_is_whole : Fn P w K mg base 4 "is_whole" 1 f_is_whole) (F_unframed : Fn P w K mg base 3 "unframed" 1 f_unframed) {f : Addr} {fd : FuncData} (F : Fun K "law" "law" (top 33) f fd) (hm : mg "law" = some (.ref f)) (hb : Binds K fd ["script"] []) : Fn P w K mg base 5 "law" 1 f_law :=
  Fn.mk' F sc_law hm hb fun cdv A outer s H E hr => by
    have hu : (A.deeper (envOfC "law" (defScope (top 33)) s.heap.objs.size f cdv)).units + 64 < cLine := hr.units
    have tk : Takes (cxOf (L2.CX P w) P w K mg base ["script", "bag", "turn", "texts", "frames", "data", "many", "whole", "again", "odd", "text", "at", "sign", "other", "entries", "one", "entry"] "law" (defScope (top 33)) f cdv A outer s H E) (fun cls d _ H => E cls d H) := takes_of rfl rfl rfl rfl
    exact (ds_cons (ds_set sc_law.nd (i := 1) rfl (by first | exact .inl rfl | exact .inr rfl) (de_call (F__law_bag.mono (by decide : 1 ≤ 4)) hr tk rfl (da_cons (de_var (pv 0)) da_nil))) (ds_cons (ds_for (passes_of rfl) rfl (di_range1 rfl T.b_range (da_cons de_int da_nil)) (dg_name (pg_name sc_law.nd (i := 2) rfl (by first | exact .inl rfl | exact .inr rfl))) (ds_cons (ds_setLc (j := 3) rfl sc_law.nd rfl rfl (sw_true rfl rfl rfl (by kernel_rfl)) (di_range1 rfl T.b_range (da_cons (de_call (F__law_take.mono (by decide : 1 ≤ 4)) hr tk rfl (da_cons (de_var (pv 1)) (da_cons de_int da_nil))) da_nil)) (own := [("again", 8)]) (blkOk_by (by kernel_rfl)) (by decide) (fun _ _ _ _ _ => (dg_name (pg_name sc_law.nd (i := 8) rfl (by first | exact .inl rfl | exact .inr rfl)))) (fun _ _ _ _ _ => dts_nil) (fun _ _ _ _ _ => (de_call (F__law_text.mono (by decide : 3 ≤ 4)) hr takes0 rfl (da_cons (de_var (pv 1)) da_nil)))) (ds_cons (ds_set sc_law.nd (i := 4) rfl (by first | exact .inl rfl | exact .inr rfl) (de_fz (dm_lc rfl sc_law.nd (di_val (de_var (pv 3))) (own := [("text", 10)]) (blkOk_by (by kernel_rfl)) (by decide) (fun _ _ _ _ _ => (dg_name (pg_name sc_law.nd (i := 10) rfl (by first | exact .inl rfl | exact .inr rfl)))) (fun _ _ _ _ _ => dts_nil) (fun _ _ _ _ _ => (de_call (F__law_framed.mono (by decide : 2 ≤ 4)) hr takes0 rfl (da_cons (de_var (pv 10)) da_nil)))))) (ds_cons (ds_set sc_law.nd (i := 5) rfl (by first | exact .inl rfl | exact .inr rfl) (de_met PySem.F.slot_str_join PySem.F.type_str_join mp_join de_str (da_cons (de_var (pv 4)) da_nil))) (ds_cons (ds_if (dt_not (dt_tru (de_call (F__law_alike.mono (by decide : 1 ≤ 4)) hr tk rfl (da_cons (de_fz (dm_lst (da_cons (de_fz (dm_lc rfl sc_law.nd (di_val (de_var (pv 3))) (own := [("text", 10)]) (blkOk_by (by kernel_rfl)) (by decide) (fun _ _ _ _ _ => (dg_name (pg_name sc_law.nd (i := 10) rfl (by first | exact .inl rfl | exact .inr rfl)))) (fun _ _ _ _ _ => dts_nil) (fun _ _ _ _ _ => (de_call (F_check_of.mono (by decide : 1 ≤ 4)) hr takes0 rfl (da_cons (de_var (pv 10)) da_nil))))) (da_cons (de_fz (dm_lc rfl sc_law.nd (di_val (de_var (pv 3))) (own := [("text", 10)]) (blkOk_by (by kernel_rfl)) (by decide) (fun _ _ _ _ _ => (dg_name (pg_name sc_law.nd (i := 10) rfl (by first | exact .inl rfl | exact .inr rfl)))) (fun _ _ _ _ _ => dts_nil) (fun _ _ _ _ _ => (de_call (F_framed.mono (by decide : 2 ≤ 4)) hr takes0 rfl (da_cons (de_var (pv 10)) da_nil))))) da_nil)))) (da_cons (de_fz (dm_lst (da_cons (de_fz (dm_lc rfl sc_law.nd (di_val (de_var (pv 3))) (own := [("text", 10)]) (blkOk_by (by kernel_rfl)) (by decide) (fun _ _ _ _ _ => (dg_name (pg_name sc_law.nd (i := 10) rfl (by first | exact .inl rfl | exact .inr rfl)))) (fun _ _ _ _ _ => dts_nil) (fun _ _ _ _ _ => (de_call (F__law_check.mono (by decide : 1 ≤ 4)) hr takes0 rfl (da_cons (de_var (pv 10)) da_nil))))) (da_cons (de_var (pv 4)) da_nil)))) da_nil))))) (ds_one (ds_ret de_bl)) ds_nil) (ds_cons (ds_if (dt_not (dt_tru (de_call (F__law_alike.mono (by decide : 1 ≤ 4)) hr tk rfl (da_cons (de_fz (dm_lst (da_cons (de_call (F_unframed.mono (by decide : 3 ≤ 4)) hr tk rfl (da_cons (de_var (pv 5)) da_nil)) (da_cons (de_call (F_is_whole.mono (by decide : 4 ≤ 4)) hr tk rfl (da_cons (de_var (pv 5)) da_nil)) da_nil)))) (da_cons (de_fz (dm_lst (da_cons (de_tup (da_cons (de_bty cp_tup rfl T.b_tuple boot_tuple (da_cons (de_var (pv 3)) da_nil)) (da_cons (de_blt cp_len rfl T.b_len boot_len (da_cons (de_var (pv 5)) da_nil)) da_nil))) (da_cons de_bl da_nil)))) da_nil))))) (ds_one (ds_ret de_bl)) ds_nil) (ds_cons (ds_for (passes_of rfl) rfl (di_range1 rfl T.b_range (da_cons (de_bin op_addD (de_blt cp_len rfl T.b_len boot_len (da_cons (de_var (pv 5)) da_nil)) de_int) da_nil)) (dg_name (pg_name sc_law.nd (i := 6) rfl (by first | exact .inl rfl | exact .inr rfl))) (ds_cons (ds_set sc_law.nd (i := 7) rfl (by first | exact .inl rfl | exact .inr rfl) (de_ix (de_fz (dm_lc rfl sc_law.nd (di_range1 rfl T.b_range (da_cons (de_bin op_addD (de_blt cp_len rfl T.b_len boot_len (da_cons (de_var (pv 4)) da_nil)) de_int) da_nil)) (own := [("at", 11)]) (blkOk_by (by kernel_rfl)) (by decide) (fun _ _ _ _ _ => (dg_name (pg_name sc_law.nd (i := 11) rfl (by first | exact .inl rfl | exact .inr rfl)))) (fun _ _ _ _ _ => (dts_one (dt_cmp op_leD (de_blt (cp_sum rfl) rfl T.b_sum boot_sum (da_cons (de_fz (dm_lc rfl sc_law.nd (di_val (de_sl (de_var (pv 4)) do_non (do_som (de_var (pv 11))))) (own := [("one", 15)]) (blkOk_by (by kernel_rfl)) (by decide) (fun _ _ _ _ _ => (dg_name (pg_name sc_law.nd (i := 15) rfl (by first | exact .inl rfl | exact .inr rfl)))) (fun _ _ _ _ _ => dts_nil) (fun _ _ _ _ _ => (de_blt cp_len rfl T.b_len boot_len (da_cons (de_var (pv 15)) da_nil))))) da_nil)) (de_var (pv 6))))) (fun _ _ _ _ _ => (de_var (pv 11))))) (un_negD de_int))) (ds_one (ds_if (dt_not (dt_tru (de_call (F__law_alike.mono (by decide : 1 ≤ 4)) hr tk rfl (da_cons (de_call (F_unframed.mono (by decide : 3 ≤ 4)) hr tk rfl (da_cons (de_sl (de_var (pv 5)) do_non (do_som (de_var (pv 6)))) da_nil)) (da_cons (de_tup (da_cons (de_bty cp_tup rfl T.b_tuple boot_tuple (da_cons (de_sl (de_var (pv 3)) do_non (do_som (de_var (pv 7)))) da_nil)) (da_cons (de_blt (cp_sum rfl) rfl T.b_sum boot_sum (da_cons (de_fz (dm_lc rfl sc_law.nd (di_val (de_sl (de_var (pv 4)) do_non (do_som (de_var (pv 7))))) (own := [("one", 15)]) (blkOk_by (by kernel_rfl)) (by decide) (fun _ _ _ _ _ => (dg_name (pg_name sc_law.nd (i := 15) rfl (by first | exact .inl rfl | exact .inr rfl)))) (fun _ _ _ _ _ => dts_nil) (fun _ _ _ _ _ => (de_blt cp_len rfl T.b_len boot_len (da_cons (de_var (pv 15)) da_nil))))) da_nil)) da_nil))) da_nil))))) (ds_one (ds_ret de_bl)) ds_nil)))) (ds_cons (ds_for (passes_of rfl) rfl (di_range1 rfl T.b_range (da_cons de_int da_nil)) (dg_name (pg_name sc_law.nd (i := 8) rfl (by first | exact .inl rfl | exact .inr rfl))) (ds_cons (ds_set sc_law.nd (i := 9) rfl (by first | exact .inl rfl | exact .inr rfl) (de_call (F__law_bent.mono (by decide : 3 ≤ 4)) hr tk rfl (da_cons (de_var (pv 1)) (da_cons (de_var (pv 5)) da_nil)))) (ds_one (ds_if (dt_not (dt_tru (de_call (F__law_alike.mono (by decide : 1 ≤ 4)) hr tk rfl (da_cons (de_fz (dm_lst (da_cons (de_call (F_unframed.mono (by decide : 3 ≤ 4)) hr tk rfl (da_cons (de_var (pv 9)) da_nil)) (da_cons (de_call (F_is_whole.mono (by decide : 4 ≤ 4)) hr tk rfl (da_cons (de_var (pv 9)) da_nil)) da_nil)))) (da_cons (de_fz (dm_lst (da_cons (de_call (F__law_unframed.mono (by decide : 2 ≤ 4)) hr tk rfl (da_cons (de_var (pv 9)) da_nil)) (da_cons (de_cmp (op_eqDD hu) (de_ix (de_call (F__law_unframed.mono (by decide : 2 ≤ 4)) hr tk rfl (da_cons (de_var (pv 9)) da_nil)) de_int) (de_blt cp_len rfl T.b_len boot_len (da_cons (de_var (pv 9)) da_nil))) da_nil)))) da_nil))))) (ds_one (ds_ret de_bl)) ds_nil)))) (ds_one (ds_for (passes_of rfl) rfl (di_val (de_var (pv 3))) (dg_name (pg_name sc_law.nd (i := 10) rfl (by first | exact .inl rfl | exact .inr rfl))) (ds_cons (ds_set sc_law.nd (i := 11) rfl (by first | exact .inl rfl | exact .inr rfl) (de_call (F__law_take.mono (by decide : 1 ≤ 4)) hr tk rfl (da_cons (de_var (pv 1)) (da_cons (de_blt (cp_max rfl) rfl T.b_max boot_max (da_cons de_int (da_cons (de_blt cp_len rfl T.b_len boot_len (da_cons (de_var (pv 10)) da_nil)) da_nil))) da_nil)))) (ds_one (ds_for (passes_of rfl) rfl (di_val de_str) (dg_name (pg_name sc_law.nd (i := 12) rfl (by first | exact .inl rfl | exact .inr rfl))) (ds_cons (ds_set sc_law.nd (i := 13) rfl (by first | exact .inl rfl | exact .inr rfl) (de_bin op_addD (de_bin op_addD (de_sl (de_var (pv 10)) do_non (do_som (de_var (pv 11)))) (de_var (pv 12))) (de_sl (de_var (pv 10)) (do_som (de_bin op_addD (de_var (pv 11)) de_int)) do_non))) (ds_one (ds_if (PW.pt (dw_and (dt_cmp (op_eqDD hu) (de_blt cp_len rfl T.b_len boot_len (da_cons (de_var (pv 13)) da_nil)) (de_blt cp_len rfl T.b_len boot_len (da_cons (de_var (pv 10)) da_nil))) (dw_and (dt_cmp (op_neDD hu) (de_var (pv 13)) (de_var (pv 10))) (dw_and1 (dt_cmp (op_eqDD hu) (de_call (F_check_of.mono (by decide : 1 ≤ 4)) hr tk rfl (da_cons (de_var (pv 13)) da_nil)) (de_call (F_check_of.mono (by decide : 1 ≤ 4)) hr tk rfl (da_cons (de_var (pv 10)) da_nil))))))) (ds_one (ds_ret de_bl)) ds_nil)))))))))))))))) (ds_cons (ds_set sc_law.nd (i := 14) rfl (by first | exact .inl rfl | exact .inr rfl) (de_fz (dm_lst (da_cons (de_tup (da_cons de_str (da_cons (de_tup (da_cons de_int (da_cons de_int da_nil))) da_nil))) (da_cons (de_tup (da_cons de_str (da_cons de_int (da_cons (de_tup (da_cons de_int (da_cons de_int da_nil))) da_nil)))) (da_cons (de_tup (da_cons de_str (da_cons de_str (da_cons de_int da_nil)))) (da_cons (de_tup (da_cons de_str (da_cons (de_tup (da_cons de_int (da_cons de_int da_nil))) (da_cons de_int da_nil)))) (da_cons (de_tup (da_cons de_str (da_cons (de_tup (da_cons de_int (da_cons de_int da_nil))) da_nil))) da_nil)))))))) (ds_one (ds_ret (de_call (F__law_alike.mono (by decide : 1 ≤ 4)) hr tk rfl (da_cons (de_fz (dm_lc rfl sc_law.nd (di_val (de_var (pv 14))) (own := [("entry", 16)]) (blkOk_by (by kernel_rfl)) (by decide) (fun _ _ _ _ _ => (dg_name (pg_name sc_law.nd (i := 16) rfl (by first | exact .inl rfl | exact .inr rfl)))) (fun _ _ _ _ _ => dts_nil) (fun _ _ _ _ _ => (de_call (F_entry_text.mono (by decide : 2 ≤ 4)) hr takes0 rfl (da_cons (de_var (pv 16)) da_nil))))) (da_cons (de_fz (dm_lst (da_cons de_str (da_cons de_str (da_cons de_str (da_cons de_str (da_cons de_str da_nil))))))) da_nil))))))))
theorem ok_law (T : Txt P w K mg) (F__law_alike : Fn P w K mg base 1 "_law_alike" 2 f__law_alike) (F__law_bag : Fn P w K mg base 1 "_law_bag" 1 f__law_bag) (F__law_bent : Fn P w K mg base 3 "_law_bent" 2 f__law_bent) (F__law_check : Fn P w K mg base 1 "_law_check" 1 f__law_check) (F__law_framed : Fn P w K mg base 2 "_law_framed" 1 f__law_framed) (F__law_take : Fn P w K mg base 1 "_law_take" 2 f__law_take) (F__law_text : Fn P w K mg base 3 "_law_text" 1 f__law_text) (F__law_unframed : Fn P w K mg base 2 "_law_unframed" 1 f__law_unframed) (F_check_of : Fn P w K mg base 1 "check_of" 1 f_check_of) (F_entry_text : Fn P w K mg base 2 "entry_text" 1 f_entry_text) (F_framed : Fn P w K mg base 2 "framed" 1 f_framed) (F_is_whole : Fn P w K mg base 4 "is_whole" 1 f_is_whole) (F_unframed : Fn P w K mg base 3 "unframed" 1 f_unframed) {f : Addr} {fd : FuncData} (F : Fun K "law" "law" (top 33) f fd) : FnOk P w K mg base (L2.CX P w) 5 f fd ["script"] (spD K mg 1 f_law) :=
  Fn.ok' F sc_law fun cdv A outer s H E hr => by
    have hu : (A.deeper (envOfC "law" (defScope (top 33)) s.heap.objs.size f cdv)).units + 64 < cLine := hr.units
    have tk : Takes (cxOf (L2.CX P w) P w K mg base ["script", "bag", "turn", "texts", "frames", "data", "many", "whole", "again", "odd", "text", "at", "sign", "other", "entries", "one", "entry"] "law" (defScope (top 33)) f cdv A outer s H E) (fun cls d _ H => E cls d H) := takes_of rfl rfl rfl rfl
    exact (ds_cons (ds_set sc_law.nd (i := 1) rfl (by first | exact .inl rfl | exact .inr rfl) (de_call (F__law_bag.mono (by decide : 1 ≤ 4)) hr tk rfl (da_cons (de_var (pv 0)) da_nil))) (ds_cons (ds_for (passes_of rfl) rfl (di_range1 rfl T.b_range (da_cons de_int da_nil)) (dg_name (pg_name sc_law.nd (i := 2) rfl (by first | exact .inl rfl | exact .inr rfl))) (ds_cons (ds_setLc (j := 3) rfl sc_law.nd rfl rfl (sw_true rfl rfl rfl (by kernel_rfl)) (di_range1 rfl T.b_range (da_cons (de_call (F__law_take.mono (by decide : 1 ≤ 4)) hr tk rfl (da_cons (de_var (pv 1)) (da_cons de_int da_nil))) da_nil)) (own := [("again", 8)]) (blkOk_by (by kernel_rfl)) (by decide) (fun _ _ _ _ _ => (dg_name (pg_name sc_law.nd (i := 8) rfl (by first | exact .inl rfl | exact .inr rfl)))) (fun _ _ _ _ _ => dts_nil) (fun _ _ _ _ _ => (de_call (F__law_text.mono (by decide : 3 ≤ 4)) hr takes0 rfl (da_cons (de_var (pv 1)) da_nil)))) (ds_cons (ds_set sc_law.nd (i := 4) rfl (by first | exact .inl rfl | exact .inr rfl) (de_fz (dm_lc rfl sc_law.nd (di_val (de_var (pv 3))) (own := [("text", 10)]) (blkOk_by (by kernel_rfl)) (by decide) (fun _ _ _ _ _ => (dg_name (pg_name sc_law.nd (i := 10) rfl (by first | exact .inl rfl | exact .inr rfl)))) (fun _ _ _ _ _ => dts_nil) (fun _ _ _ _ _ => (de_call (F__law_framed.mono (by decide : 2 ≤ 4)) hr takes0 rfl (da_cons (de_var (pv 10)) da_nil)))))) (ds_cons (ds_set sc_law.nd (i := 5) rfl (by first | exact .inl rfl | exact .inr rfl) (de_met PySem.F.slot_str_join PySem.F.type_str_join mp_join de_str (da_cons (de_var (pv 4)) da_nil))) (ds_cons (ds_if (dt_not (dt_tru (de_call (F__law_alike.mono (by decide : 1 ≤ 4)) hr tk rfl (da_cons (de_fz (dm_lst (da_cons (de_fz (dm_lc rfl sc_law.nd (di_val (de_var (pv 3))) (own := [("text", 10)]) (blkOk_by (by kernel_rfl)) (by decide) (fun _ _ _ _ _ => (dg_name (pg_name sc_law.nd (i := 10) rfl (by first | exact .inl rfl | exact .inr rfl)))) (fun _ _ _ _ _ => dts_nil) (fun _ _ _ _ _ => (de_call (F_check_of.mono (by decide : 1 ≤ 4)) hr takes0 rfl (da_cons (de_var (pv 10)) da_nil))))) (da_cons (de_fz (dm_lc rfl sc_law.nd (di_val (de_var (pv 3))) (own := [("text", 10)]) (blkOk_by (by kernel_rfl)) (by decide) (fun _ _ _ _ _ => (dg_name (pg_name sc_law.nd (i := 10) rfl (by first | exact .inl rfl | exact .inr rfl)))) (fun _ _ _ _ _ => dts_nil) (fun _ _ _ _ _ => (de_call (F_framed.mono (by decide : 2 ≤ 4)) hr takes0 rfl (da_cons (de_var (pv 10)) da_nil))))) da_nil)))) (da_cons (de_fz (dm_lst (da_cons (de_fz (dm_lc rfl sc_law.nd (di_val (de_var (pv 3))) (own := [("text", 10)]) (blkOk_by (by kernel_rfl)) (by decide) (fun _ _ _ _ _ => (dg_name (pg_name sc_law.nd (i := 10) rfl (by first | exact .inl rfl | exact .inr rfl)))) (fun _ _ _ _ _ => dts_nil) (fun _ _ _ _ _ => (de_call (F__law_check.mono (by decide : 1 ≤ 4)) hr takes0 rfl (da_cons (de_var (pv 10)) da_nil))))) (da_cons (de_var (pv 4)) da_nil)))) da_nil))))) (ds_one (ds_ret de_bl)) ds_nil) (ds_cons (ds_if (dt_not (dt_tru (de_call (F__law_alike.mono (by decide : 1 ≤ 4)) hr tk rfl (da_cons (de_fz (dm_lst (da_cons (de_call (F_unframed.mono (by decide : 3 ≤ 4)) hr tk rfl (da_cons (de_var (pv 5)) da_nil)) (da_cons (de_call (F_is_whole.mono (by decide : 4 ≤ 4)) hr tk rfl (da_cons (de_var (pv 5)) da_nil)) da_nil)))) (da_cons (de_fz (dm_lst (da_cons (de_tup (da_cons (de_bty cp_tup rfl T.b_tuple boot_tuple (da_cons (de_var (pv 3)) da_nil)) (da_cons (de_blt cp_len rfl T.b_len boot_len (da_cons (de_var (pv 5)) da_nil)) da_nil))) (da_cons de_bl da_nil)))) da_nil))))) (ds_one (ds_ret de_bl)) ds_nil) (ds_cons (ds_for (passes_of rfl) rfl (di_range1 rfl T.b_range (da_cons (de_bin op_addD (de_blt cp_len rfl T.b_len boot_len (da_cons (de_var (pv 5)) da_nil)) de_int) da_nil)) (dg_name (pg_name sc_law.nd (i := 6) rfl (by first | exact .inl rfl | exact .inr rfl))) (ds_cons (ds_set sc_law.nd (i := 7) rfl (by first | exact .inl rfl | exact .inr rfl) (de_ix (de_fz (dm_lc rfl sc_law.nd (di_range1 rfl T.b_range (da_cons (de_bin op_addD (de_blt cp_len rfl T.b_len boot_len (da_cons (de_var (pv 4)) da_nil)) de_int) da_nil)) (own := [("at", 11)]) (blkOk_by (by kernel_rfl)) (by decide) (fun _ _ _ _ _ => (dg_name (pg_name sc_law.nd (i := 11) rfl (by first | exact .inl rfl | exact .inr rfl)))) (fun _ _ _ _ _ => (dts_one (dt_cmp op_leD (de_blt (cp_sum rfl) rfl T.b_sum boot_sum (da_cons (de_fz (dm_lc rfl sc_law.nd (di_val (de_sl (de_var (pv 4)) do_non (do_som (de_var (pv 11))))) (own := [("one", 15)]) (blkOk_by (by kernel_rfl)) (by decide) (fun _ _ _ _ _ => (dg_name (pg_name sc_law.nd (i := 15) rfl (by first | exact .inl rfl | exact .inr rfl)))) (fun _ _ _ _ _ => dts_nil) (fun _ _ _ _ _ => (de_blt cp_len rfl T.b_len boot_len (da_cons (de_var (pv 15)) da_nil))))) da_nil)) (de_var (pv 6))))) (fun _ _ _ _ _ => (de_var (pv 11))))) (un_negD de_int))) (ds_one (ds_if (dt_not (dt_tru (de_call (F__law_alike.mono (by decide : 1 ≤ 4)) hr tk rfl (da_cons (de_call (F_unframed.mono (by decide : 3 ≤ 4)) hr tk rfl (da_cons (de_sl (de_var (pv 5)) do_non (do_som (de_var (pv 6)))) da_nil)) (da_cons (de_tup (da_cons (de_bty cp_tup rfl T.b_tuple boot_tuple (da_cons (de_sl (de_var (pv 3)) do_non (do_som (de_var (pv 7)))) da_nil)) (da_cons (de_blt (cp_sum rfl) rfl T.b_sum boot_sum (da_cons (de_fz (dm_lc rfl sc_law.nd (di_val (de_sl (de_var (pv 4)) do_non (do_som (de_var (pv 7))))) (own := [("one", 15)]) (blkOk_by (by kernel_rfl)) (by decide) (fun _ _ _ _ _ => (dg_name (pg_name sc_law.nd (i := 15) rfl (by first | exact .inl rfl | exact .inr rfl)))) (fun _ _ _ _ _ => dts_nil) (fun _ _ _ _ _ => (de_blt cp_len rfl T.b_len boot_len (da_cons (de_var (pv 15)) da_nil))))) da_nil)) da_nil))) da_nil))))) (ds_one (ds_ret de_bl)) ds_nil)))) (ds_cons (ds_for (passes_of rfl) rfl (di_range1 rfl T.b_range (da_cons de_int da_nil)) (dg_name (pg_name sc_law.nd (i := 8) rfl (by first | exact .inl rfl | exact .inr rfl))) (ds_cons (ds_set sc_law.nd (i := 9) rfl (by first | exact .inl rfl | exact .inr rfl) (de_call (F__law_bent.mono (by decide : 3 ≤ 4)) hr tk rfl (da_cons (de_var (pv 1)) (da_cons (de_var (pv 5)) da_nil)))) (ds_one (ds_if (dt_not (dt_tru (de_call (F__law_alike.mono (by decide : 1 ≤ 4)) hr tk rfl (da_cons (de_fz (dm_lst (da_cons (de_call (F_unframed.mono (by decide : 3 ≤ 4)) hr tk rfl (da_cons (de_var (pv 9)) da_nil)) (da_cons (de_call (F_is_whole.mono (by decide : 4 ≤ 4)) hr tk rfl (da_cons (de_var (pv 9)) da_nil)) da_nil)))) (da_cons (de_fz (dm_lst (da_cons (de_call (F__law_unframed.mono (by decide : 2 ≤ 4)) hr tk rfl (da_cons (de_var (pv 9)) da_nil)) (da_cons (de_cmp (op_eqDD hu) (de_ix (de_call (F__law_unframed.mono (by decide : 2 ≤ 4)) hr tk rfl (da_cons (de_var (pv 9)) da_nil)) de_int) (de_blt cp_len rfl T.b_len boot_len (da_cons (de_var (pv 9)) da_nil))) da_nil)))) da_nil))))) (ds_one (ds_ret de_bl)) ds_nil)))) (ds_one (ds_for (passes_of rfl) rfl (di_val (de_var (pv 3))) (dg_name (pg_name sc_law.nd (i := 10) rfl (by first | exact .inl rfl | exact .inr rfl))) (ds_cons (ds_set sc_law.nd (i := 11) rfl (by first | exact .inl rfl | exact .inr rfl) (de_call (F__law_take.mono (by decide : 1 ≤ 4)) hr tk rfl (da_cons (de_var (pv 1)) (da_cons (de_blt (cp_max rfl) rfl T.b_max boot_max (da_cons de_int (da_cons (de_blt cp_len rfl T.b_len boot_len (da_cons (de_var (pv 10)) da_nil)) da_nil))) da_nil)))) (ds_one (ds_for (passes_of rfl) rfl (di_val de_str) (dg_name (pg_name sc_law.nd (i := 12) rfl (by first | exact .inl rfl | exact .inr rfl))) (ds_cons (ds_set sc_law.nd (i := 13) rfl (by first | exact .inl rfl | exact .inr rfl) (de_bin op_addD (de_bin op_addD (de_sl (de_var (pv 10)) do_non (do_som (de_var (pv 11)))) (de_var (pv 12))) (de_sl (de_var (pv 10)) (do_som (de_bin op_addD (de_var (pv 11)) de_int)) do_non))) (ds_one (ds_if (PW.pt (dw_and (dt_cmp (op_eqDD hu) (de_blt cp_len rfl T.b_len boot_len (da_cons (de_var (pv 13)) da_nil)) (de_blt cp_len rfl T.b_len boot_len (da_cons (de_var (pv 10)) da_nil))) (dw_and (dt_cmp (op_neDD hu) (de_var (pv 13)) (de_var (pv 10))) (dw_and1 (dt_cmp (op_eqDD hu) (de_call (F_check_of.mono (by decide : 1 ≤ 4)) hr tk rfl (da_cons (de_var (pv 13)) da_nil)) (de_call (F_check_of.mono (by decide : 1 ≤ 4)) hr tk rfl (da_cons (de_var (pv 10)) da_nil))))))) (ds_one (ds_ret de_bl)) ds_nil)))))))))))))))) (ds_cons (ds_set sc_law.nd (i := 14) rfl (by first | exact .inl rfl | exact .inr rfl) (de_fz (dm_lst (da_cons (de_tup (da_cons de_str (da_cons (de_tup (da_cons de_int (da_cons de_int da_nil))) da_nil))) (da_cons (de_tup (da_cons de_str (da_cons de_int (da_cons (de_tup (da_cons de_int (da_cons de_int da_nil))) da_nil)))) (da_cons (de_tup (da_cons de_str (da_cons de_str (da_cons de_int da_nil)))) (da_cons (de_tup (da_cons de_str (da_cons (de_tup (da_cons de_int (da_cons de_int da_nil))) (da_cons de_int da_nil)))) (da_cons (de_tup (da_cons de_str (da_cons (de_tup (da_cons de_int (da_cons de_int da_nil))) da_nil))) da_nil)))))))) (ds_one (ds_ret (de_call (F__law_alike.mono (by decide : 1 ≤ 4)) hr tk rfl (da_cons (de_fz (dm_lc rfl sc_law.nd (di_val (de_var (pv 14))) (own := [("entry", 16)]) (blkOk_by (by kernel_rfl)) (by decide) (fun _ _ _ _ _ => (dg_name (pg_name sc_law.nd (i := 16) rfl (by first | exact .inl rfl | exact .inr rfl)))) (fun _ _ _ _ _ => dts_nil) (fun _ _ _ _ _ => (de_call (F_entry_text.mono (by decide : 2 ≤ 4)) hr takes0 rfl (da_cons (de_var (pv 16)) da_nil))))) (da_cons (de_fz (dm_lst (da_cons de_str (da_cons de_str (da_cons de_str (da_cons de_str (da_cons de_str da_nil))))))) da_nil))))))))
end
theorem all_mk {w : World} {K : PySem.W.Frag} {h : Heap} {mg : Str → Option Value} {fa : Addr} (X : K.In h) (G : h.Ns mainGlobals mg) (hfa : mg "law" = some (.ref fa))
    (hlaw : ∀ ns : List Int, ns.length ≤ 63 → (∀ z ∈ ns, Builtin.Int.intBits z ≤ 1048576) → f_law [.d (.list (ns.map PyData.int))] [] = .ok (.d (.bool true)) [])
    {f_is_inner' : Addr} {od_is_inner an_is_inner : Option Addr} {sl_is_inner : Array (Option Value)} {oc_is_inner kV_is_inner dc_is_inner pm_is_inner cd_is_inner ct_is_inner : Value}
    {f_check_of' : Addr} {od_check_of an_check_of : Option Addr} {sl_check_of : Array (Option Value)} {oc_check_of kV_check_of dc_check_of pm_check_of cd_check_of ct_check_of : Value}
    {f_framed' : Addr} {od_framed an_framed : Option Addr} {sl_framed : Array (Option Value)} {oc_framed kV_framed dc_framed pm_framed cd_framed ct_framed : Value}
    {f_is_number' : Addr} {od_is_number an_is_number : Option Addr} {sl_is_number : Array (Option Value)} {oc_is_number kV_is_number dc_is_number pm_is_number cd_is_number ct_is_number : Value}
    {f_text_in' : Addr} {od_text_in an_text_in : Option Addr} {sl_text_in : Array (Option Value)} {oc_text_in kV_text_in dc_text_in pm_text_in cd_text_in ct_text_in : Value}
    {f_unframed' : Addr} {od_unframed an_unframed : Option Addr} {sl_unframed : Array (Option Value)} {oc_unframed kV_unframed dc_unframed pm_unframed cd_unframed ct_unframed : Value}
    {f_is_whole' : Addr} {od_is_whole an_is_whole : Option Addr} {sl_is_whole : Array (Option Value)} {oc_is_whole kV_is_whole dc_is_whole pm_is_whole cd_is_whole ct_is_whole : Value}
    {f_spaced' : Addr} {od_spaced an_spaced : Option Addr} {sl_spaced : Array (Option Value)} {oc_spaced kV_spaced dc_spaced pm_spaced cd_spaced ct_spaced : Value}
    {f_entry_text' : Addr} {od_entry_text an_entry_text : Option Addr} {sl_entry_text : Array (Option Value)} {oc_entry_text kV_entry_text dc_entry_text pm_entry_text cd_entry_text ct_entry_text : Value}
    {f__law_bag' : Addr} {od__law_bag an__law_bag : Option Addr} {sl__law_bag : Array (Option Value)} {oc__law_bag kV__law_bag dc__law_bag pm__law_bag cd__law_bag ct__law_bag : Value}
    {f__law_take' : Addr} {od__law_take an__law_take : Option Addr} {sl__law_take : Array (Option Value)} {oc__law_take kV__law_take dc__law_take pm__law_take cd__law_take ct__law_take : Value}
    {f__law_some' : Addr} {od__law_some an__law_some : Option Addr} {sl__law_some : Array (Option Value)} {oc__law_some kV__law_some dc__law_some pm__law_some cd__law_some ct__law_some : Value}
    {f__law_alike' : Addr} {od__law_alike an__law_alike : Option Addr} {sl__law_alike : Array (Option Value)} {oc__law_alike kV__law_alike dc__law_alike pm__law_alike cd__law_alike ct__law_alike : Value}
    {f__law_check' : Addr} {od__law_check an__law_check : Option Addr} {sl__law_check : Array (Option Value)} {oc__law_check kV__law_check dc__law_check pm__law_check cd__law_check ct__law_check : Value}
    {f__law_framed' : Addr} {od__law_framed an__law_framed : Option Addr} {sl__law_framed : Array (Option Value)} {oc__law_framed kV__law_framed dc__law_framed pm__law_framed cd__law_framed ct__law_framed : Value}
    {f__law_number' : Addr} {od__law_number an__law_number : Option Addr} {sl__law_number : Array (Option Value)} {oc__law_number kV__law_number dc__law_number pm__law_number cd__law_number ct__law_number : Value}
    {f__law_unframed' : Addr} {od__law_unframed an__law_unframed : Option Addr} {sl__law_unframed : Array (Option Value)} {oc__law_unframed kV__law_unframed dc__law_unframed pm__law_unframed cd__law_unframed ct__law_unframed : Value}
    {f__law_text' : Addr} {od__law_text an__law_text : Option Addr} {sl__law_text : Array (Option Value)} {oc__law_text kV__law_text dc__law_text pm__law_text cd__law_text ct__law_text : Value}
    {f__law_bent' : Addr} {od__law_bent an__law_bent : Option Addr} {sl__law_bent : Array (Option Value)} {oc__law_bent kV__law_bent dc__law_bent pm__law_bent cd__law_bent ct__law_bent : Value}
    {f_law' : Addr} {od_law an_law : Option Addr} {sl_law : Array (Option Value)} {oc_law kV_law dc_law pm_law cd_law ct_law : Value}
    (z_abs : PySem.W.nsIn K mainGlobals "abs" = some none)
    (z_all : PySem.W.nsIn K mainGlobals "all" = some none)
    (z_bool : PySem.W.nsIn K mainGlobals "bool" = some none)
    (z_int : PySem.W.nsIn K mainGlobals "int" = some none)
    (z_isinstance : PySem.W.nsIn K mainGlobals "isinstance" = some none)
    (z_len : PySem.W.nsIn K mainGlobals "len" = some none)
    (z_list : PySem.W.nsIn K mainGlobals "list" = some none)
    (z_max : PySem.W.nsIn K mainGlobals "max" = some none)
    (z_range : PySem.W.nsIn K mainGlobals "range" = some none)
    (z_str : PySem.W.nsIn K mainGlobals "str" = some none)
    (z_sum : PySem.W.nsIn K mainGlobals "sum" = some none)
    (z_tuple : PySem.W.nsIn K mainGlobals "tuple" = some none)
    (z_zip : PySem.W.nsIn K mainGlobals "zip" = some none)
    {t_SIGNS : Tok} (v_SIGNS : PySem.W.nsIn K mainGlobals "SIGNS" = some (some (.str (PySem.Str.ofString " 0123456789abcdefghijklmnopqrstuvwxyz") t_SIGNS)))
    {t_DIGITS : Tok} (v_DIGITS : PySem.W.nsIn K mainGlobals "DIGITS" = some (some (.str (PySem.Str.ofString "0123456789") t_DIGITS)))
    {t_FACTOR : Tok} (v_FACTOR : PySem.W.nsIn K mainGlobals "FACTOR" = some (some (.int 41 t_FACTOR)))
    {t_MODULUS : Tok} (v_MODULUS : PySem.W.nsIn K mainGlobals "MODULUS" = some (some (.int 99991 t_MODULUS)))
    {t_MARK : Tok} (v_MARK : PySem.W.nsIn K mainGlobals "MARK" = some (some (.str (PySem.Str.ofString ":") t_MARK)))
    {t_END : Tok} (v_END : PySem.W.nsIn K mainGlobals "END" = some (some (.str (PySem.Str.ofString "\n") t_END)))
    {t_MOST_FIGURES : Tok} (v_MOST_FIGURES : PySem.W.nsIn K mainGlobals "MOST_FIGURES" = some (some (.int 9 t_MOST_FIGURES)))
    {t_SALE : Tok} (v_SALE : PySem.W.nsIn K mainGlobals "SALE" = some (some (.str (PySem.Str.ofString "sale") t_SALE)))
    {t_BACK : Tok} (v_BACK : PySem.W.nsIn K mainGlobals "BACK" = some (some (.str (PySem.Str.ofString "back") t_BACK)))
    {t_SINGLE : Tok} (v_SINGLE : PySem.W.nsIn K mainGlobals "SINGLE" = some (some (.str (PySem.Str.ofString "single") t_SINGLE)))
    {t_DROP : Tok} (v_DROP : PySem.W.nsIn K mainGlobals "DROP" = some (some (.str (PySem.Str.ofString "drop") t_DROP)))
    (a_is_inner : PySem.W.nsIn K mainGlobals "is_inner" = some (some (.ref f_is_inner'))) (l_is_inner : K.lookup f_is_inner' = some ⟨oc_is_inner, od_is_inner, .func (PySem.W.fnOf "is_inner" "is_inner" (defArgs (top 8)) (defBody (top 8)) (defScope (top 8)) .none kV_is_inner dc_is_inner pm_is_inner an_is_inner cd_is_inner ct_is_inner), sl_is_inner⟩) (c_is_inner : PySem.W.codeIn K cd_is_inner "is_inner" = true) (k_is_inner : PySem.W.keepIn K (.ref f_is_inner') = true)
    (a_check_of : PySem.W.nsIn K mainGlobals "check_of" = some (some (.ref f_check_of'))) (l_check_of : K.lookup f_check_of' = some ⟨oc_check_of, od_check_of, .func (PySem.W.fnOf "check_of" "check_of" (defArgs (top 9)) (defBody (top 9)) (defScope (top 9)) .none kV_check_of dc_check_of pm_check_of an_check_of cd_check_of ct_check_of), sl_check_of⟩) (c_check_of : PySem.W.codeIn K cd_check_of "check_of" = true) (k_check_of : PySem.W.keepIn K (.ref f_check_of') = true)
    (a_framed : PySem.W.nsIn K mainGlobals "framed" = some (some (.ref f_framed'))) (l_framed : K.lookup f_framed' = some ⟨oc_framed, od_framed, .func (PySem.W.fnOf "framed" "framed" (defArgs (top 10)) (defBody (top 10)) (defScope (top 10)) .none kV_framed dc_framed pm_framed an_framed cd_framed ct_framed), sl_framed⟩) (c_framed : PySem.W.codeIn K cd_framed "framed" = true) (k_framed : PySem.W.keepIn K (.ref f_framed') = true)
    (a_is_number : PySem.W.nsIn K mainGlobals "is_number" = some (some (.ref f_is_number'))) (l_is_number : K.lookup f_is_number' = some ⟨oc_is_number, od_is_number, .func (PySem.W.fnOf "is_number" "is_number" (defArgs (top 11)) (defBody (top 11)) (defScope (top 11)) .none kV_is_number dc_is_number pm_is_number an_is_number cd_is_number ct_is_number), sl_is_number⟩) (c_is_number : PySem.W.codeIn K cd_is_number "is_number" = true) (k_is_number : PySem.W.keepIn K (.ref f_is_number') = true)
    (a_text_in : PySem.W.nsIn K mainGlobals "text_in" = some (some (.ref f_text_in'))) (l_text_in : K.lookup f_text_in' = some ⟨oc_text_in, od_text_in, .func (PySem.W.fnOf "text_in" "text_in" (defArgs (top 12)) (defBody (top 12)) (defScope (top 12)) .none kV_text_in dc_text_in pm_text_in an_text_in cd_text_in ct_text_in), sl_text_in⟩) (c_text_in : PySem.W.codeIn K cd_text_in "text_in" = true) (k_text_in : PySem.W.keepIn K (.ref f_text_in') = true)
    (a_unframed : PySem.W.nsIn K mainGlobals "unframed" = some (some (.ref f_unframed'))) (l_unframed : K.lookup f_unframed' = some ⟨oc_unframed, od_unframed, .func (PySem.W.fnOf "unframed" "unframed" (defArgs (top 13)) (defBody (top 13)) (defScope (top 13)) .none kV_unframed dc_unframed pm_unframed an_unframed cd_unframed ct_unframed), sl_unframed⟩) (c_unframed : PySem.W.codeIn K cd_unframed "unframed" = true) (k_unframed : PySem.W.keepIn K (.ref f_unframed') = true)
    (a_is_whole : PySem.W.nsIn K mainGlobals "is_whole" = some (some (.ref f_is_whole'))) (l_is_whole : K.lookup f_is_whole' = some ⟨oc_is_whole, od_is_whole, .func (PySem.W.fnOf "is_whole" "is_whole" (defArgs (top 14)) (defBody (top 14)) (defScope (top 14)) .none kV_is_whole dc_is_whole pm_is_whole an_is_whole cd_is_whole ct_is_whole), sl_is_whole⟩) (c_is_whole : PySem.W.codeIn K cd_is_whole "is_whole" = true) (k_is_whole : PySem.W.keepIn K (.ref f_is_whole') = true)
    (a_spaced : PySem.W.nsIn K mainGlobals "spaced" = some (some (.ref f_spaced'))) (l_spaced : K.lookup f_spaced' = some ⟨oc_spaced, od_spaced, .func (PySem.W.fnOf "spaced" "spaced" (defArgs (top 20)) (defBody (top 20)) (defScope (top 20)) .none kV_spaced dc_spaced pm_spaced an_spaced cd_spaced ct_spaced), sl_spaced⟩) (c_spaced : PySem.W.codeIn K cd_spaced "spaced" = true) (k_spaced : PySem.W.keepIn K (.ref f_spaced') = true)
    (a_entry_text : PySem.W.nsIn K mainGlobals "entry_text" = some (some (.ref f_entry_text'))) (l_entry_text : K.lookup f_entry_text' = some ⟨oc_entry_text, od_entry_text, .func (PySem.W.fnOf "entry_text" "entry_text" (defArgs (top 21)) (defBody (top 21)) (defScope (top 21)) .none kV_entry_text dc_entry_text pm_entry_text an_entry_text cd_entry_text ct_entry_text), sl_entry_text⟩) (c_entry_text : PySem.W.codeIn K cd_entry_text "entry_text" = true) (k_entry_text : PySem.W.keepIn K (.ref f_entry_text') = true)
    (a__law_bag : PySem.W.nsIn K mainGlobals "_law_bag" = some (some (.ref f__law_bag'))) (l__law_bag : K.lookup f__law_bag' = some ⟨oc__law_bag, od__law_bag, .func (PySem.W.fnOf "_law_bag" "_law_bag" (defArgs (top 23)) (defBody (top 23)) (defScope (top 23)) .none kV__law_bag dc__law_bag pm__law_bag an__law_bag cd__law_bag ct__law_bag), sl__law_bag⟩) (c__law_bag : PySem.W.codeIn K cd__law_bag "_law_bag" = true) (k__law_bag : PySem.W.keepIn K (.ref f__law_bag') = true)
    (a__law_take : PySem.W.nsIn K mainGlobals "_law_take" = some (some (.ref f__law_take'))) (l__law_take : K.lookup f__law_take' = some ⟨oc__law_take, od__law_take, .func (PySem.W.fnOf "_law_take" "_law_take" (defArgs (top 24)) (defBody (top 24)) (defScope (top 24)) .none kV__law_take dc__law_take pm__law_take an__law_take cd__law_take ct__law_take), sl__law_take⟩) (c__law_take : PySem.W.codeIn K cd__law_take "_law_take" = true) (k__law_take : PySem.W.keepIn K (.ref f__law_take') = true)
    (a__law_some : PySem.W.nsIn K mainGlobals "_law_some" = some (some (.ref f__law_some'))) (l__law_some : K.lookup f__law_some' = some ⟨oc__law_some, od__law_some, .func (PySem.W.fnOf "_law_some" "_law_some" (defArgs (top 25)) (defBody (top 25)) (defScope (top 25)) .none kV__law_some dc__law_some pm__law_some an__law_some cd__law_some ct__law_some), sl__law_some⟩) (c__law_some : PySem.W.codeIn K cd__law_some "_law_some" = true) (k__law_some : PySem.W.keepIn K (.ref f__law_some') = true)
    (a__law_alike : PySem.W.nsIn K mainGlobals "_law_alike" = some (some (.ref f__law_alike'))) (l__law_alike : K.lookup f__law_alike' = some ⟨oc__law_alike, od__law_alike, .func (PySem.W.fnOf "_law_alike" "_law_alike" (defArgs (top 26)) (defBody (top 26)) (defScope (top 26)) .none kV__law_alike dc__law_alike pm__law_alike an__law_alike cd__law_alike ct__law_alike), sl__law_alike⟩) (c__law_alike : PySem.W.codeIn K cd__law_alike "_law_alike" = true) (k__law_alike : PySem.W.keepIn K (.ref f__law_alike') = true)
    (a__law_check : PySem.W.nsIn K mainGlobals "_law_check" = some (some (.ref f__law_check'))) (l__law_check : K.lookup f__law_check' = some ⟨oc__law_check, od__law_check, .func (PySem.W.fnOf "_law_check" "_law_check" (defArgs (top 27)) (defBody (top 27)) (defScope (top 27)) .none kV__law_check dc__law_check pm__law_check an__law_check cd__law_check ct__law_check), sl__law_check⟩) (c__law_check : PySem.W.codeIn K cd__law_check "_law_check" = true) (k__law_check : PySem.W.keepIn K (.ref f__law_check') = true)
    (a__law_framed : PySem.W.nsIn K mainGlobals "_law_framed" = some (some (.ref f__law_framed'))) (l__law_framed : K.lookup f__law_framed' = some ⟨oc__law_framed, od__law_framed, .func (PySem.W.fnOf "_law_framed" "_law_framed" (defArgs (top 28)) (defBody (top 28)) (defScope (top 28)) .none kV__law_framed dc__law_framed pm__law_framed an__law_framed cd__law_framed ct__law_framed), sl__law_framed⟩) (c__law_framed : PySem.W.codeIn K cd__law_framed "_law_framed" = true) (k__law_framed : PySem.W.keepIn K (.ref f__law_framed') = true)
    (a__law_number : PySem.W.nsIn K mainGlobals "_law_number" = some (some (.ref f__law_number'))) (l__law_number : K.lookup f__law_number' = some ⟨oc__law_number, od__law_number, .func (PySem.W.fnOf "_law_number" "_law_number" (defArgs (top 29)) (defBody (top 29)) (defScope (top 29)) .none kV__law_number dc__law_number pm__law_number an__law_number cd__law_number ct__law_number), sl__law_number⟩) (c__law_number : PySem.W.codeIn K cd__law_number "_law_number" = true) (k__law_number : PySem.W.keepIn K (.ref f__law_number') = true)
    (a__law_unframed : PySem.W.nsIn K mainGlobals "_law_unframed" = some (some (.ref f__law_unframed'))) (l__law_unframed : K.lookup f__law_unframed' = some ⟨oc__law_unframed, od__law_unframed, .func (PySem.W.fnOf "_law_unframed" "_law_unframed" (defArgs (top 30)) (defBody (top 30)) (defScope (top 30)) .none kV__law_unframed dc__law_unframed pm__law_unframed an__law_unframed cd__law_unframed ct__law_unframed), sl__law_unframed⟩) (c__law_unframed : PySem.W.codeIn K cd__law_unframed "_law_unframed" = true) (k__law_unframed : PySem.W.keepIn K (.ref f__law_unframed') = true)
    (a__law_text : PySem.W.nsIn K mainGlobals "_law_text" = some (some (.ref f__law_text'))) (l__law_text : K.lookup f__law_text' = some ⟨oc__law_text, od__law_text, .func (PySem.W.fnOf "_law_text" "_law_text" (defArgs (top 31)) (defBody (top 31)) (defScope (top 31)) .none kV__law_text dc__law_text pm__law_text an__law_text cd__law_text ct__law_text), sl__law_text⟩) (c__law_text : PySem.W.codeIn K cd__law_text "_law_text" = true) (k__law_text : PySem.W.keepIn K (.ref f__law_text') = true)
    (a__law_bent : PySem.W.nsIn K mainGlobals "_law_bent" = some (some (.ref f__law_bent'))) (l__law_bent : K.lookup f__law_bent' = some ⟨oc__law_bent, od__law_bent, .func (PySem.W.fnOf "_law_bent" "_law_bent" (defArgs (top 32)) (defBody (top 32)) (defScope (top 32)) .none kV__law_bent dc__law_bent pm__law_bent an__law_bent cd__law_bent ct__law_bent), sl__law_bent⟩) (c__law_bent : PySem.W.codeIn K cd__law_bent "_law_bent" = true) (k__law_bent : PySem.W.keepIn K (.ref f__law_bent') = true)
    (a_law : PySem.W.nsIn K mainGlobals "law" = some (some (.ref f_law'))) (l_law : K.lookup f_law' = some ⟨oc_law, od_law, .func (PySem.W.fnOf "law" "law" (defArgs (top 33)) (defBody (top 33)) (defScope (top 33)) .none kV_law dc_law pm_law an_law cd_law ct_law), sl_law⟩) (c_law : PySem.W.codeIn K cd_law "law" = true) (k_law : PySem.W.keepIn K (.ref f_law') = true)
    : ∃ fd : FuncData, (∀ (s : Shared) (v : Value), BindsTo s fd ⟨[v], []⟩ [("script", v)]) ∧ ∀ base : Heap, K.In base → base.Ns mainGlobals mg → FnOk PySem.Challenge.pw_basketfair_k71_frames_and_texts_of_entri w K mg base (L2.CX PySem.Challenge.pw_basketfair_k71_frames_and_texts_of_entri w) 5 fa fd ["script"] (spLawD K) := by
  have e := hfa.symm.trans (PySem.W.mg_of X G a_law)
  cases e
  have T : Txt PySem.Challenge.pw_basketfair_k71_frames_and_texts_of_entri w K mg := ⟨PySem.W.mg_none_of X G z_abs, PySem.W.mg_none_of X G z_all, PySem.W.mg_none_of X G z_bool, PySem.W.mg_none_of X G z_int, PySem.W.mg_none_of X G z_isinstance, PySem.W.mg_none_of X G z_len, PySem.W.mg_none_of X G z_list, PySem.W.mg_none_of X G z_max, PySem.W.mg_none_of X G z_range, PySem.W.mg_none_of X G z_str, PySem.W.mg_none_of X G z_sum, PySem.W.mg_none_of X G z_tuple, PySem.W.mg_none_of X G z_zip, gv_str (PySem.W.mg_of X G v_SIGNS), gv_str (PySem.W.mg_of X G v_DIGITS), gv_int (PySem.W.mg_of X G v_FACTOR), gv_int (PySem.W.mg_of X G v_MODULUS), gv_str (PySem.W.mg_of X G v_MARK), gv_str (PySem.W.mg_of X G v_END), gv_int (PySem.W.mg_of X G v_MOST_FIGURES), gv_str (PySem.W.mg_of X G v_SALE), gv_str (PySem.W.mg_of X G v_BACK), gv_str (PySem.W.mg_of X G v_SINGLE), gv_str (PySem.W.mg_of X G v_DROP)⟩
  have G_law := fun_mk (st := top 33) l_law c_law k_law
  have G_is_inner := fun_mk (st := top 8) l_is_inner c_is_inner k_is_inner
  have B_is_inner := G_is_inner.binds (ps := ["text"]) fun _ _ _ _ _ _ us hl => match us, hl with | [_], _ => rfl
  have G_check_of := fun_mk (st := top 9) l_check_of c_check_of k_check_of
  have B_check_of := G_check_of.binds (ps := ["text"]) fun _ _ _ _ _ _ us hl => match us, hl with | [_], _ => rfl
  have G_framed := fun_mk (st := top 10) l_framed c_framed k_framed
  have B_framed := G_framed.binds (ps := ["text"]) fun _ _ _ _ _ _ us hl => match us, hl with | [_], _ => rfl
  have G_is_number := fun_mk (st := top 11) l_is_number c_is_number k_is_number
  have B_is_number := G_is_number.binds (ps := ["word"]) fun _ _ _ _ _ _ us hl => match us, hl with | [_], _ => rfl
  have G_text_in := fun_mk (st := top 12) l_text_in c_text_in k_text_in
  have B_text_in := G_text_in.binds (ps := ["line"]) fun _ _ _ _ _ _ us hl => match us, hl with | [_], _ => rfl
  have G_unframed := fun_mk (st := top 13) l_unframed c_unframed k_unframed
  have B_unframed := G_unframed.binds (ps := ["data"]) fun _ _ _ _ _ _ us hl => match us, hl with | [_], _ => rfl
  have G_is_whole := fun_mk (st := top 14) l_is_whole c_is_whole k_is_whole
  have B_is_whole := G_is_whole.binds (ps := ["data"]) fun _ _ _ _ _ _ us hl => match us, hl with | [_], _ => rfl
  have G_spaced := fun_mk (st := top 20) l_spaced c_spaced k_spaced
  have B_spaced := G_spaced.binds (ps := ["words"]) fun _ _ _ _ _ _ us hl => match us, hl with | [_], _ => rfl
  have G_entry_text := fun_mk (st := top 21) l_entry_text c_entry_text k_entry_text
  have B_entry_text := G_entry_text.binds (ps := ["entry"]) fun _ _ _ _ _ _ us hl => match us, hl with | [_], _ => rfl
  have G__law_bag := fun_mk (st := top 23) l__law_bag c__law_bag k__law_bag
  have B__law_bag := G__law_bag.binds (ps := ["script"]) fun _ _ _ _ _ _ us hl => match us, hl with | [_], _ => rfl
  have G__law_take := fun_mk (st := top 24) l__law_take c__law_take k__law_take
  have B__law_take := G__law_take.binds (ps := ["bag", "many"]) fun _ _ _ _ _ _ us hl => match us, hl with | [_, _], _ => rfl
  have G__law_some := fun_mk (st := top 25) l__law_some c__law_some k__law_some
  have B__law_some := G__law_some.binds (ps := ["bag", "things"]) fun _ _ _ _ _ _ us hl => match us, hl with | [_, _], _ => rfl
  have G__law_alike := fun_mk (st := top 26) l__law_alike c__law_alike k__law_alike
  have B__law_alike := G__law_alike.binds (ps := ["found", "due"]) fun _ _ _ _ _ _ us hl => match us, hl with | [_, _], _ => rfl
  have G__law_check := fun_mk (st := top 27) l__law_check c__law_check k__law_check
  have B__law_check := G__law_check.binds (ps := ["text"]) fun _ _ _ _ _ _ us hl => match us, hl with | [_], _ => rfl
  have G__law_framed := fun_mk (st := top 28) l__law_framed c__law_framed k__law_framed
  have B__law_framed := G__law_framed.binds (ps := ["text"]) fun _ _ _ _ _ _ us hl => match us, hl with | [_], _ => rfl
  have G__law_number := fun_mk (st := top 29) l__law_number c__law_number k__law_number
  have B__law_number := G__law_number.binds (ps := ["word"]) fun _ _ _ _ _ _ us hl => match us, hl with | [_], _ => rfl
  have G__law_unframed := fun_mk (st := top 30) l__law_unframed c__law_unframed k__law_unframed
  have B__law_unframed := G__law_unframed.binds (ps := ["data"]) fun _ _ _ _ _ _ us hl => match us, hl with | [_], _ => rfl
  have G__law_text := fun_mk (st := top 31) l__law_text c__law_text k__law_text
  have B__law_text := G__law_text.binds (ps := ["bag"]) fun _ _ _ _ _ _ us hl => match us, hl with | [_], _ => rfl
  have G__law_bent := fun_mk (st := top 32) l__law_bent c__law_bent k__law_bent
  have B__law_bent := G__law_bent.binds (ps := ["bag", "data"]) fun _ _ _ _ _ _ us hl => match us, hl with | [_, _], _ => rfl
  refine ⟨PySem.W.fnOf "law" "law" (defArgs (top 33)) (defBody (top 33)) (defScope (top 33)) .none kV_law dc_law pm_law an_law cd_law ct_law, fun s v => .of_eq rfl, fun base _ _ => law_fn ?_ hlaw⟩
  have F_is_inner : Fn PySem.Challenge.pw_basketfair_k71_frames_and_texts_of_entri w K mg base 1 "is_inner" 1 f_is_inner := fn_is_inner T  G_is_inner (PySem.W.mg_of X G a_is_inner) B_is_inner
  have F_check_of : Fn PySem.Challenge.pw_basketfair_k71_frames_and_texts_of_entri w K mg base 1 "check_of" 1 f_check_of := fn_check_of T  G_check_of (PySem.W.mg_of X G a_check_of) B_check_of
  have F_is_number : Fn PySem.Challenge.pw_basketfair_k71_frames_and_texts_of_entri w K mg base 1 "is_number" 1 f_is_number := fn_is_number T  G_is_number (PySem.W.mg_of X G a_is_number) B_is_number
  have F_spaced : Fn PySem.Challenge.pw_basketfair_k71_frames_and_texts_of_entri w K mg base 1 "spaced" 1 f_spaced := fn_spaced T  G_spaced (PySem.W.mg_of X G a_spaced) B_spaced
  have F__law_bag : Fn PySem.Challenge.pw_basketfair_k71_frames_and_texts_of_entri w K mg base 1 "_law_bag" 1 f__law_bag := fn__law_bag T  G__law_bag (PySem.W.mg_of X G a__law_bag) B__law_bag
  have F__law_take : Fn PySem.Challenge.pw_basketfair_k71_frames_and_texts_of_entri w K mg base 1 "_law_take" 2 f__law_take := fn__law_take T  G__law_take (PySem.W.mg_of X G a__law_take) B__law_take
  have F__law_alike : Fn PySem.Challenge.pw_basketfair_k71_frames_and_texts_of_entri w K mg base 1 "_law_alike" 2 f__law_alike := fn__law_alike T  G__law_alike (PySem.W.mg_of X G a__law_alike) B__law_alike
  have F__law_check : Fn PySem.Challenge.pw_basketfair_k71_frames_and_texts_of_entri w K mg base 1 "_law_check" 1 f__law_check := fn__law_check T  G__law_check (PySem.W.mg_of X G a__law_check) B__law_check
  have F__law_number : Fn PySem.Challenge.pw_basketfair_k71_frames_and_texts_of_entri w K mg base 1 "_law_number" 1 f__law_number := fn__law_number T  G__law_number (PySem.W.mg_of X G a__law_number) B__law_number
  have F_framed : Fn PySem.Challenge.pw_basketfair_k71_frames_and_texts_of_entri w K mg base 2 "framed" 1 f_framed := fn_framed T F_check_of G_framed (PySem.W.mg_of X G a_framed) B_framed
  have F_text_in : Fn PySem.Challenge.pw_basketfair_k71_frames_and_texts_of_entri w K mg base 2 "text_in" 1 f_text_in := fn_text_in T F_check_of F_is_inner F_is_number G_text_in (PySem.W.mg_of X G a_text_in) B_text_in
  have F_entry_text : Fn PySem.Challenge.pw_basketfair_k71_frames_and_texts_of_entri w K mg base 2 "entry_text" 1 f_entry_text := fn_entry_text T F_spaced G_entry_text (PySem.W.mg_of X G a_entry_text) B_entry_text
  have F__law_some : Fn PySem.Challenge.pw_basketfair_k71_frames_and_texts_of_entri w K mg base 2 "_law_some" 2 f__law_some := fn__law_some T F__law_take G__law_some (PySem.W.mg_of X G a__law_some) B__law_some
  have F__law_framed : Fn PySem.Challenge.pw_basketfair_k71_frames_and_texts_of_entri w K mg base 2 "_law_framed" 1 f__law_framed := fn__law_framed T F__law_check G__law_framed (PySem.W.mg_of X G a__law_framed) B__law_framed
  have F__law_unframed : Fn PySem.Challenge.pw_basketfair_k71_frames_and_texts_of_entri w K mg base 2 "_law_unframed" 1 f__law_unframed := fn__law_unframed T F__law_check F__law_number G__law_unframed (PySem.W.mg_of X G a__law_unframed) B__law_unframed
  have F_unframed : Fn PySem.Challenge.pw_basketfair_k71_frames_and_texts_of_entri w K mg base 3 "unframed" 1 f_unframed := fn_unframed T F_text_in G_unframed (PySem.W.mg_of X G a_unframed) B_unframed
  have F__law_text : Fn PySem.Challenge.pw_basketfair_k71_frames_and_texts_of_entri w K mg base 3 "_law_text" 1 f__law_text := fn__law_text T F__law_some G__law_text (PySem.W.mg_of X G a__law_text) B__law_text
  have F__law_bent : Fn PySem.Challenge.pw_basketfair_k71_frames_and_texts_of_entri w K mg base 3 "_law_bent" 2 f__law_bent := fn__law_bent T F__law_some F__law_take G__law_bent (PySem.W.mg_of X G a__law_bent) B__law_bent
  have F_is_whole : Fn PySem.Challenge.pw_basketfair_k71_frames_and_texts_of_entri w K mg base 4 "is_whole" 1 f_is_whole := fn_is_whole T F_unframed G_is_whole (PySem.W.mg_of X G a_is_whole) B_is_whole
  exact ok_law T F__law_alike F__law_bag F__law_bent F__law_check F__law_framed F__law_take F__law_text F__law_unframed F_check_of F_entry_text F_framed F_is_whole F_unframed G_law
end DL

set_option Elab.async false
set_option linter.all false
set_option maxRecDepth 100000
set_option maxHeartbeats 4000000
namespace DL
open PySem PySem.Spec PyProof.Rows L2

/-! ### the bag that is drawn from -/
def bagL (b0 b1 b2 : Int) (cs : List Int) : List PyData := [.int b0, .int b1, .int b2, .list (cs.map PyData.int)]
/-- the bag stands first in the store; n draws are left -/
def Bag (n : Nat) (rest S : Sto) : Prop := ∃ (b0 b1 b2 : Int) (cs : List Int), S = .lst (bagL b0 b1 b2 cs) :: rest ∧ 0 ≤ b0 ∧ 0 ≤ b1 ∧ b1 < 2147483647 ∧ 0 ≤ b2 ∧ b2 + n ≤ 1000000000 ∧ (∀ c ∈ cs, 0 ≤ c) ∧ cs.length ≤ 63
theorem Bag.mono {m n : Nat} {rest S : Sto} (h : Bag n rest S) (hm : m ≤ n) : Bag m rest S := by
  obtain ⟨b0, b1, b2, cs, e, h0, h1, h2, h3, h4, h5⟩ := h
  exact ⟨b0, b1, b2, cs, e, h0, h1, h2, h3, by omega, h5⟩
theorem Bag.len {n : Nat} {rest S : Sto} (h : Bag n rest S) : S.length = rest.length + 1 := by
  obtain ⟨b0, b1, b2, cs, e, _⟩ := h
  rw [e]; rfl
theorem call1 {α : Type} (w : Wv) (x y : α) : (if [w].length = 1 then x else y) = x := rfl
theorem call2 {α : Type} (w u : Wv) (x y : α) : (if [w, u].length = 2 then x else y) = x := rfl
theorem lo0 : litOk ([] : List PyData).length = true := by decide
theorem lo1 (a : PyData) : litOk [a].length = true := by show litOk 1 = true; decide
theorem lo2 (a b : PyData) : litOk [a, b].length = true := by show litOk 2 = true; decide
theorem lo3 (a b c : PyData) : litOk [a, b, c].length = true := by show litOk 3 = true; decide
theorem lo4 (a b c d : PyData) : litOk [a, b, c, d].length = true := by show litOk 4 = true; decide
theorem lo5 (a b c d e : PyData) : litOk [a, b, c, d, e].length = true := by show litOk 5 = true; decide
theorem at_0 (a b c d : PyData) : atI [a, b, c, d] 0 = some a := rfl
theorem at_1 (a b c d : PyData) : atI [a, b, c, d] 1 = some b := rfl
theorem at_2 (a b c d : PyData) : atI [a, b, c, d] 2 = some c := rfl
theorem at_3 (a b c d : PyData) : atI [a, b, c, d] 3 = some d := rfl
theorem lg400 (n : Nat) (h : n < 2 ^ 400) : n.log2 < 400 := by
  by_cases hn : n = 0
  · subst hn; decide
  · exact (Nat.log2_lt hn).mpr h
theorem mulOk_small {i j : Int} (h1 : i.natAbs < 2 ^ 400) (h2 : j.natAbs < 2 ^ 400) : mulOk i j = true := by
  unfold mulOk
  have h3 := lg400 _ h1
  have h4 := lg400 _ h2
  exact decide_eq_true (Nat.lt_trans (Nat.add_lt_add h3 h4) (by decide))
theorem drop_ints {cs : List Int} (h : ∀ c ∈ cs, 0 ≤ c) (lo hi : Option Int) : ∃ ds : List Int, cutD (cs.map PyData.int) lo hi = ds.map PyData.int ∧ (∀ c ∈ ds, 0 ≤ c) ∧ ds.length ≤ cs.length := by
  refine ⟨(cs.drop (HT.sIx cs.length 0 lo)).take (HT.sIx cs.length cs.length hi - HT.sIx cs.length 0 lo), ?_, fun c hc => h c (List.mem_of_mem_drop (List.mem_of_mem_take hc)), ?_⟩
  · unfold cutD
    rw [List.length_map, List.map_take, List.map_drop]
  · rw [List.length_take, List.length_drop]; omega
theorem first_cell {ds : List Int} (h : ∀ c ∈ ds, 0 ≤ c) : ∃ c : Int, 0 ≤ c ∧ atI (ds.map PyData.int ++ [.int 0]) 0 = some (.int c) := by
  cases ds with
  | nil => exact ⟨0, Int.le_refl _, rfl⟩
  | cons c r => 
    refine ⟨c, h c (by simp), ?_⟩
    unfold atI ixN
    rw [if_pos (Int.le_refl 0), if_pos (by simp; omega)]
    rfl
theorem fmod_range (a : Int) {m : Int} (h : 0 < m) : 0 ≤ a.fmod m ∧ a.fmod m < m := ⟨Int.fmod_nonneg_of_pos a h, Int.fmod_lt_of_pos a h⟩
theorem eqv_int (a b : Int) : PyData.eqv (.int a) (.int b) = (a == b) := by simp [PyData.eqv]
theorem eqD_int (a b : Int) : eqD (.int a) (.int b) = some (.bool (a == b)) := by
  unfold eqD
  rw [if_pos (by rfl), eqv_int]
theorem neD_int (a b : Int) : neD (.int a) (.int b) = some (.bool (!(a == b))) := by
  unfold neD
  rw [if_pos (by rfl), eqv_int]
theorem ixSet4 (a b c d x : PyData) : ixSet [a, b, c, d] 0 x = some [x, b, c, d] ∧ ixSet [a, b, c, d] 1 x = some [a, x, c, d] ∧ ixSet [a, b, c, d] 2 x = some [a, b, x, d] := ⟨rfl, rfl, rfl⟩
/-- the second half of a draw -/
noncomputable def takeB : SF := (sSeq (sIf (tCmpB gtD (eBin ixD (eVar 0) (eC (.int 0))) (eC (.int 0))) (sSeq (sSet 4 (eBin modD (eB intG (lCons (eBin ixD (eVar 0) (eC (.int 0))) lNil)) (eVar 1))) (sSeq (sPut (eVar 0) (eC (.int 0)) (eBin fdivD (eB intG (lCons (eBin ixD (eVar 0) (eC (.int 0))) lNil)) (eVar 1))) (sRet (eVar 4)))) sNil) (sSeq (sSet 5 (eBin modD (eB intG (lCons (eBin mulD (eBin addD (eBin ixD (eVar 0) (eC (.int 1))) (eC (.int 1))) (eC (.int 39373))) lNil)) (eC (.int 1000000007)))) (sSeq (sSet 6 (eBin modD (eB intG (lCons (eBin mulD (eBin modD (eB intG (lCons (eBin mulD (eVar 5) (eVar 5)) lNil)) (eC (.int 998244353))) (eC (.int 30011))) lNil)) (eC (.int 998244353)))) (sRet (eBin modD (eB intG (lCons (eBin fdivD (eVar 6) (eC (.int 7))) lNil)) (eVar 1))))))
theorem take_half {many b0 b1 b2 : Int} {cs : List Int} {n : Nat} {rest : Sto} {w2 w3 w4 w5 w6 : Option Wv} (hm : 0 < many) (hml : many.natAbs.log2 < 9000) (h0 : 0 ≤ b0) (h1 : 0 ≤ b1) (h2 : b1 < 2147483647) (h3 : 0 ≤ b2) (h4 : b2 + n ≤ 1000000000) (h5 : ∀ c ∈ cs, 0 ≤ c) (h6 : cs.length ≤ 63) :
    ∃ r S', takeB [some (.own 0), some (.d (.int many)), w2, w3, w4, w5, w6] (.lst (bagL b0 b1 b2 cs) :: rest) = .fl (.rt (.d (.int r))) S' ∧ 0 ≤ r ∧ r < many ∧ Bag n rest S' := by
  have hmne : many ≠ 0 := by omega
  have hdv : divOk many = true := decide_eq_true ⟨hmne, hml⟩
  by_cases hb : 0 < b0
  · refine ⟨b0.fmod many, .lst (bagL (b0.fdiv many) b1 b2 cs) :: rest, ?_, (fmod_range b0 hm).1, (fmod_range b0 hm).2, b0.fdiv many, b1, b2, cs, rfl, Int.fdiv_nonneg h0 (by omega), h1, h2, h3, h4, h5, h6⟩
    simp only [takeB, bagL, hb, hmne, fdivD, hdv, sSeq, sIf, tCmpB, tChB, tTru, tAndB, tOrB, tNotB, eAnd, eOr, eNot, truW, truD, eBin, eCh, eIf, eVar, eC, Rs.bind, op2, bool2, view, List.getElem?_cons_zero, List.getElem?_cons_succ, ixD, at_0, at_1, at_2, at_3, gtD, ltD, leD, geD, decide_true, decide_false, bindS, seqR, sSet, eB, lCons, lNil, opN, views, Option.map, Option.some.injEq, intG, absG, lenG, modD, addD, subD, iaddD, if_true, if_false, reduceIte, call1, call2, lo0, lo1, lo2, lo3, lo4, lo5, List.set, sPut, sAugI, sAug, frzW, eFrz, ownL, ixSet4, sRet, sExpr, eOwn, eFz, mLst, dats, sNil, sRetN, eqD_int, neD_int, oSom, oNon, eSl, slD, Bool.false_eq_true, Bool.not_true, Bool.not_false, eTup, sPar, eCall, List.length_cons, List.length_nil, sAsg]
  · have hb0 : ¬ (0 < b0) := hb
    have hd7 : divOk 7 = true := by decide
    have m1 : mulOk (b1 + 1) 39373 = true := mulOk_small (by omega) (by decide)
    have g0 := fmod_range ((b1 + 1) * 39373) (m := 1000000007) (by decide)
    have m2 : mulOk (((b1 + 1) * 39373).fmod 1000000007) (((b1 + 1) * 39373).fmod 1000000007) = true := mulOk_small (by omega) (by omega)
    generalize hB : ((b1 + 1) * 39373).fmod 1000000007 = B at *
    have g1 := fmod_range (B * B) (m := 998244353) (by decide)
    have m3 : mulOk ((B * B).fmod 998244353) 30011 = true := mulOk_small (by omega) (by decide)
    generalize hC : (B * B).fmod 998244353 = C at *
    have c1 : (1000000007 : Int) ≠ 0 := by decide
    have c2 : (998244353 : Int) ≠ 0 := by decide
    refine ⟨(((C * 30011).fmod 998244353).fdiv 7).fmod many, .lst (bagL b0 b1 b2 cs) :: rest, ?_, (fmod_range _ hm).1, (fmod_range _ hm).2, b0, b1, b2, cs, rfl, h0, h1, h2, h3, h4, h5, h6⟩
    simp only [takeB, bagL, hb0, hmne, fdivD, hd7, mulD, m1, m2, m3, hB, hC, c1, c2, sSeq, sIf, tCmpB, tChB, tTru, tAndB, tOrB, tNotB, eAnd, eOr, eNot, truW, truD, eBin, eCh, eIf, eVar, eC, Rs.bind, op2, bool2, view, List.getElem?_cons_zero, List.getElem?_cons_succ, ixD, at_0, at_1, at_2, at_3, gtD, ltD, leD, geD, decide_true, decide_false, bindS, seqR, sSet, eB, lCons, lNil, opN, views, Option.map, Option.some.injEq, intG, absG, lenG, modD, addD, subD, iaddD, if_true, if_false, reduceIte, call1, call2, lo0, lo1, lo2, lo3, lo4, lo5, List.set, sPut, sAugI, sAug, frzW, eFrz, ownL, ixSet4, sRet, sExpr, eOwn, eFz, mLst, dats, sNil, sRetN, eqD_int, neD_int, oSom, oNon, eSl, slD, Bool.false_eq_true, Bool.not_true, Bool.not_false, eTup, sPar, eCall, List.length_cons, List.length_nil, sAsg]
theorem powD_18 : powD (.int 10) (.int 18) = some (.int (10 ^ 18)) := rfl
theorem Bag.cut {n : Nat} {rest S S' : Sto} (h : Bag n rest S) (h' : S'.length = rest.length + 1) : S.take S'.length = S := by
  rw [h', ← h.len, List.take_length]
theorem run_ret {nn ar : Nat} {b : SF} {ws : List Wv} {S S' : Sto} {d : PyData} (h : b (ws.map some ++ List.replicate (nn - ar) none) S = .fl (.rt (.d d)) S') : runDef nn ar b ws S = .ok (.d d) (S'.take S.length) := by
  unfold runDef
  rw [h]
  rfl
theorem take_sem {n : Nat} {many : Int} {rest S : Sto} (hB : Bag (n + 1) rest S) (hm : 0 < many) (hml : many.natAbs.log2 < 9000) : ∃ r S', f__law_take [.own 0, .d (.int many)] S = .ok (.d (.int r)) S' ∧ 0 ≤ r ∧ r < many ∧ Bag n rest S' := by
  obtain ⟨b0, b1, b2, cs, e, h0, h1, h2, h3, h4, h5, h6⟩ := id hB
  have key : ∃ r S', b__law_take [some (.own 0), some (.d (.int many)), none, none, none, none, none] S = .fl (.rt (.d (.int r))) S' ∧ 0 ≤ r ∧ r < many ∧ Bag n rest S' := by
    subst e
    by_cases hb : b0 = 0
    · subst hb
      obtain ⟨ds, e1, e2, e3⟩ := drop_ints h5 (some b2) none
      obtain ⟨c, c0, e4⟩ := first_cell e2
      have hlen : (ds.map PyData.int).length + (0 + 1) ≤ sizeLine := by
        rw [List.length_map]
        have : (100 : Nat) ≤ sizeLine := by decide
        omega
      have hzero : ((0 : Int) == 0) = true := rfl
      have hl1 : litOk (0 + 1) = true := by decide
      have nz : (2147483647 : Int) ≠ 0 := by decide
      have m1 : mulOk b1 48271 = true := mulOk_small (by omega) (by decide)
      have m2 : mulOk 7919 (b2 + 1) = true := mulOk_small (by decide) (by omega)
      have gs := fmod_range (b1 * 48271 + c.fmod 2147483647 + 7919 * (b2 + 1)) (m := 2147483647) (by decide)
      by_cases hc : (10 ^ 18 : Int) ≤ c
      · obtain ⟨r, S', g1, g2⟩ := take_half (rest := rest) (w2 := some (.d (.int c))) (w3 := some (.d (.int (b1 * 48271 + c.fmod 2147483647 + 7919 * (b2 + 1))))) (w4 := none) (w5 := none) (w6 := none) (b0 := c) (b1 := (b1 * 48271 + c.fmod 2147483647 + 7919 * (b2 + 1)).fmod 2147483647) (b2 := b2 + 1) (n := n) hm hml c0 gs.1 gs.2 (by omega) (by omega) h5 h6
        refine ⟨r, S', ?_, g2⟩
        rw [← g1]
        show seqR _ takeB = _
        simp only [bagL, e1, e4, hlen, hzero, hl1, powD_18, hc, mulD, m1, m2, nz, sSeq, sIf, tCmpB, tChB, tTru, tAndB, tOrB, tNotB, eAnd, eOr, eNot, truW, truD, eBin, eCh, eIf, eVar, eC, Rs.bind, op2, bool2, view, List.getElem?_cons_zero, List.getElem?_cons_succ, ixD, at_0, at_1, at_2, at_3, gtD, ltD, leD, geD, decide_true, decide_false, bindS, seqR, sSet, eB, lCons, lNil, opN, views, Option.map, Option.some.injEq, intG, absG, lenG, modD, addD, subD, iaddD, if_true, if_false, reduceIte, call1, call2, lo0, lo1, lo2, lo3, lo4, lo5, List.set, sPut, sAugI, sAug, frzW, eFrz, ownL, ixSet4, sRet, sExpr, eOwn, eFz, mLst, dats, sNil, sRetN, eqD_int, neD_int, oSom, oNon, eSl, slD, Bool.false_eq_true, Bool.not_true, Bool.not_false, eTup, sPar, eCall, List.length_cons, List.length_nil, sAsg]
      · obtain ⟨r, S', g1, g2⟩ := take_half (rest := rest) (w2 := some (.d (.int c))) (w3 := some (.d (.int (b1 * 48271 + c.fmod 2147483647 + 7919 * (b2 + 1))))) (w4 := none) (w5 := none) (w6 := none) (b0 := 0) (b1 := (b1 * 48271 + c.fmod 2147483647 + 7919 * (b2 + 1)).fmod 2147483647) (b2 := b2 + 1) (n := n) hm hml (Int.le_refl _) gs.1 gs.2 (by omega) (by omega) h5 h6
        refine ⟨r, S', ?_, g2⟩
        rw [← g1]
        show seqR _ takeB = _
        simp only [bagL, e1, e4, hlen, hzero, hl1, powD_18, hc, mulD, m1, m2, nz, sSeq, sIf, tCmpB, tChB, tTru, tAndB, tOrB, tNotB, eAnd, eOr, eNot, truW, truD, eBin, eCh, eIf, eVar, eC, Rs.bind, op2, bool2, view, List.getElem?_cons_zero, List.getElem?_cons_succ, ixD, at_0, at_1, at_2, at_3, gtD, ltD, leD, geD, decide_true, decide_false, bindS, seqR, sSet, eB, lCons, lNil, opN, views, Option.map, Option.some.injEq, intG, absG, lenG, modD, addD, subD, iaddD, if_true, if_false, reduceIte, call1, call2, lo0, lo1, lo2, lo3, lo4, lo5, List.set, sPut, sAugI, sAug, frzW, eFrz, ownL, ixSet4, sRet, sExpr, eOwn, eFz, mLst, dats, sNil, sRetN, eqD_int, neD_int, oSom, oNon, eSl, slD, Bool.false_eq_true, Bool.not_true, Bool.not_false, eTup, sPar, eCall, List.length_cons, List.length_nil, sAsg]
    · obtain ⟨r, S', g1, g2⟩ := take_half (rest := rest) (w2 := none) (w3 := none) (w4 := none) (w5 := none) (w6 := none) (b0 := b0) (b1 := b1) (b2 := b2) (n := n) hm hml h0 h1 h2 h3 (by omega) h5 h6
      refine ⟨r, S', ?_, g2⟩
      rw [← g1]
      have hne : (b0 == 0) = false := by simpa using hb
      show seqR _ takeB = _
      simp only [bagL, hne, sSeq, sIf, tCmpB, tChB, tTru, tAndB, tOrB, tNotB, eAnd, eOr, eNot, truW, truD, eBin, eCh, eIf, eVar, eC, Rs.bind, op2, bool2, view, List.getElem?_cons_zero, List.getElem?_cons_succ, ixD, at_0, at_1, at_2, at_3, gtD, ltD, leD, geD, decide_true, decide_false, bindS, seqR, sSet, eB, lCons, lNil, opN, views, Option.map, Option.some.injEq, intG, absG, lenG, modD, addD, subD, iaddD, if_true, if_false, reduceIte, call1, call2, lo0, lo1, lo2, lo3, lo4, lo5, List.set, sPut, sAugI, sAug, frzW, eFrz, ownL, ixSet4, sRet, sExpr, eOwn, eFz, mLst, dats, sNil, sRetN, eqD_int, neD_int, oSom, oNon, eSl, slD, Bool.false_eq_true, Bool.not_true, Bool.not_false, eTup, sPar, eCall, List.length_cons, List.length_nil, sAsg]
  obtain ⟨r, S', g1, g2, g3, g4⟩ := key
  refine ⟨r, S', ?_, g2, g3, g4⟩
  have := run_ret (nn := 7) (ar := 2) (ws := [.own 0, .d (.int many)]) g1
  rw [g4.cut hB.len] at this
  exact this
end DL

set_option Elab.async false
set_option linter.all false
set_option maxRecDepth 100000
set_option maxHeartbeats 4000000
namespace DL
open PySem PySem.Spec PyProof.Rows L2
theorem some_sem {n : Nat} {things : List PyData} {rest S : Sto} (hB : Bag (n + 1) rest S) (hne : things ≠ []) (hl : things.length ≤ 1000000) : ∃ x S', f__law_some [.own 0, .d (.list things)] S = .ok (.d x) S' ∧ x ∈ things ∧ Bag n rest S' := by
  have hpos : 0 < (things.length : Int) := by
    have : 0 < things.length := List.length_pos_iff.mpr hne
    omega
  have hlg : ((things.length : Nat) : Int).natAbs.log2 < 9000 := by
    have : ((things.length : Nat) : Int).natAbs < 2 ^ 400 := by omega
    exact Nat.lt_trans (lg400 _ this) (by decide)
  obtain ⟨r, S', e, r0, r1, hB'⟩ := take_sem hB hpos hlg
  have hr : r.toNat < things.length := by omega
  have hat : atI things r = some things[r.toNat] := by
    unfold atI ixN
    rw [if_pos r0, if_pos r1]
    simp [hr]
  refine ⟨things[r.toNat], S', ?_, List.getElem_mem _, hB'⟩
  have h2 : b__law_some [some (.own 0), some (.d (.list things))] S = .fl (.rt (.d things[r.toNat])) S' := by
    simp only [b__law_some, sSeq, sIf, tCmpB, tChB, tTru, tAndB, tOrB, tNotB, eAnd, eOr, eNot, truW, truD, eBin, eCh, eIf, eVar, eC, Rs.bind, op2, bool2, view, List.getElem?_cons_zero, List.getElem?_cons_succ, ixD, at_0, at_1, at_2, at_3, gtD, ltD, leD, geD, decide_true, decide_false, bindS, seqR, sSet, eB, lCons, lNil, opN, views, Option.map, Option.some.injEq, intG, absG, lenG, modD, addD, subD, iaddD, if_true, if_false, reduceIte, call1, call2, lo0, lo1, lo2, lo3, lo4, lo5, List.set, sPut, sAugI, sAug, frzW, eFrz, ownL, ixSet4, sRet, sExpr, eOwn, eFz, mLst, dats, sNil, sRetN, eqD_int, neD_int, oSom, oNon, eSl, slD, Bool.false_eq_true, Bool.not_true, Bool.not_false, eTup, sPar, eCall, List.length_cons, List.length_nil, sAsg]
    rw [e]
    simp only [hat, sSeq, sIf, tCmpB, tChB, tTru, tAndB, tOrB, tNotB, eAnd, eOr, eNot, truW, truD, eBin, eCh, eIf, eVar, eC, Rs.bind, op2, bool2, view, List.getElem?_cons_zero, List.getElem?_cons_succ, ixD, at_0, at_1, at_2, at_3, gtD, ltD, leD, geD, decide_true, decide_false, bindS, seqR, sSet, eB, lCons, lNil, opN, views, Option.map, Option.some.injEq, intG, absG, lenG, modD, addD, subD, iaddD, if_true, if_false, reduceIte, call1, call2, lo0, lo1, lo2, lo3, lo4, lo5, List.set, sPut, sAugI, sAug, frzW, eFrz, ownL, ixSet4, sRet, sExpr, eOwn, eFz, mLst, dats, sNil, sRetN, eqD_int, neD_int, oSom, oNon, eSl, slD, Bool.false_eq_true, Bool.not_true, Bool.not_false, eTup, sPar, eCall, List.length_cons, List.length_nil, sAsg]
  have := run_ret (nn := 2) (ar := 2) (ws := [.own 0, .d (.list things)]) h2
  rw [hB'.cut hB.len] at this
  exact this

/-! ### the comparison -/
mutual
def wgt : PyData → Nat
  | .list l => 1 + wgts l
  | .tuple l => 1 + wgts l
  | _ => 1
def wgts : List PyData → Nat
  | [] => 0
  | x :: r => wgt x + wgts r
end
mutual
/-- data that compare equal to themselves -/
def refl? : PyData → Bool
  | .list l => refls l
  | .tuple l => refls l
  | .dict _ => false
  | _ => true
def refls : List PyData → Bool
  | [] => true
  | x :: r => refl? x && refls r
end
theorem wgts_append : ∀ l m : List PyData, wgts (l ++ m) = wgts l + wgts m
  | [], m => by simp [wgts]
  | x :: l, m => by rw [List.cons_append, wgts, wgts, wgts_append l m]; omega
theorem refls_append : ∀ l m : List PyData, refls (l ++ m) = (refls l && refls m)
  | [], m => by simp [refls]
  | x :: l, m => by rw [List.cons_append, refls, refls, refls_append l m, Bool.and_assoc]
theorem wgt_pos : ∀ x : PyData, 1 ≤ wgt x := fun x => by cases x <;> simp [wgt]
theorem len_wgts : ∀ l : List PyData, l.length ≤ wgts l
  | [] => Nat.le_refl _
  | x :: l => by
    have := wgt_pos x
    have := len_wgts l
    rw [List.length_cons, wgts]; omega
def twin (x : PyData) : PyData := .tuple [x, x]
noncomputable def alkC : BF := (tCmpB ltD (eVar 3) (eB lenG (lCons (eVar 2) lNil)))
noncomputable def alkB : SF := (sSeq (sAsg (eBin ixD (eVar 2) (eVar 3)) (gTp 2 (gsCons (gNm 4) (gsCons (gNm 5) gsNil)))) (sSeq (sAug 3 iaddD (eC (.int 1))) (sSeq (sIf (tOrB (tCmpB neD (eIsi ["bool"] (eVar 4)) (eIsi ["bool"] (eVar 5))) (tCmpB neD (eIsi ["str"] (eVar 4)) (eIsi ["str"] (eVar 5)))) (sRet (eC (.bool false))) sNil) (sSeq (sIf (tCmpB neD (eIsi ["tuple", "list"] (eVar 4)) (eIsi ["tuple", "list"] (eVar 5))) (sRet (eC (.bool false))) sNil) (sIf (tTru (eIsi ["tuple", "list"] (eVar 4))) (sSeq (sIf (tOrB (tCmpB neD (eIsi ["tuple"] (eVar 4)) (eIsi ["tuple"] (eVar 5))) (tCmpB neD (eB lenG (lCons (eVar 4) lNil)) (eB lenG (lCons (eVar 5) lNil)))) (sRet (eC (.bool false))) sNil) (sExpr (eExt (eVar 2) (mZip (lCons (eVar 4) (lCons (eVar 5) lNil)))))) (sIf (tCmpB neD (eVar 4) (eVar 5)) (sRet (eC (.bool false))) sNil))))))
theorem neD_bool (a b : Bool) : neD (.bool a) (.bool b) = some (.bool (!(a == b))) := by
  unfold neD
  rw [if_pos (by rfl)]
  simp [PyData.eqv]
theorem zip_twin : ∀ l : List PyData, zipD l l = l.map twin
  | [] => rfl
  | x :: l => by
    have := zip_twin l
    unfold zipD at *
    rw [List.zip_cons_cons, List.map_cons, this]
    rfl
theorem last_get {rest : Sto} {o : MO} : (rest ++ [o])[rest.length]? = some o := by simp
theorem last_set {rest : Sto} {o u : MO} : (rest ++ [o]).set rest.length u = rest ++ [u] := by simp
theorem mid_at {pre q : List PyData} {x : PyData} : atI (pre ++ x :: q) (pre.length : Int) = some x := by
  unfold atI ixN
  rw [if_pos (by omega), if_pos (by rw [List.length_append, List.length_cons]; omega)]
  simp
theorem isi_same (b : Bool) : (!(b == b)) = false := by cases b <;> rfl
theorem beq_same_int (a : Int) : (a == a) = true := beq_self_eq_true a
/-- one turn of the comparison, of a thing with itself -/
theorem alk_turn {rest : Sto} {w0 w1 : Option Wv} {w4 w5 : Option Wv} {pre q : List PyData} {x : PyData} (hx : refl? x = true) (hz : pre.length + wgts (x :: q) ≤ 1000000) :
    ∃ more : List PyData, alkB [w0, w1, some (.own rest.length), some (.d (.int pre.length)), w4, w5] (rest ++ [.lst (pre ++ twin x :: q.map twin)])
      = .fl (.nx [w0, w1, some (.own rest.length), some (.d (.int (pre.length + 1))), some (.d x), some (.d x)]) (rest ++ [.lst (pre ++ twin x :: (q ++ more).map twin)]) ∧ wgts more + 1 = wgt x ∧ refls more = true := by
  have hsz : ∀ l : List PyData, wgt x = 1 + wgts l → (pre ++ twin x :: q.map twin).length + (l.map twin).length ≤ sizeLine := fun l hl => by
    have h1 := len_wgts l
    have h2 := len_wgts q
    have h3 : (1000000 : Nat) ≤ sizeLine := by decide
    rw [wgts] at hz
    simp only [List.length_append, List.length_cons, List.length_map]
    omega
  have fin : ∀ more : List PyData, pre ++ twin x :: (q ++ more).map twin = (pre ++ twin x :: q.map twin) ++ more.map twin := fun more => by simp
  have leaf : (["tuple", "list"].any fun c => subT (tyD x) c) = false → neD x x = some (.bool false) → wgt x = 1 → ∃ more : List PyData, alkB [w0, w1, some (.own rest.length), some (.d (.int pre.length)), w4, w5] (rest ++ [.lst (pre ++ twin x :: q.map twin)])
      = .fl (.nx [w0, w1, some (.own rest.length), some (.d (.int (pre.length + 1))), some (.d x), some (.d x)]) (rest ++ [.lst (pre ++ twin x :: (q ++ more).map twin)]) ∧ wgts more + 1 = wgt x ∧ refls more = true := fun h1 h2 h3 => by
    refine ⟨[], ?_, by rw [h3]; rfl, rfl⟩
    rw [List.append_nil]
    simp only [alkB, last_get, mid_at, twin, gTp, gsCons, gsNil, gNm, eIsi, isiW, neD_bool, isi_same, h1, h2, sSeq, sIf, tCmpB, tChB, tTru, tAndB, tOrB, tNotB, eAnd, eOr, eNot, truW, truD, eBin, eCh, eIf, eVar, eC, Rs.bind, op2, bool2, view, List.getElem?_cons_zero, List.getElem?_cons_succ, ixD, at_0, at_1, at_2, at_3, gtD, ltD, leD, geD, decide_true, decide_false, bindS, seqR, sSet, eB, lCons, lNil, opN, views, Option.map, Option.some.injEq, intG, absG, lenG, modD, addD, subD, iaddD, if_true, if_false, reduceIte, call1, call2, lo0, lo1, lo2, lo3, lo4, lo5, List.set, sPut, sAugI, sAug, frzW, eFrz, ownL, ixSet4, sRet, sExpr, eOwn, eFz, mLst, dats, sNil, sRetN, eqD_int, neD_int, oSom, oNon, eSl, slD, Bool.false_eq_true, Bool.not_true, Bool.not_false, eTup, sPar, eCall, List.length_cons, List.length_nil, sAsg]
  have node : ∀ l : List PyData, (x = .list l ∨ x = .tuple l) → refls l = true → ∃ more : List PyData, alkB [w0, w1, some (.own rest.length), some (.d (.int pre.length)), w4, w5] (rest ++ [.lst (pre ++ twin x :: q.map twin)])
      = .fl (.nx [w0, w1, some (.own rest.length), some (.d (.int (pre.length + 1))), some (.d x), some (.d x)]) (rest ++ [.lst (pre ++ twin x :: (q ++ more).map twin)]) ∧ wgts more + 1 = wgt x ∧ refls more = true := fun l hxl hr => by
    have hw : wgt x = 1 + wgts l := by rcases hxl with e | e <;> rw [e, wgt]
    have h1 : (["tuple", "list"].any fun c => subT (tyD x) c) = true := by rcases hxl with e | e <;> rw [e] <;> rfl
    have h2 : lenG [x] = some (.int l.length) := by rcases hxl with e | e <;> rw [e] <;> rfl
    have h3 : ∃ b, kindB x = some (b, l) := by rcases hxl with e | e <;> rw [e] <;> exact ⟨_, rfl⟩
    obtain ⟨b, h3⟩ := h3
    have h4 := hsz l hw
    refine ⟨l, ?_, by rw [hw]; omega, hr⟩
    rw [fin]
    generalize hL : pre ++ twin x :: q.map twin = L at *
    have hat : atI L (pre.length : Int) = some (.tuple [x, x]) := by rw [← hL]; exact mid_at
    simp only [alkB, last_get, last_set, hat, gTp, gsCons, gsNil, gNm, eIsi, isiW, neD_bool, isi_same, h1, h2, h3, h4, eExt, mZip, zip_twin, sSeq, sIf, tCmpB, tTru, tOrB, truW, truD, eBin, eVar, eC, Rs.bind, op2, bool2, view, List.getElem?_cons_zero, List.getElem?_cons_succ, ixD, bindS, seqR, eB, lCons, lNil, opN, views, Option.map, iaddD, if_true, if_false, reduceIte, List.set, sAug, frzW, ownL, sExpr, sNil, neD_int, beq_same_int, Bool.false_eq_true, Bool.not_true, sAsg, List.length_cons, List.length_nil]
  cases x with
  | none => exact leaf rfl rfl rfl
  | bool b => exact leaf rfl (by rw [neD_bool, isi_same]) rfl
  | int i => exact leaf rfl (by rw [neD_int, beq_same_int]; rfl) rfl
  | str s => exact leaf rfl (by unfold neD; rw [if_pos (by rfl)]; simp [PyData.eqv]) rfl
  | list l => exact node l (.inl rfl) hx
  | tuple l => exact node l (.inr rfl) hx
  | dict l => cases hx
theorem alk_cond {rest : Sto} {w0 w1 w4 w5 : Option Wv} {i : Int} {L : List PyData} : alkC [w0, w1, some (.own rest.length), some (.d (.int i)), w4, w5] (rest ++ [.lst L]) = .ok (decide (i < (L.length : Nat))) (rest ++ [.lst L]) := by
  simp only [alkC, last_get, sSeq, sIf, tCmpB, tChB, tTru, tAndB, tOrB, tNotB, eAnd, eOr, eNot, truW, truD, eBin, eCh, eIf, eVar, eC, Rs.bind, op2, bool2, view, List.getElem?_cons_zero, List.getElem?_cons_succ, ixD, at_0, at_1, at_2, at_3, gtD, ltD, leD, geD, decide_true, decide_false, bindS, seqR, sSet, eB, lCons, lNil, opN, views, Option.map, Option.some.injEq, intG, absG, lenG, modD, addD, subD, iaddD, if_true, if_false, reduceIte, call1, call2, lo0, lo1, lo2, lo3, lo4, lo5, List.set, sPut, sAugI, sAug, frzW, eFrz, ownL, ixSet4, sRet, sExpr, eOwn, eFz, mLst, dats, sNil, sRetN, eqD_int, neD_int, oSom, oNon, eSl, slD, Bool.false_eq_true, Bool.not_true, Bool.not_false, eTup, sPar, eCall, List.length_cons, List.length_nil, sAsg]
theorem alk_run {rest : Sto} {w0 w1 : Option Wv} : ∀ (n : Nat) (pre q : List PyData) (w4 w5 : Option Wv), refls q = true → wgts q ≤ n → pre.length + wgts q ≤ 1000000 →
    ∃ ρ' L', whileN alkC alkB (n + 1) [w0, w1, some (.own rest.length), some (.d (.int pre.length)), w4, w5] (rest ++ [.lst (pre ++ q.map twin)]) = .fl (.nx ρ') (rest ++ [.lst L']) := by
  intro n
  induction n with
  | zero =>
    intro pre q w4 w5 hr hw hz
    cases q with
    | nil =>
      refine ⟨[w0, w1, some (.own rest.length), some (.d (.int pre.length)), w4, w5], pre, ?_⟩
      unfold whileN
      rw [alk_cond]
      simp only [bindS, List.map_nil, List.append_nil, Int.lt_irrefl, decide_false, Bool.false_eq_true, if_false]
    | cons x q =>
      have := wgt_pos x
      rw [wgts] at hw; omega
  | succ n ih =>
    intro pre q w4 w5 hr hw hz
    cases q with
    | nil =>
      refine ⟨[w0, w1, some (.own rest.length), some (.d (.int pre.length)), w4, w5], pre, ?_⟩
      unfold whileN
      rw [alk_cond]
      simp only [bindS, List.map_nil, List.append_nil, Int.lt_irrefl, decide_false, Bool.false_eq_true, if_false]
    | cons x q =>
      rw [refls, Bool.and_eq_true] at hr
      obtain ⟨more, e1, e2, e3⟩ := alk_turn (rest := rest) (w0 := w0) (w1 := w1) (w4 := w4) (w5 := w5) (pre := pre) (q := q) (x := x) hr.1 hz
      have hwp := wgt_pos x
      rw [wgts] at hw hz
      obtain ⟨ρ', L', e4⟩ := ih (pre ++ [twin x]) (q ++ more) (some (.d x)) (some (.d x)) (by rw [refls_append, hr.2, e3]; rfl) (by rw [wgts_append]; omega) (by rw [wgts_append, List.length_append, List.length_singleton]; omega)
      refine ⟨ρ', L', ?_⟩
      have hl : ((pre.length : Nat) : Int) < ((pre ++ (x :: q).map twin).length : Nat) := by
        rw [List.length_append, List.map_cons, List.length_cons]; omega
      rw [whileN, alk_cond]
      simp only [bindS, decide_eq_true hl, if_true]
      rw [List.map_cons, e1]
      show whileN alkC alkB (n + 1) _ _ = _
      rw [← e4]
      simp
/-- a thing is like itself -/
theorem alike_sem {d : PyData} {S : Sto} (h : refl? d = true) (hw : wgt d ≤ 999999) : f__law_alike [.d d, .d d] S = .ok (.d (.bool true)) S := by
  obtain ⟨ρ', L', e⟩ := alk_run (rest := S) (w0 := some (.d d)) (w1 := some (.d d)) (wgt d) [] [d] none none (by rw [refls, h]; rfl) (by rw [wgts, wgts]; omega) (by rw [wgts, wgts, List.length_nil]; omega)
  have e' := sWhile_eq e (by intro z; cases z)
  have key : b__law_alike [some (.d d), some (.d d), none, none, none, none] S = .fl (.rt (.d (.bool true))) (S ++ [.lst L']) := by
    have hl : litOk (0 + 1 + 1) = true := by decide
    have hl1 : litOk (0 + 1) = true := by decide
    show seqR (sPar 2 3 (eOwn (mLst (lCons (eTup (lCons (eVar 0) (lCons (eVar 1) lNil))) lNil))) (eC (.int 0)) [some (.d d), some (.d d), none, none, none, none] S) (sSeq (sWhile alkC alkB) (sRet (eC (.bool true)))) = _
    simp only [hl, hl1, sPar, bindS, eOwn, mLst, lCons, eTup, eVar, lNil, Rs.bind, List.getElem?_cons_zero, List.getElem?_cons_succ, dats, Option.map, List.length_cons, List.length_nil, if_true, eC, List.set, seqR, sSeq]
    have e2 : ((0 : Int)) = (([] : List PyData).length : Nat) := rfl
    rw [e2]
    rw [show (PyData.tuple [d, d]) = twin d from rfl]
    have e3 : S ++ [MO.lst [twin d]] = S ++ [MO.lst ([] ++ [d].map twin)] := rfl
    rw [e3, e']
    rfl
  have := run_ret (nn := 6) (ar := 2) (ws := [.d d, .d d]) key
  rw [List.take_left] at this
  exact this
end DL

set_option Elab.async false
set_option linter.all false
set_option maxRecDepth 100000
set_option maxHeartbeats 4000000
namespace DL
open PySem PySem.Spec PyProof.Rows L2

/-! ### comprehensions that draw nothing, that draw -/
theorem lc_map {t : GF} {c : BF} {f : EF} {ρ : Rho} {S : Sto} {g : PyData → PyData} {p : PyData → Bool} : ∀ (l acc : List PyData), (∀ d ∈ l, ∃ ρ1, t d ρ = some ρ1 ∧ c ρ1 S = .ok (p d) S ∧ (p d = true → f ρ1 S = .ok (.d (g d)) S)) → lcRun t c f ρ l acc S = .ok (acc ++ (l.filter p).map g) S
  | [], acc, _ => by simp [lcRun]
  | d :: l, acc, h => by
    obtain ⟨ρ1, h1, h2, h3⟩ := h d (by simp)
    have ih := fun acc => lc_map (t := t) (c := c) (f := f) (ρ := ρ) (S := S) (g := g) (p := p) l acc fun x hx => h x (by simp [hx])
    unfold lcRun
    rw [h1]
    dsimp only
    rw [h2]
    cases hp : p d with
    | true =>
      dsimp only
      rw [h3 hp]
      dsimp only
      rw [ih]
      simp [List.filter_cons, hp]
    | false =>
      dsimp only
      rw [ih]
      simp [List.filter_cons, hp]
theorem lc_bag {t : GF} {f : EF} {ρ : Rho} {rest : Sto} {P : PyData → Prop} {k : Nat} : ∀ (l : List PyData) (n : Nat) (acc : List PyData) (S : Sto), (∀ d ∈ l, ∃ ρ1, t d ρ = some ρ1 ∧ ∀ (m : Nat) (S : Sto), Bag (m + k) rest S → ∃ y S', f ρ1 S = .ok (.d y) S' ∧ P y ∧ Bag m rest S') → Bag (n + k * l.length) rest S →
    ∃ ys S', lcRun t bYes f ρ l acc S = .ok (acc ++ ys) S' ∧ ys.length = l.length ∧ (∀ y ∈ ys, P y) ∧ Bag n rest S'
  | [], n, acc, S, _, hB => ⟨[], S, by simp [lcRun], rfl, (fun _ h => by cases h), by simpa using hB⟩
  | d :: l, n, acc, S, h, hB => by
    obtain ⟨ρ1, h1, h2⟩ := h d (by simp)
    have e : n + k * (d :: l).length = n + k * l.length + k := by rw [List.length_cons, Nat.mul_succ]; omega
    rw [e] at hB
    obtain ⟨y, S1, h3, h4, h5⟩ := h2 _ S hB
    obtain ⟨ys, S', h6, h7, h8, h9⟩ := lc_bag (t := t) (f := f) (ρ := ρ) (rest := rest) (P := P) (k := k) l n (acc ++ [y]) S1 (fun x hx => h x (by simp [hx])) h5
    refine ⟨y :: ys, S', ?_, by simp [h7], fun z hz => ?_, h9⟩
    · unfold lcRun
      rw [h1]
      dsimp only [bYes]
      rw [h3]
      dsimp only
      rw [h6, List.append_assoc]
      rfl
    · rcases List.mem_cons.mp hz with e | e
      · rw [e]; exact h4
      · exact h8 z e
abbrev sS (l : List Nat) : Str := SX.S l
abbrev tx (l : List Nat) : PyData := .str (sS l)
theorem signs_S (l : List Nat) : signsD (sS l) = l.map fun c => tx [c] := rfl
theorem strG_S {l : List Nat} (h : ∀ c ∈ l, c < 128) (hl : l.length ≤ 1000000) : strG (sS l) = true := by
  refine strG_mk ?_ ?_
  · rw [SX.S_len]
    exact Nat.le_trans hl (by decide)
  · unfold PyData.strOk
    rw [← Array.all_toList, List.all_eq_true]
    intro c hc
    have := h c (by simpa using hc)
    simp
    omega
/-! ### the bag of a script -/
def absP : PyData → PyData
  | .int i => .int ((i.natAbs : Nat) : Int)
  | d => d
theorem bag_sem (ns : List Int) : ∃ S', f__law_bag [.d (.list (ns.map PyData.int))] [] = .ok (.own 0) S' ∧ Bag 900000000 [] S' := by
  have e1 : ∃ cs : List Int, cutD (ns.map PyData.int) none (some 63) = cs.map PyData.int ∧ cs.length ≤ 63 := by
    refine ⟨(ns.drop (HT.sIx ns.length 0 none)).take (HT.sIx ns.length ns.length (some 63) - HT.sIx ns.length 0 none), ?_, ?_⟩
    · unfold cutD
      rw [List.length_map, List.map_take, List.map_drop]
    · rw [List.length_take, List.length_drop]
      have : HT.sIx ns.length ns.length (some 63) ≤ 63 := by
        show (if (63 : Int) < 0 then ((63 : Int) + (ns.length : Int)).toNat else min (63 : Int).toNat ns.length) ≤ 63
        rw [if_neg (by decide)]
        exact Nat.min_le_left _ _
      omega
  obtain ⟨cs, e1, e2⟩ := e1
  refine ⟨[.lst (bagL 0 1234567891 0 (cs.map fun c => (c.natAbs : Int)))], ?_, 0, 1234567891, 0, _, rfl, by decide, by decide, by decide, by decide, by decide, fun c hc => ?_, by simpa using e2⟩
  · have hm : ∀ S, lcRun (gNm 1) bYes (eB absG (lCons (eVar 1) lNil)) [some (.d (.list (ns.map PyData.int))), none] (cs.map PyData.int) [] S = .ok ([] ++ (((cs.map PyData.int).filter fun _ => true).map absP)) S := fun S => lc_map _ _ fun d hd => by
      obtain ⟨c, _, rfl⟩ := List.mem_map.mp hd
      exact ⟨_, rfl, rfl, fun _ => rfl⟩
    have hl : litOk (0 + 1 + 1 + 1 + 1) = true := by decide
    have hf : ((cs.map PyData.int).filter fun _ => true).map absP = (cs.map fun c => (c.natAbs : Int)).map PyData.int := by
      rw [List.filter_eq_self.mpr (fun _ _ => rfl), List.map_map, List.map_map]
      rfl
    have key : b__law_bag [some (.d (.list (ns.map PyData.int))), none] [] = .fl (.rt (.own 0)) [.lst (bagL 0 1234567891 0 (cs.map fun c => (c.natAbs : Int)))] := by
      simp only [b__law_bag, mLc, iVal, seqD, wipeR, e1, hm, hl, bagL, hf, List.nil_append, sSeq, sIf, tCmpB, tChB, tTru, tAndB, tOrB, tNotB, eAnd, eOr, eNot, truW, truD, eBin, eCh, eIf, eVar, eC, Rs.bind, op2, bool2, view, List.getElem?_cons_zero, List.getElem?_cons_succ, ixD, at_0, at_1, at_2, at_3, gtD, ltD, leD, geD, decide_true, decide_false, bindS, seqR, sSet, eB, lCons, lNil, opN, views, Option.map, Option.some.injEq, intG, absG, lenG, modD, addD, subD, iaddD, if_true, if_false, reduceIte, call1, call2, lo0, lo1, lo2, lo3, lo4, lo5, List.set, sPut, sAugI, sAug, frzW, eFrz, ownL, ixSet4, sRet, sExpr, eOwn, eFz, mLst, dats, sNil, sRetN, eqD_int, neD_int, oSom, oNon, eSl, slD, Bool.false_eq_true, Bool.not_true, Bool.not_false, eTup, sPar, eCall, List.length_cons, List.length_nil, sAsg]
    show (match b__law_bag [some (.d (.list (ns.map PyData.int))), none] [] with
      | .fl (.rt w) S' => exitW ([] : Sto).length w S'
      | .fl (.nx _) S' => exitW ([] : Sto).length (.d .none) S'
      | .exc x _ S' => .exc x (S'.take ([] : Sto).length)
      | _ => .bad) = _
    rw [key]
    rfl
  · obtain ⟨z, _, rfl⟩ := List.mem_map.mp hc
    omega
end DL

set_option Elab.async false
set_option linter.all false
set_option maxRecDepth 100000
set_option maxHeartbeats 4000000
namespace DL
open PySem PySem.Spec PyProof.Rows L2

/-! ### signs, their numbers, the check -/
def sgL : List Nat := [32, 48, 49, 50, 51, 52, 53, 54, 55, 56, 57, 97, 98, 99, 100, 101, 102, 103, 104, 105, 106, 107, 108, 109, 110, 111, 112, 113, 114, 115, 116, 117, 118, 119, 120, 121, 122]
def dgL : List Nat := [48, 49, 50, 51, 52, 53, 54, 55, 56, 57]
theorem signs_eq : PySem.Str.ofString " 0123456789abcdefghijklmnopqrstuvwxyz" = sS sgL := by decide +kernel
theorem digits_eq : PySem.Str.ofString "0123456789" = sS dgL := by decide +kernel
theorem mark_eq : PySem.Str.ofString ":" = sS [58] := by decide +kernel
theorem end_eq : PySem.Str.ofString "\n" = sS [10] := by decide +kernel
theorem zero_eq : PySem.Str.ofString "0" = sS [48] := by decide +kernel
def ixS (c : Nat) : Nat := if c = 32 then 0 else if c ≤ 57 then c - 47 else c - 86
theorem occ_all : ∀ c ∈ sgL, Builtin.Str.occurrences (sS sgL) (sS [c]) 0 37 1 = [ixS c] := by decide +kernel
theorem ix_lt : ∀ c ∈ sgL, ixS c < 37 := by decide
theorem ix_inj : ∀ c ∈ sgL, ∀ d ∈ sgL, ixS c = ixS d → c = d := by decide
theorem sg_128 : ∀ c ∈ sgL, c < 128 := by decide
theorem index_sg {c : Nat} (h : c ∈ sgL) : indexG (sS sgL) [tx [c]] = some (.int (ixS c : Nat)) := by
  show (match Builtin.Str.occurrences (sS sgL) (sS [c]) 0 37 1 with
    | i :: _ => some (PyData.int (i : Nat))
    | [] => none) = _
  rw [occ_all c h]
def stp (a : Int) (c : Nat) : Int := (a * 41 + (ixS c : Nat) + 1).fmod 99991
def chk (a : Int) (l : List Nat) : Int := l.foldl stp a
theorem stp_range (a : Int) (c : Nat) : 0 ≤ stp a c ∧ stp a c < 99991 := fmod_range _ (by decide)
theorem chk_range : ∀ (l : List Nat) (a : Int), 0 ≤ a → a < 99991 → 0 ≤ chk a l ∧ chk a l < 99991
  | [], a, h1, h2 => ⟨h1, h2⟩
  | c :: l, a, _, _ => chk_range l (stp a c) (stp_range a c).1 (stp_range a c).2
theorem mulOk41 {a : Int} (h1 : 0 ≤ a) (h2 : a < 99991) : mulOk a 41 = true := mulOk_small (by omega) (by decide)
theorem chk_run {S : Sto} {w0 : Option Wv} : ∀ (l : List Nat) (a : Int) (w2 : Option Wv), (∀ c ∈ l, c ∈ sgL) → 0 ≤ a → a < 99991 →
    ∃ w2', forRun (gNm 2) (sSet 1 (eBin modD (eBin addD (eBin addD (eBin mulD (eVar 1) (eC k_FACTOR)) (eMet indexG (eC k_SIGNS) (lCons (eVar 2) lNil))) (eC (.int 1))) (eC k_MODULUS))) (l.map fun c => tx [c]) [w0, some (.d (.int a)), w2] S = .fl (.nx [w0, some (.d (.int (chk a l))), w2']) S
  | [], a, w2, _, _, _ => ⟨w2, rfl⟩
  | c :: l, a, w2, h, h1, h2 => by
    obtain ⟨w2', e⟩ := chk_run (S := S) (w0 := w0) l (stp a c) (some (.d (tx [c]))) (fun d hd => h d (by simp [hd])) (stp_range a c).1 (stp_range a c).2
    refine ⟨w2', ?_⟩
    have hi := index_sg (h c (by simp))
    have nz : (99991 : Int) ≠ 0 := by decide
    rw [List.map_cons, forRun]
    simp only [gNm, mulD, k_FACTOR, k_SIGNS, k_MODULUS, signs_eq, eMet, hi, mulOk41 h1 h2, nz, stepR, sSeq, sIf, tCmpB, tChB, tTru, tAndB, tOrB, tNotB, eAnd, eOr, eNot, truW, truD, eBin, eCh, eIf, eVar, eC, Rs.bind, op2, bool2, view, List.getElem?_cons_zero, List.getElem?_cons_succ, ixD, at_0, at_1, at_2, at_3, gtD, ltD, leD, geD, decide_true, decide_false, bindS, seqR, sSet, eB, lCons, lNil, opN, views, Option.map, Option.some.injEq, intG, absG, lenG, modD, addD, subD, iaddD, if_true, if_false, reduceIte, call1, call2, lo0, lo1, lo2, lo3, lo4, lo5, List.set, sPut, sAugI, sAug, frzW, eFrz, ownL, ixSet4, sRet, sExpr, eOwn, eFz, mLst, dats, sNil, sRetN, eqD_int, neD_int, oSom, oNon, eSl, slD, Bool.false_eq_true, Bool.not_true, Bool.not_false, eTup, sPar, eCall, List.length_cons, List.length_nil, sAsg]
    exact e
theorem lchk_run {S : Sto} {w0 : Option Wv} : ∀ (l : List Nat) (a : Int) (w2 : Option Wv), (∀ c ∈ l, c ∈ sgL) → 0 ≤ a → a < 99991 →
    ∃ w2', forRun (gNm 2) (sSet 1 (eBin modD (eB intG (lCons (eBin addD (eBin addD (eBin mulD (eVar 1) (eC (.int 41))) (eMet indexG (eC (.str (PySem.Str.ofString " 0123456789abcdefghijklmnopqrstuvwxyz"))) (lCons (eVar 2) lNil))) (eC (.int 1))) lNil)) (eC (.int 99991)))) (l.map fun c => tx [c]) [w0, some (.d (.int a)), w2] S = .fl (.nx [w0, some (.d (.int (chk a l))), w2']) S
  | [], a, w2, _, _, _ => ⟨w2, rfl⟩
  | c :: l, a, w2, h, h1, h2 => by
    obtain ⟨w2', e⟩ := lchk_run (S := S) (w0 := w0) l (stp a c) (some (.d (tx [c]))) (fun d hd => h d (by simp [hd])) (stp_range a c).1 (stp_range a c).2
    refine ⟨w2', ?_⟩
    have hi := index_sg (h c (by simp))
    have nz : (99991 : Int) ≠ 0 := by decide
    rw [List.map_cons, forRun]
    simp only [gNm, mulD, signs_eq, eMet, hi, mulOk41 h1 h2, nz, stepR, sSeq, sIf, tCmpB, tChB, tTru, tAndB, tOrB, tNotB, eAnd, eOr, eNot, truW, truD, eBin, eCh, eIf, eVar, eC, Rs.bind, op2, bool2, view, List.getElem?_cons_zero, List.getElem?_cons_succ, ixD, at_0, at_1, at_2, at_3, gtD, ltD, leD, geD, decide_true, decide_false, bindS, seqR, sSet, eB, lCons, lNil, opN, views, Option.map, Option.some.injEq, intG, absG, lenG, modD, addD, subD, iaddD, if_true, if_false, reduceIte, call1, call2, lo0, lo1, lo2, lo3, lo4, lo5, List.set, sPut, sAugI, sAug, frzW, eFrz, ownL, ixSet4, sRet, sExpr, eOwn, eFz, mLst, dats, sNil, sRetN, eqD_int, neD_int, oSom, oNon, eSl, slD, Bool.false_eq_true, Bool.not_true, Bool.not_false, eTup, sPar, eCall, List.length_cons, List.length_nil, sAsg]
    exact e
theorem run_ret0 {nn ar : Nat} {b : SF} {ws : List Wv} {S : Sto} {d : PyData} (h : b (ws.map some ++ List.replicate (nn - ar) none) S = .fl (.rt (.d d)) S) : runDef nn ar b ws S = .ok (.d d) S := by
  have := run_ret (nn := nn) (ar := ar) (ws := ws) h
  rw [List.take_length] at this
  exact this
theorem check_sem {l : List Nat} {S : Sto} (h : ∀ c ∈ l, c ∈ sgL) : f_check_of [.d (tx l)] S = .ok (.d (.int (chk 0 l))) S := by
  obtain ⟨w, e⟩ := chk_run (S := S) (w0 := some (.d (tx l))) l 0 none h (by decide) (by decide)
  refine run_ret0 ?_
  show b_check_of [some (.d (tx l)), none, none] S = _
  simp only [b_check_of, sFor, iVal, seqD, signs_S, e, sSeq, sIf, tCmpB, tChB, tTru, tAndB, tOrB, tNotB, eAnd, eOr, eNot, truW, truD, eBin, eCh, eIf, eVar, eC, Rs.bind, op2, bool2, view, List.getElem?_cons_zero, List.getElem?_cons_succ, ixD, at_0, at_1, at_2, at_3, gtD, ltD, leD, geD, decide_true, decide_false, bindS, seqR, sSet, eB, lCons, lNil, opN, views, Option.map, Option.some.injEq, intG, absG, lenG, modD, addD, subD, iaddD, if_true, if_false, reduceIte, call1, call2, lo0, lo1, lo2, lo3, lo4, lo5, List.set, sPut, sAugI, sAug, frzW, eFrz, ownL, ixSet4, sRet, sExpr, eOwn, eFz, mLst, dats, sNil, sRetN, eqD_int, neD_int, oSom, oNon, eSl, slD, Bool.false_eq_true, Bool.not_true, Bool.not_false, eTup, sPar, eCall, List.length_cons, List.length_nil, sAsg]
theorem lcheck_sem {l : List Nat} {S : Sto} (h : ∀ c ∈ l, c ∈ sgL) : f__law_check [.d (tx l)] S = .ok (.d (.int (chk 0 l))) S := by
  obtain ⟨w, e⟩ := lchk_run (S := S) (w0 := some (.d (tx l))) l 0 none h (by decide) (by decide)
  refine run_ret0 ?_
  show b__law_check [some (.d (tx l)), none, none] S = _
  simp only [b__law_check, sFor, iVal, seqD, signs_S, e, sSeq, sIf, tCmpB, tChB, tTru, tAndB, tOrB, tNotB, eAnd, eOr, eNot, truW, truD, eBin, eCh, eIf, eVar, eC, Rs.bind, op2, bool2, view, List.getElem?_cons_zero, List.getElem?_cons_succ, ixD, at_0, at_1, at_2, at_3, gtD, ltD, leD, geD, decide_true, decide_false, bindS, seqR, sSet, eB, lCons, lNil, opN, views, Option.map, Option.some.injEq, intG, absG, lenG, modD, addD, subD, iaddD, if_true, if_false, reduceIte, call1, call2, lo0, lo1, lo2, lo3, lo4, lo5, List.set, sPut, sAugI, sAug, frzW, eFrz, ownL, ixSet4, sRet, sExpr, eOwn, eFz, mLst, dats, sNil, sRetN, eqD_int, neD_int, oSom, oNon, eSl, slD, Bool.false_eq_true, Bool.not_true, Bool.not_false, eTup, sPar, eCall, List.length_cons, List.length_nil, sAsg]

/-! ### a sign in a list of signs -/
theorem in_sg (c : Nat) (m : List Nat) : inD (tx [c]) (tx m) = some (.bool (decide (c ∈ m))) := by
  show (if (sS [c]).cps.size = 1 then some (PyData.bool (decide ((sS [c]).cps.getD 0 0 ∈ (sS m).cps.toList))) else none) = _
  rw [if_pos (show (sS [c]).cps.size = 1 from rfl)]
  rfl
theorem notin_sg (c : Nat) (m : List Nat) : notInD (tx [c]) (tx m) = some (.bool (!decide (c ∈ m))) := by
  unfold notInD
  rw [in_sg]
theorem boolsD_map : ∀ bs : List Bool, boolsD (bs.map PyData.bool) = some bs
  | [] => rfl
  | b :: bs => by rw [List.map_cons, boolsD, boolsD_map bs]; rfl
def inP (m : List Nat) : PyData → PyData
  | .str z => .bool (decide (z.cps.getD 0 0 ∈ m))
  | d => d
theorem all_in {S : Sto} {ρ : Rho} (l m : List Nat) {k : PyData} (hk : k = tx m) (hρ : 1 < ρ.length) : lcRun (gNm 1) bYes (eBin inD (eVar 1) (eC k)) ρ (l.map fun c => tx [c]) [] S = .ok ((l.map fun c => decide (c ∈ m)).map PyData.bool) S := by
  have := lc_map (t := gNm 1) (c := bYes) (f := eBin inD (eVar 1) (eC k)) (ρ := ρ) (S := S) (g := inP m) (p := fun _ => true) (l.map fun c => tx [c]) [] fun d hd => by
    obtain ⟨c, _, rfl⟩ := List.mem_map.mp hd
    refine ⟨_, rfl, rfl, fun _ => ?_⟩
    subst hk
    simp only [List.getElem?_set_self hρ, in_sg, sSeq, sIf, tCmpB, tChB, tTru, tAndB, tOrB, tNotB, eAnd, eOr, eNot, truW, truD, eBin, eCh, eIf, eVar, eC, Rs.bind, op2, bool2, view, List.getElem?_cons_zero, List.getElem?_cons_succ, ixD, at_0, at_1, at_2, at_3, gtD, ltD, leD, geD, decide_true, decide_false, bindS, seqR, sSet, eB, lCons, lNil, opN, views, Option.map, Option.some.injEq, intG, absG, lenG, modD, addD, subD, iaddD, if_true, if_false, reduceIte, call1, call2, lo0, lo1, lo2, lo3, lo4, lo5, List.set, sPut, sAugI, sAug, frzW, eFrz, ownL, ixSet4, sRet, sExpr, eOwn, eFz, mLst, dats, sNil, sRetN, eqD_int, neD_int, oSom, oNon, eSl, slD, Bool.false_eq_true, Bool.not_true, Bool.not_false, eTup, sPar, eCall, List.length_cons, List.length_nil, sAsg]
    rfl
  rw [this, List.nil_append, List.filter_eq_self.mpr (fun _ _ => rfl), List.map_map, List.map_map]
  rfl
theorem inner_sem {l : List Nat} {S : Sto} : f_is_inner [.d (tx l)] S = .ok (.d (.bool (l.all fun c => decide (c ∈ sgL)))) S := by
  refine run_ret0 ?_
  show b_is_inner [some (.d (tx l)), none] S = _
  have e := all_in (S := S) (ρ := [some (.d (tx l)), none]) l sgL (k := k_SIGNS) (by rw [k_SIGNS, signs_eq]) (by show 1 < 2; decide)
  simp only [b_is_inner, mLc, iVal, seqD, signs_S, wipeR, e, allG, boolsD_map, List.all_map, sSeq, sIf, tCmpB, tChB, tTru, tAndB, tOrB, tNotB, eAnd, eOr, eNot, truW, truD, eBin, eCh, eIf, eVar, eC, Rs.bind, op2, bool2, view, List.getElem?_cons_zero, List.getElem?_cons_succ, ixD, at_0, at_1, at_2, at_3, gtD, ltD, leD, geD, decide_true, decide_false, bindS, seqR, sSet, eB, lCons, lNil, opN, views, Option.map, Option.some.injEq, intG, absG, lenG, modD, addD, subD, iaddD, if_true, if_false, reduceIte, call1, call2, lo0, lo1, lo2, lo3, lo4, lo5, List.set, sPut, sAugI, sAug, frzW, eFrz, ownL, ixSet4, sRet, sExpr, eOwn, eFz, mLst, dats, sNil, sRetN, eqD_int, neD_int, oSom, oNon, eSl, slD, Bool.false_eq_true, Bool.not_true, Bool.not_false, eTup, sPar, eCall, List.length_cons, List.length_nil, sAsg]
  rfl
/-- a number's word -/
def numB (w : List Nat) : Bool := decide (1 ≤ w.length) && decide (w.length ≤ 9) && (w.all fun c => decide (c ∈ dgL)) && (decide (w = [48]) || !decide (w.head? = some 48))
theorem tx_eqv (a b : List Nat) : PyData.eqv (tx a) (tx b) = decide (a = b) := by
  simp only [PyData.eqv]
  exact SX.S_beq_eq
theorem eqD_tx (a b : List Nat) : eqD (tx a) (tx b) = some (.bool (decide (a = b))) := by
  unfold eqD
  rw [if_pos (by rfl), tx_eqv]
theorem neD_tx (a b : List Nat) : neD (tx a) (tx b) = some (.bool (!decide (a = b))) := by
  unfold neD
  rw [if_pos (by rfl), tx_eqv]
theorem sS_len (a : List Nat) : (sS a).length = a.length := SX.S_len a
theorem len_tx (a : List Nat) : lenG [tx a] = some (.int (a.length : Nat)) := by
  show some (PyData.int ((sS a).length : Nat)) = _
  rw [SX.S_len]
theorem ix_tx (c : Nat) (r : List Nat) : ixD (tx (c :: r)) (.int 0) = some (tx [c]) := by
  show (atI (c :: r) 0).map (fun c => PyData.str ⟨#[c]⟩) = _
  have : atI (c :: r) 0 = some c := by
    unfold atI ixN
    rw [if_pos (by decide), if_pos (by rw [List.length_cons]; omega)]
    rfl
  rw [this]
  rfl
theorem at_cons0 {α : Type} (c : α) (r : List α) : atI (c :: r) 0 = some c := by
  unfold atI ixN
  rw [if_pos (by decide), if_pos (by rw [List.length_cons]; omega)]
  rfl
theorem sg1 (c : Nat) : ({ cps := #[c] } : Str) = sS [c] := rfl
theorem number_sem {w : List Nat} {S : Sto} : f_is_number [.d (tx w)] S = .ok (.d (.bool (numB w))) S := by
  refine run_ret0 ?_
  show b_is_number [some (.d (tx w)), none] S = _
  have e := all_in (S := S) (ρ := [some (.d (tx w)), none]) w dgL (k := k_DIGITS) (by rw [k_DIGITS, digits_eq]) (by show 1 < 2; decide)
  by_cases h1 : (1 : Int) ≤ (w.length : Nat)
  · by_cases h2 : ((w.length : Nat) : Int) ≤ 9
    · cases h3 : w.all fun c => decide (c ∈ dgL) with
      | false =>
        simp only [b_is_number, numB, h3, mLc, iVal, seqD, signs_S, wipeR, e, allG, boolsD_map, sS_len, h1, h2, k_MOST_FIGURES, List.all_map, Function.comp_def, id, Bool.and_false, Bool.false_and, sSeq, sIf, tCmpB, tChB, tTru, tAndB, tOrB, tNotB, eAnd, eOr, eNot, truW, truD, eBin, eCh, eIf, eVar, eC, Rs.bind, op2, bool2, view, List.getElem?_cons_zero, List.getElem?_cons_succ, ixD, at_0, at_1, at_2, at_3, gtD, ltD, leD, geD, decide_true, decide_false, bindS, seqR, sSet, eB, lCons, lNil, opN, views, Option.map, Option.some.injEq, intG, absG, lenG, modD, addD, subD, iaddD, if_true, if_false, reduceIte, call1, call2, lo0, lo1, lo2, lo3, lo4, lo5, List.set, sPut, sAugI, sAug, frzW, eFrz, ownL, ixSet4, sRet, sExpr, eOwn, eFz, mLst, dats, sNil, sRetN, eqD_int, neD_int, oSom, oNon, eSl, slD, Bool.false_eq_true, Bool.not_true, Bool.not_false, eTup, sPar, eCall, List.length_cons, List.length_nil, sAsg]
      | true =>
        cases w with
        | nil => simp at h1
        | cons c r =>
          have n1 : decide (1 ≤ (c :: r).length) = true := decide_eq_true (by omega)
          have n2 : decide ((c :: r).length ≤ 9) = true := decide_eq_true (by omega)
          cases h4 : decide (c :: r = [48]) with
          | true =>
            simp only [b_is_number, numB, h3, n1, n2, mLc, iVal, seqD, signs_S, wipeR, e, allG, boolsD_map, sS_len, h1, h2, k_MOST_FIGURES, List.all_map, Function.comp_def, id, zero_eq, eqD_tx, h4, Bool.true_or, Bool.and_self, sSeq, sIf, tCmpB, tChB, tTru, tAndB, tOrB, tNotB, eAnd, eOr, eNot, truW, truD, eBin, eCh, eIf, eVar, eC, Rs.bind, op2, bool2, view, List.getElem?_cons_zero, List.getElem?_cons_succ, ixD, at_0, at_1, at_2, at_3, gtD, ltD, leD, geD, decide_true, decide_false, bindS, seqR, sSet, eB, lCons, lNil, opN, views, Option.map, Option.some.injEq, intG, absG, lenG, modD, addD, subD, iaddD, if_true, if_false, reduceIte, call1, call2, lo0, lo1, lo2, lo3, lo4, lo5, List.set, sPut, sAugI, sAug, frzW, eFrz, ownL, ixSet4, sRet, sExpr, eOwn, eFz, mLst, dats, sNil, sRetN, eqD_int, neD_int, oSom, oNon, eSl, slD, Bool.false_eq_true, Bool.not_true, Bool.not_false, eTup, sPar, eCall, sAsg]
          | false =>
            have hh : decide ([c] = [48]) = decide ((c :: r).head? = some 48) := by simp
            simp only [b_is_number, numB, h3, n1, n2, mLc, iVal, seqD, signs_S, wipeR, e, allG, boolsD_map, sS_len, h1, h2, k_MOST_FIGURES, List.all_map, Function.comp_def, id, zero_eq, eqD_tx, neD_tx, at_cons0, sg1, h4, hh, Bool.false_or, Bool.and_self, Bool.true_and, sSeq, sIf, tCmpB, tChB, tTru, tAndB, tOrB, tNotB, eAnd, eOr, eNot, truW, truD, eBin, eCh, eIf, eVar, eC, Rs.bind, op2, bool2, view, List.getElem?_cons_zero, List.getElem?_cons_succ, ixD, at_0, at_1, at_2, at_3, gtD, ltD, leD, geD, decide_true, decide_false, bindS, seqR, sSet, eB, lCons, lNil, opN, views, Option.map, Option.some.injEq, intG, absG, lenG, modD, addD, subD, iaddD, if_true, if_false, reduceIte, call1, call2, lo0, lo1, lo2, lo3, lo4, lo5, List.set, sPut, sAugI, sAug, frzW, eFrz, ownL, ixSet4, sRet, sExpr, eOwn, eFz, mLst, dats, sNil, sRetN, eqD_int, neD_int, oSom, oNon, eSl, slD, Bool.false_eq_true, Bool.not_true, Bool.not_false, eTup, sPar, eCall, sAsg]
    · have n2 : decide (w.length ≤ 9) = false := decide_eq_false (by omega)
      simp only [b_is_number, numB, n2, sS_len, h1, h2, k_MOST_FIGURES, Bool.and_false, Bool.false_and, sSeq, sIf, tCmpB, tChB, tTru, tAndB, tOrB, tNotB, eAnd, eOr, eNot, truW, truD, eBin, eCh, eIf, eVar, eC, Rs.bind, op2, bool2, view, List.getElem?_cons_zero, List.getElem?_cons_succ, ixD, at_0, at_1, at_2, at_3, gtD, ltD, leD, geD, decide_true, decide_false, bindS, seqR, sSet, eB, lCons, lNil, opN, views, Option.map, Option.some.injEq, intG, absG, lenG, modD, addD, subD, iaddD, if_true, if_false, reduceIte, call1, call2, lo0, lo1, lo2, lo3, lo4, lo5, List.set, sPut, sAugI, sAug, frzW, eFrz, ownL, ixSet4, sRet, sExpr, eOwn, eFz, mLst, dats, sNil, sRetN, eqD_int, neD_int, oSom, oNon, eSl, slD, Bool.false_eq_true, Bool.not_true, Bool.not_false, eTup, sPar, eCall, List.length_cons, List.length_nil, sAsg]
  · have n1 : decide (1 ≤ w.length) = false := decide_eq_false (by omega)
    simp only [b_is_number, numB, n1, sS_len, h1, k_MOST_FIGURES, Bool.and_false, Bool.false_and, sSeq, sIf, tCmpB, tChB, tTru, tAndB, tOrB, tNotB, eAnd, eOr, eNot, truW, truD, eBin, eCh, eIf, eVar, eC, Rs.bind, op2, bool2, view, List.getElem?_cons_zero, List.getElem?_cons_succ, ixD, at_0, at_1, at_2, at_3, gtD, ltD, leD, geD, decide_true, decide_false, bindS, seqR, sSet, eB, lCons, lNil, opN, views, Option.map, Option.some.injEq, intG, absG, lenG, modD, addD, subD, iaddD, if_true, if_false, reduceIte, call1, call2, lo0, lo1, lo2, lo3, lo4, lo5, List.set, sPut, sAugI, sAug, frzW, eFrz, ownL, ixSet4, sRet, sExpr, eOwn, eFz, mLst, dats, sNil, sRetN, eqD_int, neD_int, oSom, oNon, eSl, slD, Bool.false_eq_true, Bool.not_true, Bool.not_false, eTup, sPar, eCall, List.length_cons, List.length_nil, sAsg]
end DL

set_option Elab.async false
set_option linter.all false
set_option maxRecDepth 100000
set_option maxHeartbeats 4000000
namespace DL
open PySem PySem.Spec PyProof.Rows L2

/-! ### texts put together -/
def asc (l : List Nat) : Prop := ∀ c ∈ l, c < 128
theorem asc_append {a b : List Nat} (h : asc a) (h' : asc b) : asc (a ++ b) := fun c hc => by
  rcases List.mem_append.mp hc with z | z
  · exact h c z
  · exact h' c z
theorem addD_tx {a b : List Nat} (h : a.length + b.length ≤ 1000000) : addD (tx a) (tx b) = some (tx (a ++ b)) := by
  show (if (sS a).length + (sS b).length ≤ sizeLine then some (PyData.str (sS a ++ sS b)) else none) = _
  rw [sS_len, sS_len, if_pos (Nat.le_trans h (by decide)), SX.S_cat]
theorem num_asc (n : Nat) : asc (TL.numL n) := fun c hc => by
  have := TL.numL_digits n c hc
  omega
theorem num_len {n : Nat} (h : n < 10 ^ 9) : (TL.numL n).length ≤ 9 := TL.numL_len (by decide) h
theorem str_num {n : Nat} (h : n < 10 ^ 9) : strGG [.int (n : Int)] = some (tx (TL.numL n)) := by
  have e : (Str.ofString (toString ((n : Nat) : Int))) = sS (TL.numL n) := SX.num_S n
  have h1 : (n : Int).natAbs.log2 < 1920 := by
    have h2 : (n : Int).natAbs < 2 ^ 400 := by
      have : (10 : Nat) ^ 9 < 2 ^ 400 := by decide
      omega
    exact Nat.lt_trans (lg400 _ h2) (by decide)
  show (if (n : Int).natAbs.log2 < 1920 ∧ strG (Str.ofString (toString ((n : Nat) : Int))) = true then some (PyData.str (Str.ofString (toString ((n : Nat) : Int)))) else none) = _
  rw [e, if_pos ⟨h1, strG_S (num_asc n) (Nat.le_trans (num_len h) (by decide))⟩]
def frame (l : List Nat) : List Nat := TL.numL l.length ++ [58] ++ TL.numL (chk 0 l).toNat ++ [58] ++ l ++ [10]
theorem chk_nat {l : List Nat} : ((chk 0 l).toNat : Int) = chk 0 l ∧ (chk 0 l).toNat < 10 ^ 9 := by
  have := chk_range l 0 (by decide) (by decide)
  omega
theorem str_chk (l : List Nat) : strGG [.int (chk 0 l)] = some (tx (TL.numL (chk 0 l).toNat)) := by
  have := str_num (chk_nat (l := l)).2
  rw [(chk_nat (l := l)).1] at this
  exact this
theorem tx_strs : ∀ ys : List (List Nat), strsD (ys.map tx) = some (ys.map sS)
  | [] => rfl
  | y :: ys => by rw [List.map_cons, strsD, tx_strs ys]; rfl
theorem joinL_asc {a : List Nat} (ha : asc a) : ∀ {ys : List (List Nat)}, (∀ y ∈ ys, asc y) → asc (TL.joinL a ys)
  | [], _ => fun _ h => by cases h
  | [y], h => h y (by simp)
  | y :: z :: r, h => asc_append (h y (by simp)) (asc_append ha (joinL_asc ha fun w hw => h w (by simp [hw])))
theorem joinL_len (a : List Nat) : ∀ ys : List (List Nat), (TL.joinL a ys).length ≤ (ys.map (·.length)).sum + ys.length * a.length
  | [] => by simp [TL.joinL]
  | [y] => by simp [TL.joinL]
  | y :: z :: r => by
    have ih := joinL_len a (z :: r)
    show (y ++ (a ++ TL.joinL a (z :: r))).length ≤ _
    rw [List.length_append, List.length_append, List.map_cons, List.sum_cons]
    have : (y :: z :: r).length * a.length = (z :: r).length * a.length + a.length := by
      rw [List.length_cons, Nat.succ_mul]
    omega
theorem sum_sS (ys : List (List Nat)) : ((ys.map sS).map (·.length)).sum = (ys.map (·.length)).sum := by rw [SX.lens]
theorem join_tx {a : List Nat} {ys : List (List Nat)} (ha : asc a) (hy : ∀ y ∈ ys, asc y) (hz : (ys.map (·.length)).sum + ys.length * a.length ≤ 1000000) : joinG (sS a) [.list (ys.map tx)] = some (tx (TL.joinL a ys)) := by
  have hg := strG_S (joinL_asc ha hy) (Nat.le_trans (joinL_len a ys) hz)
  simp only [joinG, tx_strs]
  rw [SX.join_S, if_pos ⟨by rw [sum_sS, List.length_map, sS_len]; omega, hg⟩]
theorem asc58 : asc [58] := fun c hc => by
  have : c = 58 := by simpa using hc
  omega
theorem framed_sem {l : List Nat} {S : Sto} (h : ∀ c ∈ l, c ∈ sgL) (hl : l.length ≤ 1000) : f_framed [.d (tx l)] S = .ok (.d (tx (frame l))) S := by
  refine run_ret0 ?_
  show b_framed [some (.d (tx l))] S = _
  have hl1 : litOk (0 + 1 + 1 + 1) = true := by decide
  have ha : asc l := fun c hc => sg_128 c (h c hc)
  have n1 := str_num (n := l.length) (by omega)
  have k1 := num_len (n := l.length) (by omega)
  have k2 := num_len (n := (chk 0 l).toNat) (chk_nat (l := l)).2
  have j := join_tx (a := [58]) (ys := [TL.numL l.length, TL.numL (chk 0 l).toNat, l]) asc58 (fun y hy => by
      have : y = TL.numL l.length ∨ y = TL.numL (chk 0 l).toNat ∨ y = l := by simpa using hy
      rcases this with e | e | e <;> rw [e]
      · exact num_asc _
      · exact num_asc _
      · exact ha) (by simp; omega)
  rw [List.map_cons, List.map_cons, List.map_cons, List.map_nil] at j
  have ad := addD_tx (a := TL.joinL [58] [TL.numL l.length, TL.numL (chk 0 l).toNat, l]) (b := [10]) (by
    have := joinL_len [58] [TL.numL l.length, TL.numL (chk 0 l).toNat, l]
    simp at this ⊢
    omega)
  have fe : TL.joinL [58] [TL.numL l.length, TL.numL (chk 0 l).toNat, l] ++ [10] = frame l := by
    show (TL.numL l.length ++ ([58] ++ (TL.numL (chk 0 l).toNat ++ ([58] ++ l)))) ++ [10] = _
    unfold frame
    simp only [List.append_assoc]
  rw [fe] at ad
  have cs := check_sem (S := S) h
  unfold lenG at *
  simp only [b_framed, eMet, k_MARK, k_END, mark_eq, end_eq, sS_len, n1, cs, str_chk, hl1, j, ad, sSeq, sIf, eBin, eVar, eC, Rs.bind, op2, view, List.getElem?_cons_zero, List.getElem?_cons_succ, bindS, seqR, eB, lCons, lNil, opN, views, Option.map, lenG, if_true, frzW, sRet, eFz, mLst, dats, List.length_cons, List.length_nil, eCall]
theorem lframed_sem {l : List Nat} {S : Sto} (h : ∀ c ∈ l, c ∈ sgL) (hl : l.length ≤ 1000) : f__law_framed [.d (tx l)] S = .ok (.d (tx (frame l))) S := by
  refine run_ret0 ?_
  show b__law_framed [some (.d (tx l))] S = _
  have n1 := str_num (n := l.length) (by omega)
  have k1 := num_len (n := l.length) (by omega)
  have k2 := num_len (n := (chk 0 l).toNat) (chk_nat (l := l)).2
  have cs := lcheck_sem (S := S) h
  have a1 := addD_tx (a := TL.numL l.length) (b := [58]) (by simp; omega)
  have a2 := addD_tx (a := TL.numL l.length ++ [58]) (b := TL.numL (chk 0 l).toNat) (by simp; omega)
  have a3 := addD_tx (a := TL.numL l.length ++ [58] ++ TL.numL (chk 0 l).toNat) (b := [58]) (by simp; omega)
  have a4 := addD_tx (a := TL.numL l.length ++ [58] ++ TL.numL (chk 0 l).toNat ++ [58]) (b := l) (by simp; omega)
  have a5 := addD_tx (a := TL.numL l.length ++ [58] ++ TL.numL (chk 0 l).toNat ++ [58] ++ l) (b := [10]) (by simp; omega)
  simp only [b__law_framed, mark_eq, end_eq, sS_len, n1, cs, str_chk, a1, a2, a3, a4, a5, frame, sSeq, sIf, eBin, eVar, eC, Rs.bind, op2, view, List.getElem?_cons_zero, List.getElem?_cons_succ, bindS, seqR, eB, lCons, lNil, opN, views, Option.map, lenG, if_true, frzW, sRet, List.length_cons, List.length_nil, eCall]
end DL

set_option Elab.async false
set_option linter.all false
set_option maxRecDepth 100000
set_option maxHeartbeats 4000000
namespace DL
open PySem PySem.Spec PyProof.Rows L2

/-! ### texts cut at a sign -/
def sp1 (c : Nat) (acc l : List Nat) : List (List Nat) := TL.spl [c] 0 acc l
theorem sp1_nil (c : Nat) (acc : List Nat) : sp1 c acc [] = [acc] := rfl
theorem sp1_cons (c d : Nat) (acc r : List Nat) : sp1 c acc (d :: r) = if d = c then acc :: sp1 c [] r else sp1 c (acc ++ [d]) r := by
  have e : TL.pre [c] (d :: r) = decide (d = c) := by
    unfold TL.pre
    show ([d] == [c]) = _
    by_cases h : d = c
    · subst h; simp
    · have : ([d] == [c]) = false := by simpa using h
      rw [this]; simp [h]
  show (if TL.pre [c] (d :: r) = true then acc :: TL.spl [c] 0 [] r else TL.spl [c] 0 (acc ++ [d]) r) = _
  rw [e]
  by_cases h : d = c
  · rw [if_pos h, if_pos (by simpa using h)]; rfl
  · rw [if_neg h, if_neg (by simpa using h)]; rfl
theorem sp1_mem {c : Nat} : ∀ (l acc p : List Nat), p ∈ sp1 c acc l → p.length ≤ acc.length + l.length ∧ ∀ x ∈ p, x ∈ acc ∨ x ∈ l
  | [], acc, p, h => by
    rw [sp1_nil] at h
    have : p = acc := by simpa using h
    subst this
    exact ⟨by simp, fun x hx => .inl hx⟩
  | d :: r, acc, p, h => by
    rw [sp1_cons] at h
    split at h
    · rcases List.mem_cons.mp h with e | e
      · subst e
        exact ⟨by simp, fun x hx => .inl hx⟩
      · obtain ⟨h1, h2⟩ := sp1_mem r [] p e
        refine ⟨by simp at h1 ⊢; omega, fun x hx => ?_⟩
        rcases h2 x hx with z | z
        · cases z
        · exact .inr (by simp [z])
    · obtain ⟨h1, h2⟩ := sp1_mem r (acc ++ [d]) p h
      refine ⟨by simp at h1 ⊢; omega, fun x hx => ?_⟩
      rcases h2 x hx with z | z
      · rcases List.mem_append.mp z with q | q
        · exact .inl q
        · have : x = d := by simpa using q
          exact .inr (by simp [this])
      · exact .inr (by simp [z])
theorem sp1_free {c : Nat} : ∀ (p acc r : List Nat), c ∉ p → sp1 c acc (p ++ c :: r) = (acc ++ p) :: sp1 c [] r
  | [], acc, r, _ => by rw [List.nil_append, sp1_cons, if_pos rfl, List.append_nil]
  | d :: p, acc, r, h => by
    rw [List.cons_append, sp1_cons, if_neg (fun e => h (by simp [e])), sp1_free p (acc ++ [d]) r (fun z => h (by simp [z])), List.append_assoc]
    rfl
theorem sp1_none {c : Nat} : ∀ (p acc : List Nat), c ∉ p → sp1 c acc p = [acc ++ p]
  | [], acc, _ => by rw [sp1_nil, List.append_nil]
  | d :: p, acc, h => by
    rw [sp1_cons, if_neg (fun e => h (by simp [e])), sp1_none p (acc ++ [d]) (fun z => h (by simp [z])), List.append_assoc]
    rfl
theorem sp1_ne {c : Nat} : ∀ (l acc : List Nat), sp1 c acc l ≠ []
  | [], acc => by rw [sp1_nil]; simp
  | d :: r, acc => by
    rw [sp1_cons]
    split
    · simp
    · exact sp1_ne r _
theorem split_tx {c : Nat} {l : List Nat} (hc : c < 128) (ha : asc l) (hl : l.length ≤ 100000) : splitG (sS l) [tx [c]] = some (.list ((sp1 c [] l).map tx)) := by
  have e : Txt.split (sS l) (sS [c]) = (sp1 c [] l).map sS := SX.split_S (by simp) (by simp; omega)
  have hg : ((sp1 c [] l).map sS).all strG = true := by
    rw [List.all_eq_true]
    intro z hz
    obtain ⟨p, hp, rfl⟩ := List.mem_map.mp hz
    obtain ⟨h1, h2⟩ := sp1_mem l [] p hp
    refine strG_S (fun x hx => ?_) (by simp at h1; omega)
    rcases h2 x hx with q | q
    · cases q
    · exact ha x q
  show (if ((sS [c]).length == 0) = false ∧ (sS l).length + 2 ≤ sizeLine ∧ ((Txt.split (sS l) (sS [c])).all strG) = true then some (PyData.list ((Txt.split (sS l) (sS [c])).map PyData.str)) else none) = _
  rw [e, if_pos ⟨rfl, by rw [sS_len]; exact Nat.le_trans (by omega : l.length + 2 ≤ 1000000) (by decide), hg⟩, List.map_map]
  rfl

/-! ### a number's word -/
def ones (l : List Nat) : PyData := .list (l.map fun _ => .int 1)
theorem ones_dep : ∀ l : List Nat, noDicts (l.map fun _ => PyData.int 1) = true ∧ PyData.depthAll (l.map fun _ => PyData.int 1) ≤ 1
  | [] => ⟨rfl, by simp [PyData.depthAll]⟩
  | _ :: l => by
    obtain ⟨h1, h2⟩ := ones_dep l
    refine ⟨by rw [List.map_cons, noDicts, h1]; rfl, ?_⟩
    rw [List.map_cons, PyData.depthAll]
    have : PyData.depth (.int 1) ≤ 1 := by simp [PyData.depth]
    omega
theorem neD_ones (l : List Nat) : neD (ones l) (.list []) = some (.bool (!l.isEmpty)) := by
  obtain ⟨h1, h2⟩ := ones_dep l
  have c1 : cmpOk (ones l) = true := by
    unfold cmpOk ones
    rw [noDict, h1, PyData.depth]
    simp
    omega
  have c2 : cmpOk (.list []) = true := by rfl
  unfold neD
  rw [c1, c2, if_pos (show (true && true) = true from rfl)]
  cases l with
  | nil => rfl
  | cons c l => simp [ones, PyData.eqv, PyData.eqvAll]
def oneP : PyData → PyData := fun _ => .int 1
def outP (m : List Nat) : PyData → Bool
  | .str z => !decide (z.cps.getD 0 0 ∈ m)
  | _ => false
theorem out_run {S : Sto} {ρ : Rho} (i : Nat) (l m : List Nat) {k : PyData} (hk : k = tx m) (hρ : i < ρ.length) : lcRun (gNm i) (tCmpB notInD (eVar i) (eC k)) (eC (.int 1)) ρ (l.map fun c => tx [c]) [] S = .ok ((l.filter fun c => !decide (c ∈ m)).map fun _ => .int 1) S := by
  have := lc_map (t := gNm i) (c := tCmpB notInD (eVar i) (eC k)) (f := eC (.int 1)) (ρ := ρ) (S := S) (g := oneP) (p := outP m) (l.map fun c => tx [c]) [] fun d hd => by
    obtain ⟨c, _, rfl⟩ := List.mem_map.mp hd
    refine ⟨_, rfl, ?_, fun _ => rfl⟩
    subst hk
    simp only [List.getElem?_set_self hρ, notin_sg, sSeq, sIf, tCmpB, tChB, tTru, tAndB, tOrB, tNotB, eAnd, eOr, eNot, truW, truD, eBin, eCh, eIf, eVar, eC, Rs.bind, op2, bool2, view, List.getElem?_cons_zero, List.getElem?_cons_succ, ixD, at_0, at_1, at_2, at_3, gtD, ltD, leD, geD, decide_true, decide_false, bindS, seqR, sSet, eB, lCons, lNil, opN, views, Option.map, Option.some.injEq, intG, absG, lenG, modD, addD, subD, iaddD, if_true, if_false, reduceIte, call1, call2, lo0, lo1, lo2, lo3, lo4, lo5, List.set, sPut, sAugI, sAug, frzW, eFrz, ownL, ixSet4, sRet, sExpr, eOwn, eFz, mLst, dats, sNil, sRetN, eqD_int, neD_int, oSom, oNon, eSl, slD, Bool.false_eq_true, Bool.not_true, Bool.not_false, eTup, sPar, eCall, List.length_cons, List.length_nil, sAsg]
    rfl
  rw [this, List.nil_append, List.filter_map, List.map_map]
  rfl
theorem filter_empty (l m : List Nat) : (l.filter fun c => !decide (c ∈ m)).isEmpty = l.all fun c => decide (c ∈ m) := by
  induction l with
  | nil => rfl
  | cons c l ih =>
    rw [List.filter_cons, List.all_cons]
    cases h : decide (c ∈ m) with
    | true => simp only [Bool.not_true, Bool.false_eq_true, if_false, Bool.true_and]; exact ih
    | false => simp
theorem lit0 : litOk 0 = true := by decide
theorem numB_digits {w : List Nat} (h : numB w = true) : (w.all fun c => decide (48 ≤ c) && decide (c ≤ 57)) = true ∧ w ≠ [] ∧ w.length ≤ 9 := by
  unfold numB at h
  simp only [Bool.and_eq_true, decide_eq_true_eq] at h
  obtain ⟨⟨⟨h1, h2⟩, h3⟩, _⟩ := h
  refine ⟨?_, fun e => by rw [e] at h1; simp at h1, h2⟩
  rw [List.all_eq_true] at h3 ⊢
  intro c hc
  have := of_decide_eq_true (h3 c hc)
  revert this
  have : ∀ c ∈ dgL, (decide (48 ≤ c) && decide (c ≤ 57)) = true := by decide
  exact this c
def valN (w : List Nat) : Nat := NumText.digitsVal w
theorem int_tx {w : List Nat} (h : numB w = true) : intG [tx w] = some (.int (valN w : Nat)) := by
  obtain ⟨h1, h2, h3⟩ := numB_digits h
  have e := SX.int_S h1 h2 (by omega)
  show (match PySem.intText? (sS w) with
    | some n => if (sS w).length ≤ 640 then some (PyData.int n) else none
    | none => none) = _
  rw [e]
  dsimp only
  rw [if_pos (by rw [sS_len]; omega)]
  rfl
def numD (w : List Nat) : PyData := if numB w = true then .int (valN w : Nat) else .none
theorem lnumber_sem {w : List Nat} {S : Sto} : f__law_number [.d (tx w)] S = .ok (.d (numD w)) S := by
  refine run_ret0 ?_
  show b__law_number [some (.d (tx w)), none] S = _
  have e := out_run (S := S) (ρ := [some (.d (tx w)), none]) 1 w dgL (k := .str (PySem.Str.ofString "0123456789")) (by rw [digits_eq]) (by show 1 < 2; decide)
  have eo : neD (.list ((w.filter fun c => !decide (c ∈ dgL)).map fun _ => .int 1)) (.list []) = some (.bool (!(w.all fun c => decide (c ∈ dgL)))) := by
    have := neD_ones (w.filter fun c => !decide (c ∈ dgL))
    rw [filter_empty] at this
    exact this
  by_cases h1 : (1 : Int) ≤ (w.length : Nat)
  · by_cases h2 : ((w.length : Nat) : Int) ≤ 9
    · cases h3 : w.all fun c => decide (c ∈ dgL) with
      | false =>
        have hn : numD w = .none := by
          unfold numD numB
          simp [h3]
        rw [hn]
        rw [h3] at eo
        simp only [b__law_number, mLc, iVal, seqD, signs_S, wipeR, e, eo, sS_len, h1, h2, lit0, sSeq, sIf, tCmpB, tChB, tTru, tAndB, tOrB, tNotB, eAnd, eOr, eNot, truW, truD, eBin, eCh, eIf, eVar, eC, Rs.bind, op2, bool2, view, List.getElem?_cons_zero, List.getElem?_cons_succ, ixD, at_0, at_1, at_2, at_3, gtD, ltD, leD, geD, decide_true, decide_false, bindS, seqR, sSet, eB, lCons, lNil, opN, views, Option.map, Option.some.injEq, intG, absG, lenG, modD, addD, subD, iaddD, if_true, if_false, reduceIte, call1, call2, lo0, lo1, lo2, lo3, lo4, lo5, List.set, sPut, sAugI, sAug, frzW, eFrz, ownL, ixSet4, sRet, sExpr, eOwn, eFz, mLst, dats, sNil, sRetN, eqD_int, neD_int, oSom, oNon, eSl, slD, Bool.false_eq_true, Bool.not_true, Bool.not_false, eTup, sPar, eCall, sAsg, List.length_nil]
      | true =>
        rw [h3] at eo
        cases w with
        | nil => simp at h1
        | cons c r =>
          have n1 : decide (1 ≤ (c :: r).length) = true := decide_eq_true (by omega)
          have n2 : decide ((c :: r).length ≤ 9) = true := decide_eq_true (by omega)
          have hb : numB (c :: r) = (decide (c :: r = [48]) || !decide ((c :: r).head? = some 48)) := by
            unfold numB
            rw [n1, n2, h3]
            simp
          by_cases q : (1 : Int) < ((c :: r).length : Nat)
          · have hne : decide (c :: r = [48]) = false := decide_eq_false (fun e => by rw [e] at q; simp at q)
            have hh : decide ([c] = [48]) = decide ((c :: r).head? = some 48) := by simp
            rw [hne, Bool.false_or, ← hh] at hb
            cases h6 : decide ([c] = [48]) with
            | true =>
              rw [h6] at hb
              have hn : numD (c :: r) = .none := by unfold numD; rw [hb]; rfl
              rw [hn]
              simp only [b__law_number, mLc, iVal, seqD, signs_S, wipeR, e, eo, sS_len, h1, h2, lit0, q, at_cons0, sg1, zero_eq, eqD_tx, h6, sSeq, sIf, tCmpB, tChB, tTru, tAndB, tOrB, tNotB, eAnd, eOr, eNot, truW, truD, eBin, eCh, eIf, eVar, eC, Rs.bind, op2, bool2, view, List.getElem?_cons_zero, List.getElem?_cons_succ, ixD, at_0, at_1, at_2, at_3, gtD, ltD, leD, geD, decide_true, decide_false, bindS, seqR, sSet, eB, lCons, lNil, opN, views, Option.map, Option.some.injEq, absG, lenG, modD, addD, subD, iaddD, if_true, if_false, reduceIte, call1, call2, lo0, lo1, lo2, lo3, lo4, lo5, List.set, sPut, sAugI, sAug, frzW, eFrz, ownL, ixSet4, sRet, sExpr, eOwn, eFz, mLst, dats, sNil, sRetN, eqD_int, neD_int, oSom, oNon, eSl, slD, Bool.false_eq_true, Bool.not_true, Bool.not_false, eTup, sPar, eCall, sAsg, List.length_nil]
            | false =>
              rw [h6] at hb
              have hi := int_tx (w := c :: r) hb
              have hn : numD (c :: r) = .int (valN (c :: r) : Nat) := by unfold numD; rw [hb]; rfl
              rw [hn]
              simp only [b__law_number, mLc, iVal, seqD, signs_S, wipeR, e, eo, sS_len, h1, h2, lit0, q, at_cons0, sg1, zero_eq, eqD_tx, h6, hi, sSeq, sIf, tCmpB, tChB, tTru, tAndB, tOrB, tNotB, eAnd, eOr, eNot, truW, truD, eBin, eCh, eIf, eVar, eC, Rs.bind, op2, bool2, view, List.getElem?_cons_zero, List.getElem?_cons_succ, ixD, at_0, at_1, at_2, at_3, gtD, ltD, leD, geD, decide_true, decide_false, bindS, seqR, sSet, eB, lCons, lNil, opN, views, Option.map, Option.some.injEq, absG, lenG, modD, addD, subD, iaddD, if_true, if_false, reduceIte, call1, call2, lo0, lo1, lo2, lo3, lo4, lo5, List.set, sPut, sAugI, sAug, frzW, eFrz, ownL, ixSet4, sRet, sExpr, eOwn, eFz, mLst, dats, sNil, sRetN, eqD_int, neD_int, oSom, oNon, eSl, slD, Bool.false_eq_true, Bool.not_true, Bool.not_false, eTup, sPar, eCall, sAsg, List.length_nil]
          · have hr : r = [] := by
              cases r with
              | nil => rfl
              | cons d r => rw [List.length_cons, List.length_cons] at q; omega
            have hb2 : numB (c :: r) = true := by
              rw [hb, hr]
              by_cases h7 : c = 48 <;> simp [h7]
            have hi := int_tx (w := c :: r) hb2
            have hn : numD (c :: r) = .int (valN (c :: r) : Nat) := by unfold numD; rw [if_pos hb2]
            rw [hn]
            simp only [b__law_number, mLc, iVal, seqD, signs_S, wipeR, e, eo, sS_len, h1, h2, lit0, q, at_cons0, sg1, zero_eq, eqD_tx, hi, sSeq, sIf, tCmpB, tChB, tTru, tAndB, tOrB, tNotB, eAnd, eOr, eNot, truW, truD, eBin, eCh, eIf, eVar, eC, Rs.bind, op2, bool2, view, List.getElem?_cons_zero, List.getElem?_cons_succ, ixD, at_0, at_1, at_2, at_3, gtD, ltD, leD, geD, decide_true, decide_false, bindS, seqR, sSet, eB, lCons, lNil, opN, views, Option.map, Option.some.injEq, absG, lenG, modD, addD, subD, iaddD, if_true, if_false, reduceIte, call1, call2, lo0, lo1, lo2, lo3, lo4, lo5, List.set, sPut, sAugI, sAug, frzW, eFrz, ownL, ixSet4, sRet, sExpr, eOwn, eFz, mLst, dats, sNil, sRetN, eqD_int, neD_int, oSom, oNon, eSl, slD, Bool.false_eq_true, Bool.not_true, Bool.not_false, eTup, sPar, eCall, sAsg, List.length_nil]
    · have n2 : decide (w.length ≤ 9) = false := decide_eq_false (by omega)
      have hn : numD w = .none := by
        unfold numD numB
        simp [n2]
      rw [hn]
      simp only [b__law_number, sS_len, h1, h2, sSeq, sIf, tCmpB, tChB, tTru, tAndB, tOrB, tNotB, eAnd, eOr, eNot, truW, truD, eBin, eCh, eIf, eVar, eC, Rs.bind, op2, bool2, view, List.getElem?_cons_zero, List.getElem?_cons_succ, ixD, at_0, at_1, at_2, at_3, gtD, ltD, leD, geD, decide_true, decide_false, bindS, seqR, sSet, eB, lCons, lNil, opN, views, Option.map, Option.some.injEq, intG, absG, lenG, modD, addD, subD, iaddD, if_true, if_false, reduceIte, call1, call2, lo0, lo1, lo2, lo3, lo4, lo5, List.set, sPut, sAugI, sAug, frzW, eFrz, ownL, ixSet4, sRet, sExpr, eOwn, eFz, mLst, dats, sNil, sRetN, eqD_int, neD_int, oSom, oNon, eSl, slD, Bool.false_eq_true, Bool.not_true, Bool.not_false, eTup, sPar, eCall, sAsg]
  · have n1 : decide (1 ≤ w.length) = false := decide_eq_false (by omega)
    have hn : numD w = .none := by
      unfold numD numB
      simp [n1]
    rw [hn]
    simp only [b__law_number, sS_len, h1, sSeq, sIf, tCmpB, tChB, tTru, tAndB, tOrB, tNotB, eAnd, eOr, eNot, truW, truD, eBin, eCh, eIf, eVar, eC, Rs.bind, op2, bool2, view, List.getElem?_cons_zero, List.getElem?_cons_succ, ixD, at_0, at_1, at_2, at_3, gtD, ltD, leD, geD, decide_true, decide_false, bindS, seqR, sSet, eB, lCons, lNil, opN, views, Option.map, Option.some.injEq, intG, absG, lenG, modD, addD, subD, iaddD, if_true, if_false, reduceIte, call1, call2, lo0, lo1, lo2, lo3, lo4, lo5, List.set, sPut, sAugI, sAug, frzW, eFrz, ownL, ixSet4, sRet, sExpr, eOwn, eFz, mLst, dats, sNil, sRetN, eqD_int, neD_int, oSom, oNon, eSl, slD, Bool.false_eq_true, Bool.not_true, Bool.not_false, eTup, sPar, eCall, sAsg]
end DL

set_option Elab.async false
set_option linter.all false
set_option maxRecDepth 100000
set_option maxHeartbeats 4000000
namespace DL
open PySem PySem.Spec PyProof.Rows L2

/-! ### a line -/
def okP (a b t : List Nat) : Bool := numB a && (numB b && (t.all (fun c => decide (c ∈ sgL)) && (((valN a : Nat) : Int) == (t.length : Nat) && ((valN b : Nat) : Int) == chk 0 t)))
def textIn (l : List Nat) : Option (List Nat) := match sp1 58 [] l with
  | [a, b, t] => if okP a b t = true then some t else none
  | _ => none
def optD : Option (List Nat) → PyData
  | some t => tx t
  | none => .none
theorem a3_0 (a b c : PyData) : atI [a, b, c] 0 = some a := rfl
theorem a3_1 (a b c : PyData) : atI [a, b, c] 1 = some b := rfl
theorem a3_2 (a b c : PyData) : atI [a, b, c] 2 = some c := rfl
theorem three {α : Type} {l : List α} (h : l.length = 3) : ∃ a b c, l = [a, b, c] := by
  match l, h with
  | [a, b, c], _ => exact ⟨a, b, c, rfl⟩
theorem not3 : ∀ P : List (List Nat), ¬ P.length = 3 → (match P with
      | [a, b, t] => if okP a b t = true then some t else none
      | _ => none) = (none : Option (List Nat))
  | [], _ => rfl
  | [_], _ => rfl
  | [_, _], _ => rfl
  | [_, _, _], h => absurd rfl h
  | _ :: _ :: _ :: _ :: _, _ => rfl
theorem text_sem {l : List Nat} {S : Sto} (ha : asc l) (hl : l.length ≤ 100000) : f_text_in [.d (tx l)] S = .ok (.d (optD (textIn l))) S := by
  refine run_ret0 ?_
  show b_text_in [some (.d (tx l)), none, none] S = _
  have sp := split_tx (c := 58) (by decide) ha hl
  unfold textIn
  generalize hP : sp1 58 [] l = P at *
  by_cases h3 : P.length = 3
  · obtain ⟨a, b, t, rfl⟩ := three h3
    have g3 : (((([a, b, t].map tx).length : Nat) : Int) == 3) = true := rfl
    rw [List.map_cons, List.map_cons, List.map_cons, List.map_nil] at sp g3
    have i1 := inner_sem (l := t) (S := S)
    have i2 := number_sem (w := a) (S := S)
    have i3 := number_sem (w := b) (S := S)
    cases hA : numB a with
    | false =>
      have hk : okP a b t = false := by unfold okP; rw [hA]; rfl
      simp only [b_text_in, eMet, k_MARK, mark_eq, sp, i2, hA, hk, optD, g3, a3_0, a3_1, a3_2, sSeq, sIf, tCmpB, tChB, tTru, tAndB, tOrB, tNotB, eAnd, eOr, eNot, truW, truD, eBin, eCh, eIf, eVar, eC, Rs.bind, op2, bool2, view, List.getElem?_cons_zero, List.getElem?_cons_succ, ixD, at_0, at_1, at_2, at_3, gtD, ltD, leD, geD, decide_true, decide_false, bindS, seqR, sSet, eB, lCons, lNil, opN, views, Option.map, Option.some.injEq, absG, lenG, modD, addD, subD, iaddD, if_true, if_false, reduceIte, call1, call2, lo0, lo1, lo2, lo3, lo4, lo5, List.set, sPut, sAugI, sAug, frzW, eFrz, ownL, ixSet4, sRet, sExpr, eOwn, eFz, mLst, dats, sNil, sRetN, eqD_int, neD_int, oSom, oNon, eSl, slD, Bool.false_eq_true, Bool.not_true, Bool.not_false, eTup, sPar, eCall, sAsg]
    | true =>
      cases hB : numB b with
      | false =>
        have hk : okP a b t = false := by unfold okP; rw [hA, hB]; rfl
        simp only [b_text_in, eMet, k_MARK, mark_eq, sp, i2, i3, hA, hB, hk, optD, g3, a3_0, a3_1, a3_2, sSeq, sIf, tCmpB, tChB, tTru, tAndB, tOrB, tNotB, eAnd, eOr, eNot, truW, truD, eBin, eCh, eIf, eVar, eC, Rs.bind, op2, bool2, view, List.getElem?_cons_zero, List.getElem?_cons_succ, ixD, at_0, at_1, at_2, at_3, gtD, ltD, leD, geD, decide_true, decide_false, bindS, seqR, sSet, eB, lCons, lNil, opN, views, Option.map, Option.some.injEq, absG, lenG, modD, addD, subD, iaddD, if_true, if_false, reduceIte, call1, call2, lo0, lo1, lo2, lo3, lo4, lo5, List.set, sPut, sAugI, sAug, frzW, eFrz, ownL, ixSet4, sRet, sExpr, eOwn, eFz, mLst, dats, sNil, sRetN, eqD_int, neD_int, oSom, oNon, eSl, slD, Bool.false_eq_true, Bool.not_true, Bool.not_false, eTup, sPar, eCall, sAsg]
      | true =>
        cases hT : t.all fun c => decide (c ∈ sgL) with
        | false =>
          have hk : okP a b t = false := by unfold okP; rw [hA, hB, hT]; rfl
          simp only [b_text_in, eMet, k_MARK, mark_eq, sp, i1, i2, i3, hA, hB, hT, hk, optD, g3, a3_0, a3_1, a3_2, sSeq, sIf, tCmpB, tChB, tTru, tAndB, tOrB, tNotB, eAnd, eOr, eNot, truW, truD, eBin, eCh, eIf, eVar, eC, Rs.bind, op2, bool2, view, List.getElem?_cons_zero, List.getElem?_cons_succ, ixD, at_0, at_1, at_2, at_3, gtD, ltD, leD, geD, decide_true, decide_false, bindS, seqR, sSet, eB, lCons, lNil, opN, views, Option.map, Option.some.injEq, absG, lenG, modD, addD, subD, iaddD, if_true, if_false, reduceIte, call1, call2, lo0, lo1, lo2, lo3, lo4, lo5, List.set, sPut, sAugI, sAug, frzW, eFrz, ownL, ixSet4, sRet, sExpr, eOwn, eFz, mLst, dats, sNil, sRetN, eqD_int, neD_int, oSom, oNon, eSl, slD, Bool.false_eq_true, Bool.not_true, Bool.not_false, eTup, sPar, eCall, sAsg]
        | true =>
          have cs := check_sem (l := t) (S := S) fun c hc => of_decide_eq_true (List.all_eq_true.mp hT c hc)
          have nA := int_tx hA
          have nB := int_tx hB
          cases h1 : ((valN a : Nat) : Int) == (t.length : Nat) with
          | false =>
            have hk : okP a b t = false := by unfold okP; rw [hA, hB, hT, h1]; rfl
            simp only [b_text_in, eMet, k_MARK, mark_eq, sp, i1, i2, i3, hA, hB, hT, hk, nA, nB, cs, h1, sS_len, optD, g3, a3_0, a3_1, a3_2, sSeq, sIf, tCmpB, tChB, tTru, tAndB, tOrB, tNotB, eAnd, eOr, eNot, truW, truD, eBin, eCh, eIf, eVar, eC, Rs.bind, op2, bool2, view, List.getElem?_cons_zero, List.getElem?_cons_succ, ixD, at_0, at_1, at_2, at_3, gtD, ltD, leD, geD, decide_true, decide_false, bindS, seqR, sSet, eB, lCons, lNil, opN, views, Option.map, Option.some.injEq, absG, lenG, modD, addD, subD, iaddD, if_true, if_false, reduceIte, call1, call2, lo0, lo1, lo2, lo3, lo4, lo5, List.set, sPut, sAugI, sAug, frzW, eFrz, ownL, ixSet4, sRet, sExpr, eOwn, eFz, mLst, dats, sNil, sRetN, eqD_int, neD_int, oSom, oNon, eSl, slD, Bool.false_eq_true, Bool.not_true, Bool.not_false, eTup, sPar, eCall, sAsg]
          | true =>
            cases h2 : ((valN b : Nat) : Int) == chk 0 t with
            | false =>
              have hk : okP a b t = false := by unfold okP; rw [hA, hB, hT, h1, h2]; rfl
              simp only [b_text_in, eMet, k_MARK, mark_eq, sp, i1, i2, i3, hA, hB, hT, hk, nA, nB, cs, h1, h2, sS_len, optD, g3, a3_0, a3_1, a3_2, sSeq, sIf, tCmpB, tChB, tTru, tAndB, tOrB, tNotB, eAnd, eOr, eNot, truW, truD, eBin, eCh, eIf, eVar, eC, Rs.bind, op2, bool2, view, List.getElem?_cons_zero, List.getElem?_cons_succ, ixD, at_0, at_1, at_2, at_3, gtD, ltD, leD, geD, decide_true, decide_false, bindS, seqR, sSet, eB, lCons, lNil, opN, views, Option.map, Option.some.injEq, absG, lenG, modD, addD, subD, iaddD, if_true, if_false, reduceIte, call1, call2, lo0, lo1, lo2, lo3, lo4, lo5, List.set, sPut, sAugI, sAug, frzW, eFrz, ownL, ixSet4, sRet, sExpr, eOwn, eFz, mLst, dats, sNil, sRetN, eqD_int, neD_int, oSom, oNon, eSl, slD, Bool.false_eq_true, Bool.not_true, Bool.not_false, eTup, sPar, eCall, sAsg]
            | true =>
              have hk : okP a b t = true := by unfold okP; rw [hA, hB, hT, h1, h2]; rfl
              simp only [b_text_in, eMet, k_MARK, mark_eq, sp, i1, i2, i3, hA, hB, hT, hk, nA, nB, cs, h1, h2, sS_len, optD, g3, a3_0, a3_1, a3_2, sSeq, sIf, tCmpB, tChB, tTru, tAndB, tOrB, tNotB, eAnd, eOr, eNot, truW, truD, eBin, eCh, eIf, eVar, eC, Rs.bind, op2, bool2, view, List.getElem?_cons_zero, List.getElem?_cons_succ, ixD, at_0, at_1, at_2, at_3, gtD, ltD, leD, geD, decide_true, decide_false, bindS, seqR, sSet, eB, lCons, lNil, opN, views, Option.map, Option.some.injEq, absG, lenG, modD, addD, subD, iaddD, if_true, if_false, reduceIte, call1, call2, lo0, lo1, lo2, lo3, lo4, lo5, List.set, sPut, sAugI, sAug, frzW, eFrz, ownL, ixSet4, sRet, sExpr, eOwn, eFz, mLst, dats, sNil, sRetN, eqD_int, neD_int, oSom, oNon, eSl, slD, Bool.false_eq_true, Bool.not_true, Bool.not_false, eTup, sPar, eCall, sAsg]
  · have g3 : ((((P.map tx).length : Nat) : Int) == 3) = false := by
      rw [List.length_map]
      simp
      omega
    rw [not3 P h3]
    simp only [b_text_in, eMet, k_MARK, mark_eq, sp, optD, g3, sSeq, sIf, tCmpB, tChB, tTru, tAndB, tOrB, tNotB, eAnd, eOr, eNot, truW, truD, eBin, eCh, eIf, eVar, eC, Rs.bind, op2, bool2, view, List.getElem?_cons_zero, List.getElem?_cons_succ, ixD, at_0, at_1, at_2, at_3, gtD, ltD, leD, geD, decide_true, decide_false, bindS, seqR, sSet, eB, lCons, lNil, opN, views, Option.map, Option.some.injEq, absG, lenG, modD, addD, subD, iaddD, if_true, if_false, reduceIte, call1, call2, lo0, lo1, lo2, lo3, lo4, lo5, List.set, sPut, sAugI, sAug, frzW, eFrz, ownL, ixSet4, sRet, sExpr, eOwn, eFz, mLst, dats, sNil, sRetN, eqD_int, neD_int, oSom, oNon, eSl, slD, Bool.false_eq_true, Bool.not_true, Bool.not_false, eTup, sPar, eCall, sAsg]
/-! ### the frames of a text -/
def unf : List (List Nat) → List (List Nat) × Int
  | [] => ([], 0)
  | x :: r => match textIn x with
    | some t => (t :: (unf r).1, (x.length : Int) + 1 + (unf r).2)
    | none => ([], 0)
def cutD1 (l : List Nat) : List (List Nat) := (sp1 10 [] l).dropLast
theorem cut_last (P : List PyData) : slD (.list P) none (some (-1)) = some (.list P.dropLast) := by
  show some (PyData.list (cutD P none (some (-1)))) = _
  unfold cutD
  have e : HT.sIx P.length P.length (some (-1)) = P.length - 1 := by
    show (if (-1 : Int) < 0 then ((-1 : Int) + (P.length : Int)).toNat else min (-1 : Int).toNat P.length) = _
    rw [if_pos (by decide)]
    omega
  rw [e, HT.sIx_none]
  simp [List.dropLast_eq_take]
def unfD (l : List Nat) : PyData := .tuple [.tuple ((unf (cutD1 l)).1.map tx), .int (unf (cutD1 l)).2]
noncomputable def unfB : SF := (sSeq (sSet 4 (eCall 1 f_text_in (lCons (eVar 3) lNil))) (sSeq (sIf (tCmpB isNoneD (eVar 4) (eC .none)) sBreak sNil) (sSeq (sExpr (eApp (eVar 1) (eFrz (eVar 4)))) (sAug 2 iaddD (eBin addD (eB lenG (lCons (eVar 3) lNil)) (eC (.int 1)))))))
theorem unf_run {S : Sto} {w0 : Option Wv} : ∀ (ls fs : List (List Nat)) (m : Int) (w3 w4 : Option Wv), (∀ x ∈ ls, asc x ∧ x.length ≤ 100000) → fs.length + ls.length ≤ 1000000 →
    ∃ w3' w4', forRun (gNm 3) unfB (ls.map tx) [w0, some (.own S.length), some (.d (.int m)), w3, w4] (S ++ [.lst (fs.map tx)]) = .fl (.nx [w0, some (.own S.length), some (.d (.int (m + (unf ls).2))), w3', w4']) (S ++ [.lst ((fs ++ (unf ls).1).map tx)])
  | [], fs, m, w3, w4, _, _ => ⟨w3, w4, by simp [forRun, unf]⟩
  | x :: r, fs, m, w3, w4, h, hz => by
    obtain ⟨h1, h2⟩ := h x (by simp)
    have ts := text_sem (S := S ++ [.lst (fs.map tx)]) h1 h2
    cases hx : textIn x with
    | none =>
      refine ⟨some (.d (tx x)), some (.d .none), ?_⟩
      rw [List.map_cons, forRun]
      rw [hx] at ts
      simp only [gNm, unfB, ts, optD, isNoneD, isNon, sBreak, stepR, unf, hx, List.append_nil, Int.add_zero, sSeq, sIf, tCmpB, tChB, tTru, tAndB, tOrB, tNotB, eAnd, eOr, eNot, truW, truD, eBin, eCh, eIf, eVar, eC, Rs.bind, op2, bool2, view, List.getElem?_cons_zero, List.getElem?_cons_succ, ixD, at_0, at_1, at_2, at_3, gtD, ltD, leD, geD, decide_true, decide_false, bindS, seqR, sSet, eB, lCons, lNil, opN, views, Option.map, Option.some.injEq, absG, lenG, modD, addD, subD, iaddD, if_true, if_false, reduceIte, call1, call2, lo0, lo1, lo2, lo3, lo4, lo5, List.set, sPut, sAugI, sAug, frzW, eFrz, ownL, ixSet4, sRet, sExpr, eOwn, eFz, mLst, dats, sNil, sRetN, eqD_int, neD_int, oSom, oNon, eSl, slD, Bool.false_eq_true, Bool.not_true, Bool.not_false, eTup, sPar, eCall, sAsg]
    | some t =>
      obtain ⟨w3', w4', e⟩ := unf_run (S := S) (w0 := w0) r (fs ++ [t]) (m + (x.length + 1)) (some (.d (tx x))) (some (.d (tx t))) (fun y hy => h y (by simp [hy])) (by simp at hz ⊢; omega)
      refine ⟨w3', w4', ?_⟩
      rw [List.map_cons, forRun]
      rw [hx] at ts
      have hsz : (fs.map tx).length < sizeLine := by
        rw [List.length_map]
        have : (1000000 : Nat) < sizeLine := by decide
        simp at hz
        omega
      have hu : unf (x :: r) = (t :: (unf r).1, (x.length : Int) + 1 + (unf r).2) := by rw [unf, hx]
      have e2 : (m + (unf (x :: r)).2) = m + (x.length + 1) + (unf r).2 := by
        rw [hu]
        show m + ((x.length : Int) + 1 + (unf r).2) = _
        omega
      have e3 : fs ++ (unf (x :: r)).1 = (fs ++ [t]) ++ (unf r).1 := by
        rw [hu]; simp
      rw [e2, e3, ← e]
      simp only [gNm, unfB, ts, optD, isNoneD, isNon, stepR, eApp, last_get, last_set, hsz, sS_len, List.map_append, List.map_cons, List.map_nil, sSeq, sIf, tCmpB, tChB, tTru, tAndB, tOrB, tNotB, eAnd, eOr, eNot, truW, truD, eBin, eCh, eIf, eVar, eC, Rs.bind, op2, bool2, view, List.getElem?_cons_zero, List.getElem?_cons_succ, ixD, at_0, at_1, at_2, at_3, gtD, ltD, leD, geD, decide_true, decide_false, bindS, seqR, sSet, eB, lCons, lNil, opN, views, Option.map, Option.some.injEq, absG, lenG, modD, addD, subD, iaddD, if_true, if_false, reduceIte, call1, call2, lo0, lo1, lo2, lo3, lo4, lo5, List.set, sPut, sAugI, sAug, frzW, eFrz, ownL, ixSet4, sRet, sExpr, eOwn, eFz, mLst, dats, sNil, sRetN, eqD_int, neD_int, oSom, oNon, eSl, slD, Bool.false_eq_true, Bool.not_true, Bool.not_false, eTup, sPar, eCall, sAsg]
theorem cutD1_ok {l : List Nat} (ha : asc l) (hl : l.length ≤ 100000) : (∀ x ∈ cutD1 l, asc x ∧ x.length ≤ 100000) := fun x hx => by
  obtain ⟨h1, h2⟩ := sp1_mem l [] x (List.dropLast_subset _ hx)
  refine ⟨fun c hc => ?_, by simp at h1; omega⟩
  rcases h2 c hc with q | q
  · cases q
  · exact ha c q
theorem sp1_count (c : Nat) : ∀ (l acc : List Nat), (sp1 c acc l).length ≤ l.length + 1
  | [], acc => by rw [sp1_nil]; simp
  | d :: r, acc => by
    rw [sp1_cons]
    split
    · have := sp1_count c r []
      simp; omega
    · have := sp1_count c r (acc ++ [d])
      simp; omega
theorem cutD1_len {l : List Nat} (hl : l.length ≤ 100000) : (cutD1 l).length ≤ 1000000 := by
  have := sp1_count 10 l []
  unfold cutD1
  rw [List.length_dropLast]
  omega
theorem unf_sem {l : List Nat} {S : Sto} (ha : asc l) (hl : l.length ≤ 100000) : f_unframed [.d (tx l)] S = .ok (.d (unfD l)) S := by
  have sp := split_tx (c := 10) (by decide) ha hl
  obtain ⟨w3, w4, e⟩ := unf_run (S := S) (w0 := some (.d (tx l))) (cutD1 l) [] 0 none none (cutD1_ok ha hl) (by simpa using cutD1_len hl)
  have hd : ((sp1 10 [] l).map tx).dropLast = (cutD1 l).map tx := by
    unfold cutD1
    rw [List.map_dropLast]
  have key : b_unframed [some (.d (tx l)), none, none, none, none] S = .fl (.rt (.d (unfD l))) (S ++ [.lst (([] ++ (unf (cutD1 l)).1).map tx)]) := by
    have l2 : litOk (0 + 1 + 1) = true := by decide
    show seqR (sPar 1 2 (eOwn (mLst lNil)) (eC (.int 0)) [some (.d (tx l)), none, none, none, none] S) (sSeq (sFor (iVal (eSl (eMet splitG (eVar 0) (lCons (eC k_END) lNil)) oNon (oSom (eB negG (lCons (eC (.int 1)) lNil))))) (gNm 3) unfB) (sRet (eTup (lCons (eB tupG (lCons (eVar 1) lNil)) (lCons (eVar 2) lNil))))) = _
    rw [List.map_nil] at e
    simp only [sPar, bindS, eOwn, mLst, lNil, Rs.bind, dats, List.length_nil, lit0, if_true, eC, List.set, seqR, sSeq, sFor, iVal, eSl, eMet, eVar, List.getElem?_cons_zero, List.getElem?_cons_succ, k_END, end_eq, lCons, views, view, Option.map, sp, oNon, oSom, eB, opN, negG]
    rw [show (-(1 : Int)) = -1 from rfl, cut_last, hd]
    simp only [frzW, seqD, Rs.bind, e, seqR, sRet, eTup, lCons, lNil, eB, eVar, List.getElem?_cons_zero, List.getElem?_cons_succ, opN, views, view, last_get, Option.map, tupG, dats, List.length_cons, List.length_nil, l2, if_true, bindS, Int.zero_add, List.nil_append, unfD]
  have := run_ret (nn := 5) (ar := 1) (ws := [.d (tx l)]) key
  rw [List.take_left] at this
  exact this
end DL

set_option Elab.async false
set_option linter.all false
set_option maxRecDepth 100000
set_option maxHeartbeats 4000000
namespace DL
open PySem PySem.Spec PyProof.Rows L2

theorem neD_numD (w : List Nat) (k : Int) : neD (numD w) (.int k) = some (.bool (!(numB w && ((valN w : Nat) : Int) == k))) := by
  unfold numD
  cases numB w with
  | true => rw [if_pos rfl, neD_int]; rfl
  | false =>
    rw [if_neg Bool.false_ne_true]
    unfold neD
    rw [if_pos (by rfl)]
    rfl
noncomputable def lunfB : SF := (sSeq (sSet 4 (eMet splitG (eVar 3) (lCons (eC (.str (PySem.Str.ofString ":"))) lNil))) (sSeq (sIf (tOrB (tCmpB neD (eB lenG (lCons (eVar 4) lNil)) (eC (.int 3))) (tCmpB neD (eFz (mLc (iVal (eBin ixD (eVar 4) (eC (.int 2)))) (gNm 5) (tCmpB notInD (eVar 5) (eC (.str (PySem.Str.ofString " 0123456789abcdefghijklmnopqrstuvwxyz")))) (eC (.int 1)) [5])) (eFz (mLst lNil)))) sBreak sNil) (sSeq (sIf (tOrB (tCmpB neD (eCall 1 f__law_number (lCons (eBin ixD (eVar 4) (eC (.int 0))) lNil)) (eB lenG (lCons (eBin ixD (eVar 4) (eC (.int 2))) lNil))) (tCmpB neD (eCall 1 f__law_number (lCons (eBin ixD (eVar 4) (eC (.int 1))) lNil)) (eCall 1 f__law_check (lCons (eBin ixD (eVar 4) (eC (.int 2))) lNil)))) sBreak sNil) (sSeq (sExpr (eApp (eVar 1) (eFrz (eBin ixD (eVar 4) (eC (.int 2)))))) (sAug 2 iaddD (eBin addD (eB lenG (lCons (eVar 3) lNil)) (eC (.int 1))))))))
/-- one line, by the law's own reading -/
theorem lunf_turn {S : Sto} {w0 w4 : Option Wv} {L : List PyData} {m : Int} {x : List Nat} (h1 : asc x) (h2 : x.length ≤ 100000) (hL : L.length < sizeLine) :
    ∃ w4', match textIn x with
      | some t => lunfB [w0, some (.own S.length), some (.d (.int m)), some (.d (tx x)), w4, none] (S ++ [.lst L]) = .fl (.nx [w0, some (.own S.length), some (.d (.int (m + (x.length + 1)))), some (.d (tx x)), w4', none]) (S ++ [.lst (L ++ [tx t])])
      | none => lunfB [w0, some (.own S.length), some (.d (.int m)), some (.d (tx x)), w4, none] (S ++ [.lst L]) = .fl (.bk [w0, some (.own S.length), some (.d (.int m)), some (.d (tx x)), w4', none]) (S ++ [.lst L]) := by
  have sp := split_tx (c := 58) (by decide) h1 h2
  refine ⟨some (.d (.list ((sp1 58 [] x).map tx))), ?_⟩
  unfold textIn
  generalize hP : sp1 58 [] x = P at *
  by_cases h3 : P.length = 3
  · obtain ⟨a, b, t, rfl⟩ := three h3
    have g3 : (((([a, b, t].map tx).length : Nat) : Int) == 3) = true := rfl
    rw [List.map_cons, List.map_cons, List.map_cons, List.map_nil] at sp g3
    have ow := out_run (S := S ++ [.lst L]) (ρ := [w0, some (.own S.length), some (.d (.int m)), some (.d (tx x)), some (.d (.list [tx a, tx b, tx t])), none]) 5 t sgL (k := .str (PySem.Str.ofString " 0123456789abcdefghijklmnopqrstuvwxyz")) (by rw [signs_eq]) (by show 5 < 6; decide)
    have eo : neD (.list ((t.filter fun c => !decide (c ∈ sgL)).map fun _ => .int 1)) (.list []) = some (.bool (!(t.all fun c => decide (c ∈ sgL)))) := by
      have := neD_ones (t.filter fun c => !decide (c ∈ sgL))
      rw [filter_empty] at this
      exact this
    have nA := lnumber_sem (w := a) (S := S ++ [.lst L])
    have nB := lnumber_sem (w := b) (S := S ++ [.lst L])
    have dA := neD_numD a (t.length : Nat)
    dsimp only
    cases hT : t.all fun c => decide (c ∈ sgL) with
    | false =>
      have hk : okP a b t = false := by unfold okP; rw [hT]; simp
      rw [hT] at eo
      rw [if_neg (by rw [hk]; decide)]
      simp only [lunfB, eMet, mark_eq, sp, mLc, iVal, seqD, signs_S, wipeR, ow, eo, g3, a3_0, a3_1, a3_2, lit0, sBreak, List.map_cons, List.map_nil, sSeq, sIf, tCmpB, tChB, tTru, tAndB, tOrB, tNotB, eAnd, eOr, eNot, truW, truD, eBin, eCh, eIf, eVar, eC, Rs.bind, op2, bool2, view, List.getElem?_cons_zero, List.getElem?_cons_succ, ixD, at_0, at_1, at_2, at_3, gtD, ltD, leD, geD, decide_true, decide_false, bindS, seqR, sSet, eB, lCons, lNil, opN, views, Option.map, Option.some.injEq, absG, lenG, modD, addD, subD, iaddD, if_true, if_false, reduceIte, call1, call2, lo0, lo1, lo2, lo3, lo4, lo5, List.set, sPut, sAugI, sAug, frzW, eFrz, ownL, ixSet4, sRet, sExpr, eOwn, eFz, mLst, dats, sNil, sRetN, eqD_int, neD_int, oSom, oNon, eSl, slD, Bool.false_eq_true, Bool.not_true, Bool.not_false, eTup, sPar, eCall, sAsg, List.length_nil]
    | true =>
      rw [hT] at eo
      have cs := lcheck_sem (l := t) (S := S ++ [.lst L]) fun c hc => of_decide_eq_true (List.all_eq_true.mp hT c hc)
      have dB := neD_numD b (chk 0 t)
      cases hA : (numB a && ((valN a : Nat) : Int) == (t.length : Nat)) with
      | false =>
        have hk : okP a b t = false := by
          unfold okP
          revert hA
          cases numB a <;> cases numB b <;> cases ((valN a : Nat) : Int) == (t.length : Nat) <;> simp
        rw [hA] at dA
        rw [if_neg (by rw [hk]; decide)]
        simp only [lunfB, eMet, mark_eq, sp, mLc, iVal, seqD, signs_S, wipeR, ow, eo, g3, a3_0, a3_1, a3_2, lit0, sBreak, nA, dA, sS_len, List.map_cons, List.map_nil, sSeq, sIf, tCmpB, tChB, tTru, tAndB, tOrB, tNotB, eAnd, eOr, eNot, truW, truD, eBin, eCh, eIf, eVar, eC, Rs.bind, op2, bool2, view, List.getElem?_cons_zero, List.getElem?_cons_succ, ixD, at_0, at_1, at_2, at_3, gtD, ltD, leD, geD, decide_true, decide_false, bindS, seqR, sSet, eB, lCons, lNil, opN, views, Option.map, Option.some.injEq, absG, lenG, modD, addD, subD, iaddD, if_true, if_false, reduceIte, call1, call2, lo0, lo1, lo2, lo3, lo4, lo5, List.set, sPut, sAugI, sAug, frzW, eFrz, ownL, ixSet4, sRet, sExpr, eOwn, eFz, mLst, dats, sNil, sRetN, eqD_int, neD_int, oSom, oNon, eSl, slD, Bool.false_eq_true, Bool.not_true, Bool.not_false, eTup, sPar, eCall, sAsg, List.length_nil]
      | true =>
        rw [hA] at dA
        cases hB : (numB b && ((valN b : Nat) : Int) == chk 0 t) with
        | false =>
          have hk : okP a b t = false := by
            unfold okP
            revert hB
            cases numB a <;> cases numB b <;> cases ((valN b : Nat) : Int) == chk 0 t <;> simp
          rw [hB] at dB
          rw [if_neg (by rw [hk]; decide)]
          simp only [lunfB, eMet, mark_eq, sp, mLc, iVal, seqD, signs_S, wipeR, ow, eo, g3, a3_0, a3_1, a3_2, lit0, sBreak, nA, nB, dA, dB, cs, sS_len, List.map_cons, List.map_nil, sSeq, sIf, tCmpB, tChB, tTru, tAndB, tOrB, tNotB, eAnd, eOr, eNot, truW, truD, eBin, eCh, eIf, eVar, eC, Rs.bind, op2, bool2, view, List.getElem?_cons_zero, List.getElem?_cons_succ, ixD, at_0, at_1, at_2, at_3, gtD, ltD, leD, geD, decide_true, decide_false, bindS, seqR, sSet, eB, lCons, lNil, opN, views, Option.map, Option.some.injEq, absG, lenG, modD, addD, subD, iaddD, if_true, if_false, reduceIte, call1, call2, lo0, lo1, lo2, lo3, lo4, lo5, List.set, sPut, sAugI, sAug, frzW, eFrz, ownL, ixSet4, sRet, sExpr, eOwn, eFz, mLst, dats, sNil, sRetN, eqD_int, neD_int, oSom, oNon, eSl, slD, Bool.false_eq_true, Bool.not_true, Bool.not_false, eTup, sPar, eCall, sAsg, List.length_nil]
        | true =>
          have hk : okP a b t = true := by
            unfold okP
            rw [hT]
            revert hA hB
            cases numB a <;> cases numB b <;> cases ((valN b : Nat) : Int) == chk 0 t <;> cases ((valN a : Nat) : Int) == (t.length : Nat) <;> simp
          rw [hB] at dB
          rw [if_pos hk]
          simp only [lunfB, eMet, mark_eq, sp, mLc, iVal, seqD, signs_S, wipeR, ow, eo, g3, a3_0, a3_1, a3_2, lit0, nA, nB, dA, dB, cs, sS_len, eApp, last_get, last_set, hL, List.map_cons, List.map_nil, sSeq, sIf, tCmpB, tChB, tTru, tAndB, tOrB, tNotB, eAnd, eOr, eNot, truW, truD, eBin, eCh, eIf, eVar, eC, Rs.bind, op2, bool2, view, List.getElem?_cons_zero, List.getElem?_cons_succ, ixD, at_0, at_1, at_2, at_3, gtD, ltD, leD, geD, decide_true, decide_false, bindS, seqR, sSet, eB, lCons, lNil, opN, views, Option.map, Option.some.injEq, absG, lenG, modD, addD, subD, iaddD, if_true, if_false, reduceIte, call1, call2, lo0, lo1, lo2, lo3, lo4, lo5, List.set, sPut, sAugI, sAug, frzW, eFrz, ownL, ixSet4, sRet, sExpr, eOwn, eFz, mLst, dats, sNil, sRetN, eqD_int, neD_int, oSom, oNon, eSl, slD, Bool.false_eq_true, Bool.not_true, Bool.not_false, eTup, sPar, eCall, sAsg, List.length_nil]
  · have g3 : ((((P.map tx).length : Nat) : Int) == 3) = false := by
      rw [List.length_map]
      simp
      omega
    rw [not3 P h3]
    simp only [lunfB, eMet, mark_eq, sp, g3, sBreak, sSeq, sIf, tCmpB, tChB, tTru, tAndB, tOrB, tNotB, eAnd, eOr, eNot, truW, truD, eBin, eCh, eIf, eVar, eC, Rs.bind, op2, bool2, view, List.getElem?_cons_zero, List.getElem?_cons_succ, ixD, at_0, at_1, at_2, at_3, gtD, ltD, leD, geD, decide_true, decide_false, bindS, seqR, sSet, eB, lCons, lNil, opN, views, Option.map, Option.some.injEq, absG, lenG, modD, addD, subD, iaddD, if_true, if_false, reduceIte, call1, call2, lo0, lo1, lo2, lo3, lo4, lo5, List.set, sPut, sAugI, sAug, frzW, eFrz, ownL, ixSet4, sRet, sExpr, eOwn, eFz, mLst, dats, sNil, sRetN, eqD_int, neD_int, oSom, oNon, eSl, slD, Bool.false_eq_true, Bool.not_true, Bool.not_false, eTup, sPar, eCall, sAsg]
theorem lunf_run {S : Sto} {w0 : Option Wv} : ∀ (ls fs : List (List Nat)) (m : Int) (w3 w4 : Option Wv), (∀ x ∈ ls, asc x ∧ x.length ≤ 100000) → fs.length + ls.length ≤ 1000000 →
    ∃ w3' w4', forRun (gNm 3) lunfB (ls.map tx) [w0, some (.own S.length), some (.d (.int m)), w3, w4, none] (S ++ [.lst (fs.map tx)]) = .fl (.nx [w0, some (.own S.length), some (.d (.int (m + (unf ls).2))), w3', w4', none]) (S ++ [.lst ((fs ++ (unf ls).1).map tx)])
  | [], fs, m, w3, w4, _, _ => ⟨w3, w4, by simp [forRun, unf]⟩
  | x :: r, fs, m, w3, w4, h, hz => by
    obtain ⟨h1, h2⟩ := h x (by simp)
    have hsz : (fs.map tx).length < sizeLine := by
      rw [List.length_map]
      have : (1000000 : Nat) < sizeLine := by decide
      simp at hz
      omega
    obtain ⟨w4', tn⟩ := lunf_turn (S := S) (w0 := w0) (w4 := w4) (L := fs.map tx) (m := m) h1 h2 hsz
    cases hx : textIn x with
    | none =>
      rw [hx] at tn
      refine ⟨some (.d (tx x)), w4', ?_⟩
      rw [List.map_cons, forRun]
      have hu : unf (x :: r) = ([], 0) := by rw [unf, hx]
      rw [hu]
      show stepR (lunfB [w0, some (.own S.length), some (.d (.int m)), some (.d (tx x)), w4, none] (S ++ [.lst (fs.map tx)])) _ = _
      rw [tn]
      simp [stepR]
    | some t =>
      rw [hx] at tn
      obtain ⟨w3', w5, e⟩ := lunf_run (S := S) (w0 := w0) r (fs ++ [t]) (m + (x.length + 1)) (some (.d (tx x))) w4' (fun y hy => h y (by simp [hy])) (by simp at hz ⊢; omega)
      refine ⟨w3', w5, ?_⟩
      rw [List.map_cons, forRun]
      have hu : unf (x :: r) = (t :: (unf r).1, (x.length : Int) + 1 + (unf r).2) := by rw [unf, hx]
      have e2 : (m + (unf (x :: r)).2) = m + (x.length + 1) + (unf r).2 := by
        rw [hu]
        show m + ((x.length : Int) + 1 + (unf r).2) = _
        omega
      have e3 : fs ++ (unf (x :: r)).1 = (fs ++ [t]) ++ (unf r).1 := by
        rw [hu]; simp
      rw [e2, e3, ← e]
      show stepR (lunfB [w0, some (.own S.length), some (.d (.int m)), some (.d (tx x)), w4, none] (S ++ [.lst (fs.map tx)])) _ = _
      rw [tn]
      simp [stepR]
theorem lunf_sem {l : List Nat} {S : Sto} (ha : asc l) (hl : l.length ≤ 100000) : f__law_unframed [.d (tx l)] S = .ok (.d (unfD l)) S := by
  have sp := split_tx (c := 10) (by decide) ha hl
  obtain ⟨w3, w4, e⟩ := lunf_run (S := S) (w0 := some (.d (tx l))) (cutD1 l) [] 0 none none (cutD1_ok ha hl) (by simpa using cutD1_len hl)
  have hd : ((sp1 10 [] l).map tx).dropLast = (cutD1 l).map tx := by
    unfold cutD1
    rw [List.map_dropLast]
  have key : b__law_unframed [some (.d (tx l)), none, none, none, none, none] S = .fl (.rt (.d (unfD l))) (S ++ [.lst (([] ++ (unf (cutD1 l)).1).map tx)]) := by
    have l2 : litOk (0 + 1 + 1) = true := by decide
    show seqR (sPar 1 2 (eOwn (mLst lNil)) (eC (.int 0)) [some (.d (tx l)), none, none, none, none, none] S) (sSeq (sFor (iVal (eSl (eMet splitG (eVar 0) (lCons (eC (.str (PySem.Str.ofString "\n"))) lNil)) oNon (oSom (eB negG (lCons (eC (.int 1)) lNil))))) (gNm 3) lunfB) (sRet (eTup (lCons (eB tupG (lCons (eVar 1) lNil)) (lCons (eVar 2) lNil))))) = _
    rw [List.map_nil] at e
    simp only [sPar, bindS, eOwn, mLst, lNil, Rs.bind, dats, List.length_nil, lit0, if_true, eC, List.set, seqR, sSeq, sFor, iVal, eSl, eMet, eVar, List.getElem?_cons_zero, List.getElem?_cons_succ, end_eq, lCons, views, view, Option.map, sp, oNon, oSom, eB, opN, negG]
    rw [show (-(1 : Int)) = -1 from rfl, cut_last, hd]
    simp only [frzW, seqD, Rs.bind, e, seqR, sRet, eTup, lCons, lNil, eB, eVar, List.getElem?_cons_zero, List.getElem?_cons_succ, opN, views, view, last_get, Option.map, tupG, dats, List.length_cons, List.length_nil, l2, if_true, bindS, Int.zero_add, List.nil_append, unfD]
  have := run_ret (nn := 6) (ar := 1) (ws := [.d (tx l)]) key
  rw [List.take_left] at this
  exact this
theorem whole_sem {l : List Nat} {S : Sto} (ha : asc l) (hl : l.length ≤ 100000) : f_is_whole [.d (tx l)] S = .ok (.d (.bool ((unf (cutD1 l)).2 == (l.length : Nat)))) S := by
  have u := unf_sem (S := S) ha hl
  refine run_ret0 ?_
  show b_is_whole [some (.d (tx l))] S = _
  have a2 : ∀ a b : PyData, atI [a, b] 1 = some b := fun _ _ => rfl
  simp only [b_is_whole, u, unfD, a2, sS_len, sSeq, sIf, tCmpB, tChB, tTru, tAndB, tOrB, tNotB, eAnd, eOr, eNot, truW, truD, eBin, eCh, eIf, eVar, eC, Rs.bind, op2, bool2, view, List.getElem?_cons_zero, List.getElem?_cons_succ, ixD, at_0, at_1, at_2, at_3, gtD, ltD, leD, geD, decide_true, decide_false, bindS, seqR, sSet, eB, lCons, lNil, opN, views, Option.map, Option.some.injEq, absG, lenG, modD, addD, subD, iaddD, if_true, if_false, reduceIte, call1, call2, lo0, lo1, lo2, lo3, lo4, lo5, List.set, sPut, sAugI, sAug, frzW, eFrz, ownL, ixSet4, sRet, sExpr, eOwn, eFz, mLst, dats, sNil, sRetN, eqD_int, neD_int, oSom, oNon, eSl, slD, Bool.false_eq_true, Bool.not_true, Bool.not_false, eTup, sPar, eCall, sAsg]
end DL

set_option Elab.async false
set_option linter.all false
set_option maxRecDepth 100000
set_option maxHeartbeats 4000000
namespace DL
open PySem PySem.Spec PyProof.Rows L2

/-! ### drawn texts -/
def drL : List Nat := [32, 48, 49, 57, 97, 98, 122]
theorem drawn_eq : PySem.Str.ofString " 019abz" = sS drL := by decide +kernel
theorem empty_eq : PySem.Str.ofString "" = sS [] := by decide +kernel
theorem dr_sg : ∀ c ∈ drL, c ∈ sgL := by decide
theorem joinL_nil : ∀ ys : List (List Nat), TL.joinL [] ys = ys.flatten
  | [] => rfl
  | [y] => by simp [TL.joinL]
  | y :: z :: r => by
    show y ++ ([] ++ TL.joinL [] (z :: r)) = _
    rw [joinL_nil (z :: r)]
    simp
theorem ones_of {ys : List PyData} (h : ∀ y ∈ ys, ∃ c ∈ drL, y = tx [c]) : ∃ cs : List Nat, ys = (cs.map fun c => [c]).map tx ∧ (∀ c ∈ cs, c ∈ drL) ∧ cs.length = ys.length := by
  induction ys with
  | nil => exact ⟨[], rfl, (fun _ h => by cases h), rfl⟩
  | cons y ys ih =>
    obtain ⟨c, hc, e⟩ := h y (by simp)
    obtain ⟨cs, e1, e2, e3⟩ := ih fun z hz => h z (by simp [hz])
    refine ⟨c :: cs, by rw [e, e1]; rfl, fun d hd => ?_, by simp [e3]⟩
    rcases List.mem_cons.mp hd with q | q
    · rw [q]; exact hc
    · exact e2 d q
theorem flat1 (cs : List Nat) : (cs.map fun c => [c]).flatten = cs := by
  induction cs with
  | nil => rfl
  | cons c cs ih => rw [List.map_cons, List.flatten_cons, ih]; rfl
theorem sum1 (cs : List Nat) : ((cs.map fun c => [c]).map (·.length)).sum = cs.length := by
  induction cs with
  | nil => rfl
  | cons c cs ih => rw [List.map_cons, List.map_cons, List.sum_cons, ih, List.length_cons]; simp; omega
theorem text_draw {n : Nat} {rest S : Sto} (hB : Bag (n + 31) rest S) : ∃ l S', f__law_text [.own 0] S = .ok (.d (tx l)) S' ∧ (∀ c ∈ l, c ∈ sgL) ∧ l.length ≤ 30 ∧ Bag n rest S' := by
  obtain ⟨x, S1, e1, hx, hB1⟩ := some_sem (things := [.int 0, .int 1, .int 5, .int 12, .int 30]) (n := n + 30) hB (by simp) (by simp)
  have hk : ∃ k : Nat, x = .int (k : Int) ∧ k ≤ 30 := by
    simp only [List.mem_cons, List.not_mem_nil, or_false] at hx
    rcases hx with e | e | e | e | e
    · exact ⟨0, e, by decide⟩
    · exact ⟨1, e, by decide⟩
    · exact ⟨5, e, by decide⟩
    · exact ⟨12, e, by decide⟩
    · exact ⟨30, e, by decide⟩
  obtain ⟨k, rfl, hk⟩ := hk
  have hr : (rangeD 0 k).length = k := by simp [rangeD]
  obtain ⟨ys, S2, e2, h1, h2, hB2⟩ := lc_bag (t := gNm 1) (f := eCall 2 f__law_some (lCons (eVar 0) (lCons (eFz (mSigns (lCons (eC (.str (PySem.Str.ofString " 019abz"))) lNil))) lNil))) (ρ := [some (.own 0), none]) (rest := rest) (P := fun y => ∃ c ∈ drL, y = tx [c]) (k := 1) (rangeD 0 k) n [] S1 (fun d _ => ⟨_, rfl, fun m S hm => by
      obtain ⟨y, S', g1, g2, g3⟩ := some_sem (things := drL.map fun c => tx [c]) (n := m) hm (by simp [drL]) (by simp [drL])
      obtain ⟨c, hc, e⟩ := List.mem_map.mp g2
      refine ⟨y, S', ?_, ⟨c, hc, e.symm⟩, g3⟩
      rw [← g1]
      simp only [mSigns, drawn_eq, signs_S, sSeq, sIf, tCmpB, tChB, tTru, tAndB, tOrB, tNotB, eAnd, eOr, eNot, truW, truD, eBin, eCh, eIf, eVar, eC, Rs.bind, op2, bool2, view, List.getElem?_cons_zero, List.getElem?_cons_succ, ixD, at_0, at_1, at_2, at_3, gtD, ltD, leD, geD, decide_true, decide_false, bindS, seqR, sSet, eB, lCons, lNil, opN, views, Option.map, Option.some.injEq, absG, lenG, modD, addD, subD, iaddD, if_true, if_false, reduceIte, call1, call2, lo0, lo1, lo2, lo3, lo4, lo5, List.set, sPut, sAugI, sAug, frzW, eFrz, ownL, ixSet4, sRet, sExpr, eOwn, eFz, mLst, dats, sNil, sRetN, eqD_int, neD_int, oSom, oNon, eSl, slD, Bool.false_eq_true, Bool.not_true, Bool.not_false, eTup, sPar, eCall, sAsg]⟩) (hB1.mono (by rw [hr]; omega))
  obtain ⟨cs, e3, h3, h4⟩ := ones_of h2
  have hsg : ∀ c ∈ cs, c ∈ sgL := fun c hc => dr_sg c (h3 c hc)
  have hlen : cs.length ≤ 30 := by rw [h4, h1, hr]; exact hk
  refine ⟨cs, S2, ?_, hsg, hlen, hB2⟩
  have j := join_tx (a := []) (ys := cs.map fun c => [c]) (fun _ h => by cases h) (fun y hy c hc => by
    obtain ⟨d, hd, rfl⟩ := List.mem_map.mp hy
    have : c = d := by simpa using hc
    rw [this]; exact sg_128 d (hsg d hd)) (by rw [sum1]; simp; omega)
  rw [joinL_nil, flat1, ← e3] at j
  have hrg : (rngOk (k : Int) && decide (k ≤ sizeLine)) = true := by
    have : (1000 : Nat) ≤ sizeLine := by decide
    simp [rngOk]
    omega
  have key : b__law_text [some (.own 0), none] S = .fl (.rt (.d (tx cs))) S2 := by
    have l5 : litOk (0 + 1 + 1 + 1 + 1 + 1) = true := by decide
    have l5' : litOk ([PyData.int 0, .int 1, .int 5, .int 12, .int 30].length) = true := by decide
    rw [List.nil_append] at e2
    simp only [b__law_text, eMet, empty_eq, mLc, iRange1, wipeR, l5, l5', e1, hrg, Int.toNat_natCast, e2, j, sSeq, sIf, tCmpB, tChB, tTru, tAndB, tOrB, tNotB, eAnd, eOr, eNot, truW, truD, eBin, eCh, eIf, eVar, eC, Rs.bind, op2, bool2, view, List.getElem?_cons_zero, List.getElem?_cons_succ, ixD, at_0, at_1, at_2, at_3, gtD, ltD, leD, geD, decide_true, decide_false, bindS, seqR, sSet, eB, lCons, lNil, opN, views, Option.map, Option.some.injEq, absG, lenG, modD, addD, subD, iaddD, if_true, if_false, reduceIte, call1, call2, lo0, lo1, lo2, lo3, lo4, lo5, List.set, sPut, sAugI, sAug, frzW, eFrz, ownL, ixSet4, sRet, sExpr, eOwn, eFz, mLst, dats, sNil, sRetN, eqD_int, neD_int, oSom, oNon, eSl, slD, Bool.false_eq_true, Bool.not_true, Bool.not_false, eTup, sPar, eCall, sAsg]
  have := run_ret (nn := 2) (ar := 1) (ws := [.own 0]) key
  rw [hB2.cut hB.len] at this
  exact this
theorem addD_int (i j : Int) : addD (.int i) (.int j) = some (.int (i + j)) := rfl
/-! ### bent texts -/
def cutN (l : List Nat) (lo hi : Option Int) : List Nat := (l.drop (HT.sIx l.length 0 lo)).take (HT.sIx l.length l.length hi - HT.sIx l.length 0 lo)
theorem sl_tx (l : List Nat) (lo hi : Option Int) : slD (tx l) lo hi = some (tx (cutN l lo hi)) := rfl
theorem cutN_sub {l : List Nat} {lo hi : Option Int} : (∀ c ∈ cutN l lo hi, c ∈ l) ∧ (cutN l lo hi).length ≤ l.length := by
  unfold cutN
  refine ⟨fun c hc => List.mem_of_mem_drop (List.mem_of_mem_take hc), ?_⟩
  rw [List.length_take, List.length_drop]
  omega
def bentL : List (List Nat) := [[], [97], [48], [58], [10], [65], [32], [45], [49, 58]]
theorem bent_draw {n : Nat} {rest S : Sto} {l : List Nat} (hB : Bag (n + 3) rest S) (ha : asc l) (hl : l.length ≤ 10000) : ∃ o S', f__law_bent [.own 0, .d (tx l)] S = .ok (.d (tx o)) S' ∧ asc o ∧ o.length ≤ 30000 ∧ Bag n rest S' := by
  have lg : ∀ k : Nat, k ≤ 100000 → ((k : Nat) : Int).natAbs.log2 < 9000 := fun k hk => by
    have : ((k : Nat) : Int).natAbs < 2 ^ 400 := by
      have : (100000 : Nat) < 2 ^ 400 := by decide
      omega
    exact Nat.lt_trans (lg400 _ this) (by decide)
  obtain ⟨at1, S1, e1, r0, r1, hB1⟩ := take_sem (many := ((l.length : Nat) : Int) + 1) hB (by omega) (by have := lg (l.length + 1) (by omega); simpa using this)
  obtain ⟨x, S2, e2, hx, hB2⟩ := some_sem (things := bentL.map tx) (n := n + 1) hB1 (by simp [bentL]) (by simp [bentL])
  obtain ⟨b, hb, rfl⟩ := List.mem_map.mp hx
  obtain ⟨k, S3, e3, k0, k1, hB3⟩ := take_sem (many := 2) hB2 (by decide) (lg 2 (by decide))
  have hb2 : b.length ≤ 2 ∧ asc b := by
    have : ∀ b ∈ bentL, b.length ≤ 2 ∧ ∀ c ∈ b, c < 128 := by decide
    exact this b hb
  have c1 := cutN_sub (l := l) (lo := none) (hi := some at1)
  have c2 := cutN_sub (l := l) (lo := some (at1 + k)) (hi := none)
  have a1 := addD_tx (a := cutN l none (some at1)) (b := b) (by omega)
  have a2 := addD_tx (a := cutN l none (some at1) ++ b) (b := cutN l (some (at1 + k)) none) (by simp; omega)
  refine ⟨cutN l none (some at1) ++ b ++ cutN l (some (at1 + k)) none, S3, ?_, asc_append (asc_append (fun c hc => ha c (c1.1 c hc)) hb2.2) (fun c hc => ha c (c2.1 c hc)), by simp; omega, hB3⟩
  have key : b__law_bent [some (.own 0), some (.d (tx l)), none, none] S = .fl (.rt (.d (tx (cutN l none (some at1) ++ b ++ cutN l (some (at1 + k)) none)))) S3 := by
    have l9 : litOk (([] : List PyData).length + 1 + 1 + 1 + 1 + 1 + 1 + 1 + 1 + 1) = true := by decide
    have ebl : bentL.map tx = [.str (PySem.Str.ofString ""), .str (PySem.Str.ofString "a"), .str (PySem.Str.ofString "0"), .str (PySem.Str.ofString ":"), .str (PySem.Str.ofString "\n"), .str (PySem.Str.ofString "A"), .str (PySem.Str.ofString " "), .str (PySem.Str.ofString "-"), .str (PySem.Str.ofString "1:")] := by
      have q : (PySem.Str.ofString "" = sS [] ∧ PySem.Str.ofString "a" = sS [97] ∧ PySem.Str.ofString "0" = sS [48] ∧ PySem.Str.ofString ":" = sS [58] ∧ PySem.Str.ofString "\n" = sS [10]) ∧ (PySem.Str.ofString "A" = sS [65] ∧ PySem.Str.ofString " " = sS [32] ∧ PySem.Str.ofString "-" = sS [45] ∧ PySem.Str.ofString "1:" = sS [49, 58]) := by decide +kernel
      obtain ⟨⟨q1, q2, q3, q4, q5⟩, q6, q7, q8, q9⟩ := q
      rw [q1, q2, q3, q4, q5, q6, q7, q8, q9]
      rfl
    have l9' : litOk (bentL.map tx).length = true := by decide
    rw [ebl] at e2 l9'
    have sl : ∀ lo hi, slD (.str (sS l)) lo hi = some (tx (cutN l lo hi)) := fun _ _ => rfl
    simp only [b__law_bent, sSeq, sSet, bindS, eCall, lCons, lNil, eVar, eBin, eB, Rs.bind, List.getElem?_cons_zero, List.getElem?_cons_succ, opN, views, view, Option.map, lenG, sS_len, eC, op2, call2, e1, seqR, List.set, eFz, mLst, dats, l9', if_true, sRet, eSl, oNon, oSom, sl, e2, addD_int, e3, a1, a2]
  have := run_ret (nn := 4) (ar := 2) (ws := [.own 0, .d (tx l)]) key
  rw [hB3.cut hB.len] at this
  exact this
end DL

set_option Elab.async false
set_option linter.all false
set_option maxRecDepth 100000
set_option maxHeartbeats 4000000
namespace DL
open PySem PySem.Spec PyProof.Rows L2

/-! ### a frame is read back -/
def body (t : List Nat) : List Nat := TL.numL t.length ++ 58 :: (TL.numL (chk 0 t).toNat ++ 58 :: t)
theorem frame_body (t : List Nat) : frame t = body t ++ [10] := by
  unfold frame body
  simp only [List.append_assoc, List.cons_append, List.nil_append]
theorem num_free {n s : Nat} (h : s < 48 ∨ 57 < s) : s ∉ TL.numL n := TL.numL_free h
theorem sg_free {t : List Nat} (h : ∀ c ∈ t, c ∈ sgL) : 58 ∉ t ∧ 10 ∉ t := by
  have : (58 ∉ sgL) ∧ (10 ∉ sgL) := by decide
  exact ⟨fun z => this.1 (h _ z), fun z => this.2 (h _ z)⟩
theorem body_free {t : List Nat} (h : ∀ c ∈ t, c ∈ sgL) : 10 ∉ body t := by
  unfold body
  simp only [List.mem_append, List.mem_cons, not_or]
  exact ⟨num_free (by decide), by decide, num_free (by decide), by decide, (sg_free h).2⟩
theorem body_sp {t : List Nat} (h : ∀ c ∈ t, c ∈ sgL) : sp1 58 [] (body t) = [TL.numL t.length, TL.numL (chk 0 t).toNat, t] := by
  unfold body
  rw [sp1_free _ _ _ (num_free (by decide)), sp1_free _ _ _ (num_free (by decide)), sp1_none _ _ (sg_free h).1]
  rfl
theorem num_head : ∀ n : Nat, 0 < n → (TL.numL n).head? ≠ some 48 := by
  intro n
  induction n using Nat.strongRecOn with
  | _ n ih =>
    intro hn
    by_cases h : n < 10
    · rw [TL.numL_lt h]
      intro z
      have : 48 + n = 48 := by simpa using z
      omega
    · rw [TL.numL_step (by omega)]
      have := ih (n / 10) (by omega) (by omega)
      cases hq : TL.numL (n / 10) with
      | nil => exact absurd hq (TL.numL_ne _)
      | cons c r =>
        rw [hq] at this
        exact this
theorem numB_num {n : Nat} (h : n < 10 ^ 9) : numB (TL.numL n) = true := by
  have h1 : 1 ≤ (TL.numL n).length := List.length_pos_iff.mpr (TL.numL_ne n)
  have h2 := num_len h
  have h3 : (TL.numL n).all (fun c => decide (c ∈ dgL)) = true := by
    rw [List.all_eq_true]
    intro c hc
    have := TL.numL_digits n c hc
    have key : ∀ c, 48 ≤ c ∧ c ≤ 57 → c ∈ dgL := by
      intro c hc
      have : c = 48 ∨ c = 49 ∨ c = 50 ∨ c = 51 ∨ c = 52 ∨ c = 53 ∨ c = 54 ∨ c = 55 ∨ c = 56 ∨ c = 57 := by omega
      rcases this with e | e | e | e | e | e | e | e | e | e <;> rw [e] <;> decide
    exact decide_eq_true (key c this)
  unfold numB
  rw [decide_eq_true h1, decide_eq_true h2, h3]
  by_cases hn : n = 0
  · subst hn; decide
  · have := num_head n (by omega)
    simp [this]
theorem valN_num (n : Nat) : valN (TL.numL n) = n := TL.numL_val n
theorem textIn_body {t : List Nat} (h : ∀ c ∈ t, c ∈ sgL) (hl : t.length ≤ 1000) : textIn (body t) = some t := by
  unfold textIn
  rw [body_sp h]
  dsimp only
  have h3 : t.all (fun c => decide (c ∈ sgL)) = true := by
    rw [List.all_eq_true]
    exact fun c hc => decide_eq_true (h c hc)
  have hk : okP (TL.numL t.length) (TL.numL (chk 0 t).toNat) t = true := by
    unfold okP
    rw [numB_num (by omega), numB_num (chk_nat (l := t)).2, h3, valN_num, valN_num, (chk_nat (l := t)).1]
    simp
  rw [if_pos hk]
def Good (ts : List (List Nat)) : Prop := ∀ t ∈ ts, (∀ c ∈ t, c ∈ sgL) ∧ t.length ≤ 30
def flat (ts : List (List Nat)) : List Nat := (ts.map frame).flatten
theorem flat_cons (t : List Nat) (r : List (List Nat)) : flat (t :: r) = frame t ++ flat r := by
  unfold flat
  rw [List.map_cons, List.flatten_cons]
theorem frame_asc {t : List Nat} (h : ∀ c ∈ t, c ∈ sgL) : asc (frame t) := by
  unfold frame
  refine asc_append (asc_append (asc_append (asc_append (asc_append (num_asc _) asc58) (num_asc _)) asc58) fun c hc => sg_128 c (h c hc)) fun c hc => ?_
  have : c = 10 := by simpa using hc
  omega
theorem frame_len {t : List Nat} (hl : t.length ≤ 30) : (frame t).length ≤ 60 := by
  have k1 := num_len (n := t.length) (by omega)
  have k2 := num_len (n := (chk 0 t).toNat) (chk_nat (l := t)).2
  unfold frame
  simp
  omega
theorem flat_asc : ∀ {ts : List (List Nat)}, Good ts → asc (flat ts)
  | [], _ => fun c h => by cases h
  | t :: ts, h => by
    unfold flat
    rw [List.map_cons, List.flatten_cons]
    exact asc_append (frame_asc (h t (by simp)).1) (flat_asc (ts := ts) fun u hu => h u (by simp [hu]))
theorem flat_len : ∀ {ts : List (List Nat)}, Good ts → (flat ts).length ≤ 60 * ts.length
  | [], _ => by simp [flat]
  | t :: ts, h => by
    have ih := flat_len (ts := ts) fun u hu => h u (by simp [hu])
    have := frame_len (h t (by simp)).2
    unfold flat at *
    rw [List.map_cons, List.flatten_cons, List.length_append, List.length_cons]
    omega
theorem sp_flat : ∀ {ts : List (List Nat)} {p : List Nat}, Good ts → 10 ∉ p → sp1 10 [] (flat ts ++ p) = ts.map body ++ [p]
  | [], p, _, hp => by
    show sp1 10 [] ([] ++ p) = _
    rw [List.nil_append, sp1_none _ _ hp]
    rfl
  | t :: ts, p, h, hp => by
    have ih := sp_flat (ts := ts) (p := p) (fun u hu => h u (by simp [hu])) hp
    have e : flat (t :: ts) ++ p = body t ++ 10 :: (flat ts ++ p) := by
      unfold flat
      rw [List.map_cons, List.flatten_cons, frame_body]
      simp
    rw [e, sp1_free _ _ _ (body_free (h t (by simp)).1), ih]
    rfl
theorem unf_bodies : ∀ {ts : List (List Nat)}, Good ts → unf (ts.map body) = (ts, (((flat ts).length : Nat) : Int))
  | [], _ => rfl
  | t :: ts, h => by
    have ih := unf_bodies (ts := ts) fun u hu => h u (by simp [hu])
    have ht := textIn_body (h t (by simp)).1 (by have := (h t (by simp)).2; omega)
    have e : (flat (t :: ts)).length = (body t).length + 1 + (flat ts).length := by
      rw [flat_cons, frame_body, List.length_append, List.length_append, List.length_singleton]
    rw [List.map_cons, unf, ht, ih, e]
    simp
theorem unfD_prefix {ts : List (List Nat)} {p : List Nat} (h : Good ts) (hp : 10 ∉ p) : unfD (flat ts ++ p) = .tuple [.tuple (ts.map tx), .int ((flat ts).length : Nat)] := by
  have e : cutD1 (flat ts ++ p) = ts.map body := by
    unfold cutD1
    rw [sp_flat h hp]
    simp
  unfold unfD
  rw [e, unf_bodies h]
/-- how many whole frames the first m signs hold -/
def whole : Nat → List (List Nat) → Nat
  | _, [] => 0
  | m, t :: r => if (frame t).length ≤ m then whole (m - (frame t).length) r + 1 else 0
theorem whole_le : ∀ (ts : List (List Nat)) (m : Nat), whole m ts ≤ ts.length
  | [], m => by simp [whole]
  | t :: r, m => by
    rw [whole]
    split
    · have := whole_le r (m - (frame t).length)
      simp; omega
    · simp
theorem whole_spec : ∀ (ts : List (List Nat)) (m : Nat), Good ts → ∃ p, 10 ∉ p ∧ (flat ts).take m = flat (ts.take (whole m ts)) ++ p
  | [], m, _ => ⟨[], by simp, by simp [flat, whole]⟩
  | t :: r, m, h => by
    rw [whole, flat_cons]
    split
    · rename_i hm
      obtain ⟨p, hp, e⟩ := whole_spec r (m - (frame t).length) fun u hu => h u (by simp [hu])
      refine ⟨p, hp, ?_⟩
      rw [List.take_succ_cons, flat_cons, List.append_assoc, ← e, List.take_append, List.take_of_length_le hm]
    · rename_i hm
      refine ⟨(body t).take m, fun z => body_free (h t (by simp)).1 (List.mem_of_mem_take z), ?_⟩
      have hl : m ≤ (body t).length := by
        rw [frame_body, List.length_append, List.length_singleton] at hm
        omega
      rw [List.take_zero, frame_body, List.append_assoc, List.take_append, show m - (body t).length = 0 by omega, List.take_zero, List.append_nil]
      rfl
theorem whole_iff : ∀ (ts : List (List Nat)) (m a : Nat), a ≤ ts.length → ((flat (ts.take a)).length ≤ m ↔ a ≤ whole m ts)
  | [], m, a, ha => by
    have : a = 0 := by simpa using ha
    subst this
    simp [flat]
  | t :: r, m, 0, ha => by simp [flat]
  | t :: r, m, a + 1, ha => by
    rw [List.take_succ_cons, flat_cons, List.length_append, whole]
    by_cases hm : (frame t).length ≤ m
    · rw [if_pos hm]
      have ih := whole_iff r (m - (frame t).length) a (by simpa using ha)
      constructor
      · intro h
        have := ih.mp (by omega)
        omega
      · intro h
        have := ih.mpr (by omega)
        omega
    · rw [if_neg hm]
      constructor
      · intro h; omega
      · intro h; omega
/-! ### the check tells one sign from another -/
theorem stp_inj {a b : Int} {c : Nat} (h1 : 0 ≤ a) (h2 : a < 99991) (h3 : 0 ≤ b) (h4 : b < 99991) (e : stp a c = stp b c) : a = b := by
  unfold stp at e
  rw [Int.fmod_eq_emod_of_nonneg _ (by decide), Int.fmod_eq_emod_of_nonneg _ (by decide)] at e
  omega
theorem stp_sign {a : Int} {c d : Nat} (hc : ixS c < 37) (hd : ixS d < 37) (e : stp a c = stp a d) : ixS c = ixS d := by
  unfold stp at e
  rw [Int.fmod_eq_emod_of_nonneg _ (by decide), Int.fmod_eq_emod_of_nonneg _ (by decide)] at e
  omega
theorem chk_inj : ∀ (l : List Nat) (a b : Int), 0 ≤ a → a < 99991 → 0 ≤ b → b < 99991 → chk a l = chk b l → a = b
  | [], a, b, _, _, _, _, e => e
  | c :: l, a, b, h1, h2, h3, h4, e => by
    have := chk_inj l (stp a c) (stp b c) (stp_range a c).1 (stp_range a c).2 (stp_range b c).1 (stp_range b c).2 e
    exact stp_inj h1 h2 h3 h4 this
theorem chk_append (a : Int) (l m : List Nat) : chk a (l ++ m) = chk (chk a l) m := by
  unfold chk
  rw [List.foldl_append]
theorem chk_differs {p q : List Nat} {c d : Nat} (hc : c ∈ sgL) (hd : d ∈ sgL) (e : chk 0 (p ++ c :: q) = chk 0 (p ++ d :: q)) : c = d := by
  rw [chk_append, chk_append] at e
  have h := chk_inj q (stp (chk 0 p) c) (stp (chk 0 p) d) (stp_range _ c).1 (stp_range _ c).2 (stp_range _ d).1 (stp_range _ d).2 e
  exact ix_inj c hc d hd (stp_sign (ix_lt c hc) (ix_lt d hd) h)
end DL

set_option Elab.async false
set_option linter.all false
set_option maxRecDepth 100000
set_option maxHeartbeats 4000000
namespace DL
open PySem PySem.Spec PyProof.Rows L2
noncomputable def q0 : SF := (sSet 3 (eFz (mLc (iRange1 (lCons (eCall 2 f__law_take (lCons (eVar 1) (lCons (eC (.int 5)) lNil))) lNil)) (gNm 8) bYes (eCall 1 f__law_text (lCons (eVar 1) lNil)) [8])))
noncomputable def q1 : SF := (sSet 4 (eFz (mLc (iVal (eVar 3)) (gNm 10) bYes (eCall 1 f__law_framed (lCons (eVar 10) lNil)) [10])))
noncomputable def q2 : SF := (sSet 5 (eMet joinG (eC (.str (PySem.Str.ofString ""))) (lCons (eVar 4) lNil)))
noncomputable def q3 : SF := (sIf (tNotB (tTru (eCall 2 f__law_alike (lCons (eFz (mLst (lCons (eFz (mLc (iVal (eVar 3)) (gNm 10) bYes (eCall 1 f_check_of (lCons (eVar 10) lNil)) [10])) (lCons (eFz (mLc (iVal (eVar 3)) (gNm 10) bYes (eCall 1 f_framed (lCons (eVar 10) lNil)) [10])) lNil)))) (lCons (eFz (mLst (lCons (eFz (mLc (iVal (eVar 3)) (gNm 10) bYes (eCall 1 f__law_check (lCons (eVar 10) lNil)) [10])) (lCons (eVar 4) lNil)))) lNil))))) (sRet (eC (.bool false))) sNil)
noncomputable def q4 : SF := (sIf (tNotB (tTru (eCall 2 f__law_alike (lCons (eFz (mLst (lCons (eCall 1 f_unframed (lCons (eVar 5) lNil)) (lCons (eCall 1 f_is_whole (lCons (eVar 5) lNil)) lNil)))) (lCons (eFz (mLst (lCons (eTup (lCons (eB tupG (lCons (eVar 3) lNil)) (lCons (eB lenG (lCons (eVar 5) lNil)) lNil))) (lCons (eC (.bool true)) lNil)))) lNil))))) (sRet (eC (.bool false))) sNil)
noncomputable def q5 : SF := (sFor (iRange1 (lCons (eBin addD (eB lenG (lCons (eVar 5) lNil)) (eC (.int 1))) lNil)) (gNm 6) (sSeq (sSet 7 (eBin ixD (eFz (mLc (iRange1 (lCons (eBin addD (eB lenG (lCons (eVar 4) lNil)) (eC (.int 1))) lNil)) (gNm 11) (tCmpB leD (eB sumG (lCons (eFz (mLc (iVal (eSl (eVar 4) oNon (oSom (eVar 11)))) (gNm 15) bYes (eB lenG (lCons (eVar 15) lNil)) [15])) lNil)) (eVar 6)) (eVar 11) [11])) (eB negG (lCons (eC (.int 1)) lNil)))) (sIf (tNotB (tTru (eCall 2 f__law_alike (lCons (eCall 1 f_unframed (lCons (eSl (eVar 5) oNon (oSom (eVar 6))) lNil)) (lCons (eTup (lCons (eB tupG (lCons (eSl (eVar 3) oNon (oSom (eVar 7))) lNil)) (lCons (eB sumG (lCons (eFz (mLc (iVal (eSl (eVar 4) oNon (oSom (eVar 7)))) (gNm 15) bYes (eB lenG (lCons (eVar 15) lNil)) [15])) lNil)) lNil))) lNil))))) (sRet (eC (.bool false))) sNil)))
noncomputable def q6 : SF := (sFor (iRange1 (lCons (eC (.int 12)) lNil)) (gNm 8) (sSeq (sSet 9 (eCall 2 f__law_bent (lCons (eVar 1) (lCons (eVar 5) lNil)))) (sIf (tNotB (tTru (eCall 2 f__law_alike (lCons (eFz (mLst (lCons (eCall 1 f_unframed (lCons (eVar 9) lNil)) (lCons (eCall 1 f_is_whole (lCons (eVar 9) lNil)) lNil)))) (lCons (eFz (mLst (lCons (eCall 1 f__law_unframed (lCons (eVar 9) lNil)) (lCons (eBin eqD (eBin ixD (eCall 1 f__law_unframed (lCons (eVar 9) lNil)) (eC (.int 1))) (eB lenG (lCons (eVar 9) lNil))) lNil)))) lNil))))) (sRet (eC (.bool false))) sNil)))
noncomputable def q7 : SF := (sFor (iVal (eVar 3)) (gNm 10) (sSeq (sSet 11 (eCall 2 f__law_take (lCons (eVar 1) (lCons (eB maxG (lCons (eC (.int 1)) (lCons (eB lenG (lCons (eVar 10) lNil)) lNil))) lNil)))) (sFor (iVal (eC (.str (PySem.Str.ofString "0b z")))) (gNm 12) (sSeq (sSet 13 (eBin addD (eBin addD (eSl (eVar 10) oNon (oSom (eVar 11))) (eVar 12)) (eSl (eVar 10) (oSom (eBin addD (eVar 11) (eC (.int 1)))) oNon))) (sIf (tAndB (tCmpB eqD (eB lenG (lCons (eVar 13) lNil)) (eB lenG (lCons (eVar 10) lNil))) (tAndB (tCmpB neD (eVar 13) (eVar 10)) (tCmpB eqD (eCall 1 f_check_of (lCons (eVar 13) lNil)) (eCall 1 f_check_of (lCons (eVar 10) lNil))))) (sRet (eC (.bool false))) sNil)))))
noncomputable def q5b : SF := (sSeq (sSet 7 (eBin ixD (eFz (mLc (iRange1 (lCons (eBin addD (eB lenG (lCons (eVar 4) lNil)) (eC (.int 1))) lNil)) (gNm 11) (tCmpB leD (eB sumG (lCons (eFz (mLc (iVal (eSl (eVar 4) oNon (oSom (eVar 11)))) (gNm 15) bYes (eB lenG (lCons (eVar 15) lNil)) [15])) lNil)) (eVar 6)) (eVar 11) [11])) (eB negG (lCons (eC (.int 1)) lNil)))) (sIf (tNotB (tTru (eCall 2 f__law_alike (lCons (eCall 1 f_unframed (lCons (eSl (eVar 5) oNon (oSom (eVar 6))) lNil)) (lCons (eTup (lCons (eB tupG (lCons (eSl (eVar 3) oNon (oSom (eVar 7))) lNil)) (lCons (eB sumG (lCons (eFz (mLc (iVal (eSl (eVar 4) oNon (oSom (eVar 7)))) (gNm 15) bYes (eB lenG (lCons (eVar 15) lNil)) [15])) lNil)) lNil))) lNil))))) (sRet (eC (.bool false))) sNil))
noncomputable def q6b : SF := (sSeq (sSet 9 (eCall 2 f__law_bent (lCons (eVar 1) (lCons (eVar 5) lNil)))) (sIf (tNotB (tTru (eCall 2 f__law_alike (lCons (eFz (mLst (lCons (eCall 1 f_unframed (lCons (eVar 9) lNil)) (lCons (eCall 1 f_is_whole (lCons (eVar 9) lNil)) lNil)))) (lCons (eFz (mLst (lCons (eCall 1 f__law_unframed (lCons (eVar 9) lNil)) (lCons (eBin eqD (eBin ixD (eCall 1 f__law_unframed (lCons (eVar 9) lNil)) (eC (.int 1))) (eB lenG (lCons (eVar 9) lNil))) lNil)))) lNil))))) (sRet (eC (.bool false))) sNil))
noncomputable def q7b : SF := (sSeq (sSet 11 (eCall 2 f__law_take (lCons (eVar 1) (lCons (eB maxG (lCons (eC (.int 1)) (lCons (eB lenG (lCons (eVar 10) lNil)) lNil))) lNil)))) (sFor (iVal (eC (.str (PySem.Str.ofString "0b z")))) (gNm 12) (sSeq (sSet 13 (eBin addD (eBin addD (eSl (eVar 10) oNon (oSom (eVar 11))) (eVar 12)) (eSl (eVar 10) (oSom (eBin addD (eVar 11) (eC (.int 1)))) oNon))) (sIf (tAndB (tCmpB eqD (eB lenG (lCons (eVar 13) lNil)) (eB lenG (lCons (eVar 10) lNil))) (tAndB (tCmpB neD (eVar 13) (eVar 10)) (tCmpB eqD (eCall 1 f_check_of (lCons (eVar 13) lNil)) (eCall 1 f_check_of (lCons (eVar 10) lNil))))) (sRet (eC (.bool false))) sNil))))
noncomputable def q7c : SF := (sSeq (sSet 13 (eBin addD (eBin addD (eSl (eVar 10) oNon (oSom (eVar 11))) (eVar 12)) (eSl (eVar 10) (oSom (eBin addD (eVar 11) (eC (.int 1)))) oNon))) (sIf (tAndB (tCmpB eqD (eB lenG (lCons (eVar 13) lNil)) (eB lenG (lCons (eVar 10) lNil))) (tAndB (tCmpB neD (eVar 13) (eVar 10)) (tCmpB eqD (eCall 1 f_check_of (lCons (eVar 13) lNil)) (eCall 1 f_check_of (lCons (eVar 10) lNil))))) (sRet (eC (.bool false))) sNil))
noncomputable def q8 : SF := (sSet 14 (eFz (mLst (lCons (eTup (lCons (eC (.str (PySem.Str.ofString "sale"))) (lCons (eTup (lCons (eC (.int 2)) (lCons (eC (.int 0)) lNil))) lNil))) (lCons (eTup (lCons (eC (.str (PySem.Str.ofString "back"))) (lCons (eC (.int 3)) (lCons (eTup (lCons (eC (.int 0)) (lCons (eC (.int 1)) lNil))) lNil)))) (lCons (eTup (lCons (eC (.str (PySem.Str.ofString "single"))) (lCons (eC (.str (PySem.Str.ofString "tea"))) (lCons (eC (.int 120)) lNil)))) (lCons (eTup (lCons (eC (.str (PySem.Str.ofString "deal"))) (lCons (eTup (lCons (eC (.int 2)) (lCons (eC (.int 1)) lNil))) (lCons (eC (.int 95)) lNil)))) (lCons (eTup (lCons (eC (.str (PySem.Str.ofString "drop"))) (lCons (eTup (lCons (eC (.int 0)) (lCons (eC (.int 12)) lNil))) lNil))) lNil))))))))
noncomputable def q9 : SF := (sRet (eCall 2 f__law_alike (lCons (eFz (mLc (iVal (eVar 14)) (gNm 16) bYes (eCall 1 f_entry_text (lCons (eVar 16) lNil)) [16])) (lCons (eFz (mLst (lCons (eC (.str (PySem.Str.ofString "sale 2 0"))) (lCons (eC (.str (PySem.Str.ofString "back 3 0 1"))) (lCons (eC (.str (PySem.Str.ofString "single tea 120"))) (lCons (eC (.str (PySem.Str.ofString "deal 95 2 1"))) (lCons (eC (.str (PySem.Str.ofString "drop 0 12"))) lNil))))))) lNil))))
noncomputable def qT : SF := sSeq q0 (sSeq q1 (sSeq q2 (sSeq q3 (sSeq q4 (sSeq q5 (sSeq q6 q7))))))
theorem law_eq : b_law = sSeq (sSet 1 (eCall 1 f__law_bag (lCons (eVar 0) lNil))) (sSeq (sFor (iRange1 (lCons (eC (.int 5)) lNil)) (gNm 2) qT) (sSeq q8 q9)) := rfl
/-- a loop by what holds of what is left -/
theorem for_inv {t : GF} {b : SF} {I : List PyData → Rho → Sto → Prop} (step : ∀ d l ρ S, I (d :: l) ρ S → ∃ ρ1 ρ2 S2, t d ρ = some ρ1 ∧ b ρ1 S = .fl (.nx ρ2) S2 ∧ I l ρ2 S2) : ∀ l ρ S, I l ρ S → ∃ ρ' S', forRun t b l ρ S = .fl (.nx ρ') S' ∧ I [] ρ' S'
  | [], ρ, S, h => ⟨ρ, S, rfl, h⟩
  | d :: l, ρ, S, h => by
    obtain ⟨ρ1, ρ2, S2, h1, h2, h3⟩ := step d l ρ S h
    obtain ⟨ρ', S', h4, h5⟩ := for_inv step l ρ2 S2 h3
    refine ⟨ρ', S', ?_, h5⟩
    unfold forRun
    rw [h1]
    dsimp only
    rw [h2]
    exact h4
theorem lc_call {F : FD} {G : List Nat → PyData} {ρ : Rho} {S : Sto} {ts : List (List Nat)} (h : ∀ t ∈ ts, F [.d (tx t)] S = .ok (.d (G t)) S) (hρ : 10 < ρ.length) : lcRun (gNm 10) bYes (eCall 1 F (lCons (eVar 10) lNil)) ρ (ts.map tx) [] S = .ok (ts.map G) S := by
  have key : ∀ (ts : List (List Nat)) (acc : List PyData), (∀ t ∈ ts, F [.d (tx t)] S = .ok (.d (G t)) S) → lcRun (gNm 10) bYes (eCall 1 F (lCons (eVar 10) lNil)) ρ (ts.map tx) acc S = .ok (acc ++ ts.map G) S := by
    intro ts
    induction ts with
    | nil => intro acc _; simp [lcRun]
    | cons t ts ih =>
      intro acc h
      rw [List.map_cons, lcRun]
      simp only [gNm, bYes, List.getElem?_set_self hρ, h t (by simp), sSeq, sIf, tCmpB, tChB, tTru, tAndB, tOrB, tNotB, eAnd, eOr, eNot, truW, truD, eBin, eCh, eIf, eVar, eC, Rs.bind, op2, bool2, view, List.getElem?_cons_zero, List.getElem?_cons_succ, ixD, at_0, at_1, at_2, at_3, gtD, ltD, leD, geD, decide_true, decide_false, bindS, seqR, sSet, eB, lCons, lNil, opN, views, Option.map, Option.some.injEq, absG, lenG, modD, addD, subD, iaddD, if_true, if_false, reduceIte, call1, call2, lo0, lo1, lo2, lo3, lo4, lo5, List.set, sPut, sAugI, sAug, frzW, eFrz, ownL, ixSet4, sRet, sExpr, eOwn, eFz, mLst, dats, sNil, sRetN, eqD_int, neD_int, oSom, oNon, eSl, slD, Bool.false_eq_true, Bool.not_true, Bool.not_false, eTup, sPar, eCall, sAsg]
      rw [ih _ fun u hu => h u (by simp [hu])]
      simp
  have := key ts [] h
  simpa using this
/-- texts are drawn, frames made, put together -/
theorem q012 {n : Nat} {S : Sto} {x0 x2 x3 x4 x5 x6 x7 x8 x9 x10 x11 x12 x13 x14 x15 x16 : Option Wv} (hB : Bag (n + 200) [] S) : ∃ ts S', Good ts ∧ ts.length ≤ 4 ∧ Bag n [] S' ∧ ∀ k : SF,
    sSeq q0 (sSeq q1 (sSeq q2 k)) [x0, some (.own 0), x2, x3, x4, x5, x6, x7, x8, x9, x10, x11, x12, x13, x14, x15, x16] S
      = k [x0, some (.own 0), x2, some (.d (.list (ts.map tx))), some (.d (.list (ts.map fun t => tx (frame t)))), some (.d (tx (flat ts))), x6, x7, x8, x9, x10, x11, x12, x13, x14, x15, x16] S' := by
  obtain ⟨r, S1, e1, r0, r1, hB1⟩ := take_sem (many := 5) (n := n + 199) hB (by decide) (by decide)
  obtain ⟨k, rfl⟩ : ∃ k : Nat, r = (k : Int) := ⟨r.toNat, by omega⟩
  have hk : k ≤ 4 := by omega
  have hr : (rangeD 0 k).length = k := by simp [rangeD]
  obtain ⟨ys, S2, e2, h1, h2, hB2⟩ := lc_bag (t := gNm 8) (f := eCall 1 f__law_text (lCons (eVar 1) lNil)) (ρ := [x0, some (.own 0), x2, x3, x4, x5, x6, x7, none, x9, x10, x11, x12, x13, x14, x15, x16]) (rest := []) (P := fun y => ∃ l, y = tx l ∧ (∀ c ∈ l, c ∈ sgL) ∧ l.length ≤ 30) (k := 31) (rangeD 0 k) n [] S1 (fun d _ => ⟨_, rfl, fun m S hm => by
      obtain ⟨l, S', g1, g2, g3, g4⟩ := text_draw (n := m) hm
      refine ⟨tx l, S', ?_, ⟨l, rfl, g2, g3⟩, g4⟩
      rw [← g1]
      simp only [sSeq, sIf, tCmpB, tChB, tTru, tAndB, tOrB, tNotB, eAnd, eOr, eNot, truW, truD, eBin, eCh, eIf, eVar, eC, Rs.bind, op2, bool2, view, List.getElem?_cons_zero, List.getElem?_cons_succ, ixD, at_0, at_1, at_2, at_3, gtD, ltD, leD, geD, decide_true, decide_false, bindS, seqR, sSet, eB, lCons, lNil, opN, views, Option.map, Option.some.injEq, absG, lenG, modD, addD, subD, iaddD, if_true, if_false, reduceIte, call1, call2, lo0, lo1, lo2, lo3, lo4, lo5, List.set, sPut, sAugI, sAug, frzW, eFrz, ownL, ixSet4, sRet, sExpr, eOwn, eFz, mLst, dats, sNil, sRetN, eqD_int, neD_int, oSom, oNon, eSl, slD, Bool.false_eq_true, Bool.not_true, Bool.not_false, eTup, sPar, eCall, sAsg]⟩) (hB1.mono (by rw [hr]; omega))
  obtain ⟨ts, e3, hg, hl⟩ : ∃ ts : List (List Nat), ys = ts.map tx ∧ Good ts ∧ ts.length = ys.length := by
    clear e2 h1
    induction ys with
    | nil => exact ⟨[], rfl, (fun _ h => by cases h), rfl⟩
    | cons y ys ih =>
      obtain ⟨l, e, g⟩ := h2 y (by simp)
      obtain ⟨ts, e1, e2, e3⟩ := ih fun z hz => h2 z (by simp [hz])
      refine ⟨l :: ts, by rw [e, e1]; rfl, fun d hd => ?_, by simp [e3]⟩
      rcases List.mem_cons.mp hd with q | q
      · rw [q]; exact g
      · exact e2 d q
  have hl4 : ts.length ≤ 4 := by rw [hl, h1, hr]; exact hk
  refine ⟨ts, S2, hg, hl4, hB2, fun kk => ?_⟩
  have hrg : (rngOk (k : Int) && decide (k ≤ sizeLine)) = true := by
    have : (1000 : Nat) ≤ sizeLine := by decide
    simp [rngOk]
    omega
  rw [List.nil_append, e3] at e2
  have lf := lc_call (F := f__law_framed) (G := fun t => tx (frame t)) (ρ := [x0, some (.own 0), x2, some (.d (.list (ts.map tx))), x4, x5, x6, x7, x8, x9, none, x11, x12, x13, x14, x15, x16]) (S := S2) (ts := ts) (fun t ht => lframed_sem (hg t ht).1 (by have := (hg t ht).2; omega)) (by show 10 < 17; decide)
  have j := join_tx (a := []) (ys := ts.map frame) (fun _ h => by cases h) (fun y hy => by
    obtain ⟨t, ht, rfl⟩ := List.mem_map.mp hy
    exact frame_asc (hg t ht).1) (by
      have h1 := flat_len hg
      have e : ((ts.map frame).map (·.length)).sum = (flat ts).length := by
        unfold flat
        rw [List.length_flatten]
      rw [e, List.length_nil, Nat.mul_zero]
      omega)
  rw [joinL_nil, List.map_map] at j
  have j' : joinG (sS []) [.list (ts.map fun t => tx (frame t))] = some (tx (flat ts)) := j
  simp only [q0, q1, q2, eMet, mLc, iRange1, iVal, seqD, wipeR, e1, e2, hrg, Int.toNat_natCast, lf, empty_eq, j', sSeq, sIf, tCmpB, tChB, tTru, tAndB, tOrB, tNotB, eAnd, eOr, eNot, truW, truD, eBin, eCh, eIf, eVar, eC, Rs.bind, op2, bool2, view, List.getElem?_cons_zero, List.getElem?_cons_succ, ixD, at_0, at_1, at_2, at_3, gtD, ltD, leD, geD, decide_true, decide_false, bindS, seqR, sSet, eB, lCons, lNil, opN, views, Option.map, Option.some.injEq, absG, lenG, modD, addD, subD, iaddD, if_true, if_false, reduceIte, call1, call2, lo0, lo1, lo2, lo3, lo4, lo5, List.set, sPut, sAugI, sAug, frzW, eFrz, ownL, ixSet4, sRet, sExpr, eOwn, eFz, mLst, dats, sNil, sRetN, eqD_int, neD_int, oSom, oNon, eSl, slD, Bool.false_eq_true, Bool.not_true, Bool.not_false, eTup, sPar, eCall, sAsg]
end DL

set_option Elab.async false
set_option linter.all false
set_option maxRecDepth 100000
set_option maxHeartbeats 4000000
namespace DL
open PySem PySem.Spec PyProof.Rows L2
theorem refls_map {G : List Nat → PyData} (h : ∀ t, refl? (G t) = true) : ∀ ts : List (List Nat), refls (ts.map G) = true
  | [] => rfl
  | t :: ts => by rw [List.map_cons, refls, h, refls_map h ts]; rfl
theorem wgts_map {G : List Nat → PyData} (h : ∀ t, wgt (G t) = 1) : ∀ ts : List (List Nat), wgts (ts.map G) = ts.length
  | [] => rfl
  | t :: ts => by rw [List.map_cons, wgts, h, wgts_map h ts, List.length_cons]; omega
theorem lit1 : litOk (0 + 1) = true := by decide
theorem lit2 : litOk (0 + 1 + 1) = true := by decide
section
variable {ts : List (List Nat)} {S : Sto} {x0 x2 x6 x7 x8 x9 x10 x11 x12 x13 x14 x15 x16 : Option Wv}
theorem q3_sem (hg : Good ts) (hl : ts.length ≤ 4) : q3 [x0, some (.own 0), x2, some (.d (.list (ts.map tx))), some (.d (.list (ts.map fun t => tx (frame t)))), some (.d (tx (flat ts))), x6, x7, x8, x9, x10, x11, x12, x13, x14, x15, x16] S
    = .fl (.nx [x0, some (.own 0), x2, some (.d (.list (ts.map tx))), some (.d (.list (ts.map fun t => tx (frame t)))), some (.d (tx (flat ts))), x6, x7, x8, x9, x10, x11, x12, x13, x14, x15, x16]) S := by
  have hρ : 10 < [x0, some (.own 0), x2, some (.d (.list (ts.map tx))), some (.d (.list (ts.map fun t => tx (frame t)))), some (.d (tx (flat ts))), x6, x7, x8, x9, none, x11, x12, x13, x14, x15, x16].length := by show 10 < 17; decide
  have c1 := lc_call (F := f_check_of) (G := fun t => .int (chk 0 t)) (S := S) (ts := ts) (fun t ht => check_sem (hg t ht).1) hρ
  have c2 := lc_call (F := f_framed) (G := fun t => tx (frame t)) (S := S) (ts := ts) (fun t ht => framed_sem (hg t ht).1 (by have := (hg t ht).2; omega)) hρ
  have c3 := lc_call (F := f__law_check) (G := fun t => .int (chk 0 t)) (S := S) (ts := ts) (fun t ht => lcheck_sem (hg t ht).1) hρ
  have al := alike_sem (d := .list [.list (ts.map fun t => .int (chk 0 t)), .list (ts.map fun t => tx (frame t))]) (S := S) (by
      rw [refl?, refls, refls, refls, refl?, refl?, refls_map (fun _ => rfl), refls_map (fun _ => rfl)]; rfl) (by
      rw [wgt, wgts, wgts, wgts, wgt, wgt, wgts_map (fun _ => by simp [wgt]), wgts_map (fun _ => by simp [wgt])]; omega)
  simp only [q3, mLc, iVal, seqD, wipeR, c1, c2, c3, lit1, lit2, al, sSeq, sIf, tCmpB, tChB, tTru, tAndB, tOrB, tNotB, eAnd, eOr, eNot, truW, truD, eBin, eCh, eIf, eVar, eC, Rs.bind, op2, bool2, view, List.getElem?_cons_zero, List.getElem?_cons_succ, ixD, at_0, at_1, at_2, at_3, gtD, ltD, leD, geD, decide_true, decide_false, bindS, seqR, sSet, eB, lCons, lNil, opN, views, Option.map, Option.some.injEq, absG, lenG, modD, addD, subD, iaddD, if_true, if_false, reduceIte, call1, call2, lo0, lo1, lo2, lo3, lo4, lo5, List.set, sPut, sAugI, sAug, frzW, eFrz, ownL, ixSet4, sRet, sExpr, eOwn, eFz, mLst, dats, sNil, sRetN, eqD_int, neD_int, oSom, oNon, eSl, slD, Bool.false_eq_true, Bool.not_true, Bool.not_false, eTup, sPar, eCall, sAsg]
theorem unf_flat (hg : Good ts) : unf (cutD1 (flat ts)) = (ts, (((flat ts).length : Nat) : Int)) := by
  have e : cutD1 (flat ts) = ts.map body := by
    have := sp_flat (ts := ts) (p := []) hg (by simp)
    rw [List.append_nil] at this
    unfold cutD1
    rw [this]
    simp
  rw [e, unf_bodies hg]
theorem q4_sem (hg : Good ts) (hl : ts.length ≤ 4) : q4 [x0, some (.own 0), x2, some (.d (.list (ts.map tx))), some (.d (.list (ts.map fun t => tx (frame t)))), some (.d (tx (flat ts))), x6, x7, x8, x9, x10, x11, x12, x13, x14, x15, x16] S
    = .fl (.nx [x0, some (.own 0), x2, some (.d (.list (ts.map tx))), some (.d (.list (ts.map fun t => tx (frame t)))), some (.d (tx (flat ts))), x6, x7, x8, x9, x10, x11, x12, x13, x14, x15, x16]) S := by
  have fl := flat_len hg
  have u := unf_sem (S := S) (flat_asc hg) (by omega)
  have w := whole_sem (S := S) (flat_asc hg) (by omega)
  have hu : unfD (flat ts) = .tuple [.tuple (ts.map tx), .int (((flat ts).length : Nat) : Int)] := by
    unfold unfD
    rw [unf_flat hg]
  rw [unf_flat hg] at w
  have hb : ((((flat ts).length : Nat) : Int) == (((flat ts).length : Nat) : Int)) = true := beq_self_eq_true _
  rw [show (ts, (((flat ts).length : Nat) : Int)).2 = (((flat ts).length : Nat) : Int) from rfl, hb] at w
  rw [hu] at u
  have al := alike_sem (d := .list [.tuple [.tuple (ts.map tx), .int (((flat ts).length : Nat) : Int)], .bool true]) (S := S) (by
      rw [refl?, refls, refls, refls, refl?, refls, refls, refls, refl?, refls_map (fun _ => rfl)]; rfl) (by
      rw [wgt, wgts, wgts, wgts, wgt, wgts, wgts, wgts, wgt, wgts_map (fun _ => by simp [wgt])]; simp [wgt]; omega)
  simp only [q4, u, w, al, lit1, lit2, tupG, sS_len, sSeq, sIf, tCmpB, tChB, tTru, tAndB, tOrB, tNotB, eAnd, eOr, eNot, truW, truD, eBin, eCh, eIf, eVar, eC, Rs.bind, op2, bool2, view, List.getElem?_cons_zero, List.getElem?_cons_succ, ixD, at_0, at_1, at_2, at_3, gtD, ltD, leD, geD, decide_true, decide_false, bindS, seqR, sSet, eB, lCons, lNil, opN, views, Option.map, Option.some.injEq, absG, lenG, modD, addD, subD, iaddD, if_true, if_false, reduceIte, call1, call2, lo0, lo1, lo2, lo3, lo4, lo5, List.set, sPut, sAugI, sAug, frzW, eFrz, ownL, ixSet4, sRet, sExpr, eOwn, eFz, mLst, dats, sNil, sRetN, eqD_int, neD_int, oSom, oNon, eSl, slD, Bool.false_eq_true, Bool.not_true, Bool.not_false, eTup, sPar, eCall, sAsg]
end
end DL

set_option Elab.async false
set_option linter.all false
set_option maxRecDepth 100000
set_option maxHeartbeats 4000000
namespace DL
open PySem PySem.Spec PyProof.Rows L2
theorem rg_gen {i : Int} (h0 : 0 ≤ i) (h : i ≤ 1000) : (rngOk i && decide (i.toNat ≤ sizeLine)) = true := by
  have h1 : rngOk i = true := decide_eq_true (by omega)
  have h2 : i.toNat ≤ 1000 := by omega
  have h3 : decide (i.toNat ≤ sizeLine) = true := decide_eq_true (Nat.le_trans h2 (by decide))
  rw [h1, h3]
  rfl
theorem ir_gen {i : Int} {f : LF} {ρ : Rho} {S S0 : Sto} {k : Nat} (h0 : 0 ≤ i) (h : i ≤ 1000) (hk : i.toNat = k) (e : f ρ S0 = .ok [.d (.int i)] S) : iRange1 f ρ S0 = .ok (rangeD 0 k) S := by
  unfold iRange1
  rw [e]
  simp only [Rs.bind]
  rw [if_pos (rg_gen h0 h), hk]
theorem cutD_take (L : List PyData) (a : Nat) : cutD L none (some (a : Int)) = L.take a := by
  unfold cutD
  rw [HT.sIx_nat, HT.sIx_none, List.drop_zero, Nat.sub_zero]
  by_cases h : a ≤ L.length
  · rw [Nat.min_eq_left h]
  · rw [Nat.min_eq_right (by omega), List.take_length, List.take_of_length_le (by omega)]
theorem cutS_take (l : List Nat) (a : Nat) : cutS (sS l) none (some (a : Int)) = sS (l.take a) := by
  show sS ((l.drop (HT.sIx l.length 0 none)).take (HT.sIx l.length l.length (some (a : Int)) - HT.sIx l.length 0 none)) = _
  rw [HT.sIx_nat, HT.sIx_none, List.drop_zero, Nat.sub_zero]
  by_cases h : a ≤ l.length
  · rw [Nat.min_eq_left h]
  · rw [Nat.min_eq_right (by omega), List.take_length, List.take_of_length_le (by omega)]
theorem len_run {ρ : Rho} {S : Sto} (us : List (List Nat)) (hρ : 15 < ρ.length) : lcRun (gNm 15) bYes (eB lenG (lCons (eVar 15) lNil)) ρ (us.map fun t => tx (frame t)) [] S = .ok (us.map fun t => .int ((frame t).length : Nat)) S := by
  have key : ∀ (us : List (List Nat)) (acc : List PyData), lcRun (gNm 15) bYes (eB lenG (lCons (eVar 15) lNil)) ρ (us.map fun t => tx (frame t)) acc S = .ok (acc ++ us.map fun t => .int ((frame t).length : Nat)) S := by
    intro us
    induction us with
    | nil => intro acc; simp [lcRun]
    | cons t ts ih =>
      intro acc
      rw [List.map_cons, lcRun]
      simp only [gNm, bYes, List.getElem?_set_self hρ, sS_len, sSeq, sIf, tCmpB, tChB, tTru, tAndB, tOrB, tNotB, eAnd, eOr, eNot, truW, truD, eBin, eCh, eIf, eVar, eC, Rs.bind, op2, bool2, view, List.getElem?_cons_zero, List.getElem?_cons_succ, ixD, at_0, at_1, at_2, at_3, gtD, ltD, leD, geD, decide_true, decide_false, bindS, seqR, sSet, eB, lCons, lNil, opN, views, Option.map, Option.some.injEq, absG, lenG, modD, addD, subD, iaddD, if_true, if_false, reduceIte, call1, call2, lo0, lo1, lo2, lo3, lo4, lo5, List.set, sPut, sAugI, sAug, frzW, eFrz, ownL, ixSet4, sRet, sExpr, eOwn, eFz, mLst, dats, sNil, sRetN, eqD_int, neD_int, oSom, oNon, eSl, slD, Bool.false_eq_true, Bool.not_true, Bool.not_false, eTup, sPar, eCall, sAsg]
      rw [ih]
      simp
  have := key us []
  simpa using this
theorem ints_map (f : List Nat → Int) : ∀ us : List (List Nat), intsD (us.map fun t => .int (f t)) = some (us.map f)
  | [] => rfl
  | t :: us => by rw [List.map_cons, intsD, ints_map f us]; rfl
theorem sum_flat : ∀ us : List (List Nat), (us.map fun t => (((frame t).length : Nat) : Int)).sum = (((flat us).length : Nat) : Int)
  | [] => rfl
  | t :: us => by
    rw [List.map_cons, List.sum_cons, sum_flat us, flat_cons, List.length_append]
    omega
theorem range_filter (k : Nat) : ∀ n : Nat, (List.range n).filter (fun i => decide (i ≤ k)) = List.range (min n (k + 1))
  | 0 => by simp
  | n + 1 => by
    rw [List.range_succ, List.filter_append, range_filter k n]
    by_cases h : n ≤ k
    · rw [Nat.min_eq_left (by omega), Nat.min_eq_left (by omega), List.filter_cons, if_pos (by simpa using h), List.filter_nil, List.range_succ]
    · rw [Nat.min_eq_right (by omega), Nat.min_eq_right (by omega), List.filter_cons, if_neg (by simpa using h), List.filter_nil, List.append_nil]
theorem last_range (k : Nat) : atI (rangeD 0 (k + 1)) (-1) = some (.int (k : Int)) := by
  have hl : (rangeD 0 (k + 1)).length = k + 1 := by simp [rangeD]
  unfold atI ixN
  rw [hl, if_neg (by decide), if_pos (by omega)]
  have : ((-1 : Int) + ((k + 1 : Nat) : Int)).toNat = k := by omega
  rw [Option.bind_some, this]
  unfold rangeD
  rw [List.getElem?_map, List.getElem?_range (by omega)]
  simp
def pW (ts : List (List Nat)) (m : Nat) : PyData → Bool
  | .int a => decide (a.toNat ≤ whole m ts)
  | _ => false
theorem whole_filter (ts : List (List Nat)) (m : Nat) : (rangeD 0 (ts.length + 1)).filter (pW ts m) = rangeD 0 (whole m ts + 1) := by
  have hw := whole_le ts m
  unfold rangeD
  rw [List.filter_map]
  have e : (pW ts m ∘ fun i : Nat => PyData.int (0 + (i : Int))) = fun i => decide (i ≤ whole m ts) := by
    funext i
    show decide ((0 + (i : Int)).toNat ≤ whole m ts) = _
    have : (0 + (i : Int)).toNat = i := by omega
    rw [this]
  rw [e, range_filter, Nat.min_eq_right (by omega)]
section
variable {ts : List (List Nat)} {S : Sto} {x0 x2 x6 x7 x8 x9 x10 x11 x12 x13 x14 x15 x16 : Option Wv}
noncomputable def wCond : BF := (tCmpB leD (eB sumG (lCons (eFz (mLc (iVal (eSl (eVar 4) oNon (oSom (eVar 11)))) (gNm 15) bYes (eB lenG (lCons (eVar 15) lNil)) [15])) lNil)) (eVar 6))
theorem wc_sem (hg : Good ts) (m a : Nat) (ha' : a ≤ ts.length) : wCond [x0, some (.own 0), x2, some (.d (.list (ts.map tx))), some (.d (.list (ts.map fun t => tx (frame t)))), some (.d (tx (flat ts))), some (.d (.int (m : Int))), x7, x8, x9, x10, some (.d (.int (a : Int))), x12, x13, x14, x15, x16] S = .ok (pW ts m (.int (a : Int))) S := by
  have lr := len_run (S := S) (ρ := [x0, some (.own 0), x2, some (.d (.list (ts.map tx))), some (.d (.list (ts.map fun t => tx (frame t)))), some (.d (tx (flat ts))), some (.d (.int (m : Int))), x7, x8, x9, x10, some (.d (.int (a : Int))), x12, x13, x14, none, x16]) (ts.take a) (by show 15 < 17; decide)
  have ct : cutD (ts.map fun t => tx (frame t)) none (some (a : Int)) = (ts.take a).map fun t => tx (frame t) := by rw [cutD_take, List.map_take]
  have wi := whole_iff ts m a ha'
  have hd : decide ((((flat (ts.take a)).length : Nat) : Int) ≤ (m : Int)) = pW ts m (.int (a : Int)) := by
    show _ = decide ((a : Int).toNat ≤ whole m ts)
    rw [Int.toNat_natCast]
    by_cases h : (flat (ts.take a)).length ≤ m
    · rw [decide_eq_true (by omega), decide_eq_true (wi.mp h)]
    · rw [decide_eq_false (by omega), decide_eq_false (fun z => h (wi.mpr z))]
  rw [← hd]
  simp only [wCond, mLc, iVal, seqD, wipeR, ct, lr, sumG, ints_map, sum_flat, sSeq, sIf, tCmpB, tChB, tTru, tAndB, tOrB, tNotB, eAnd, eOr, eNot, truW, truD, eBin, eCh, eIf, eVar, eC, Rs.bind, op2, bool2, view, List.getElem?_cons_zero, List.getElem?_cons_succ, ixD, at_0, at_1, at_2, at_3, gtD, ltD, leD, geD, decide_true, decide_false, bindS, seqR, sSet, eB, lCons, lNil, opN, views, Option.map, Option.some.injEq, absG, lenG, modD, addD, subD, iaddD, if_true, if_false, reduceIte, call1, call2, lo0, lo1, lo2, lo3, lo4, lo5, List.set, sPut, sAugI, sAug, frzW, eFrz, ownL, ixSet4, sRet, sExpr, eOwn, eFz, mLst, dats, sNil, sRetN, eqD_int, neD_int, oSom, oNon, eSl, slD, Bool.false_eq_true, Bool.not_true, Bool.not_false, eTup, sPar, eCall, sAsg]
theorem wc_run (hg : Good ts) (m : Nat) : lcRun (gNm 11) wCond (eVar 11) [x0, some (.own 0), x2, some (.d (.list (ts.map tx))), some (.d (.list (ts.map fun t => tx (frame t)))), some (.d (tx (flat ts))), some (.d (.int (m : Int))), x7, x8, x9, x10, none, x12, x13, x14, x15, x16] (rangeD 0 (ts.length + 1)) [] S = .ok (rangeD 0 (whole m ts + 1)) S := by
  have cm := lc_map (t := gNm 11) (c := wCond) (f := eVar 11)
    (ρ := [x0, some (.own 0), x2, some (.d (.list (ts.map tx))), some (.d (.list (ts.map fun t => tx (frame t)))), some (.d (tx (flat ts))), some (.d (.int (m : Int))), x7, x8, x9, x10, none, x12, x13, x14, x15, x16]) (S := S) (g := fun d => d) (p := pW ts m) (rangeD 0 (ts.length + 1)) [] fun d hd => by
      unfold rangeD at hd
      obtain ⟨a, ha, rfl⟩ := List.mem_map.mp hd
      have ha' : a ≤ ts.length := by have := List.mem_range.mp ha; omega
      have e0 : (0 + (a : Int)) = (a : Int) := by omega
      rw [e0]
      exact ⟨_, rfl, wc_sem hg m a ha', fun _ => rfl⟩
  rw [List.nil_append, whole_filter, List.map_id'] at cm
  exact cm
theorem wc_set (hg : Good ts) (hl : ts.length ≤ 4) (m : Nat) : (eBin ixD (eFz (mLc (iRange1 (lCons (eBin addD (eB lenG (lCons (eVar 4) lNil)) (eC (.int 1))) lNil)) (gNm 11) wCond (eVar 11) [11])) (eB negG (lCons (eC (.int 1)) lNil))) [x0, some (.own 0), x2, some (.d (.list (ts.map tx))), some (.d (.list (ts.map fun t => tx (frame t)))), some (.d (tx (flat ts))), some (.d (.int (m : Int))), x7, x8, x9, x10, x11, x12, x13, x14, x15, x16] S = .ok (.d (.int (whole m ts : Nat))) S := by
  have hi := ir_gen (f := (lCons (eBin addD (eB lenG (lCons (eVar 4) lNil)) (eC (.int 1))) lNil)) (ρ := [x0, some (.own 0), x2, some (.d (.list (ts.map tx))), some (.d (.list (ts.map fun t => tx (frame t)))), some (.d (tx (flat ts))), some (.d (.int (m : Int))), x7, x8, x9, x10, x11, x12, x13, x14, x15, x16]) (S0 := S) (S := S) (i := ((ts.length : Nat) : Int) + 1) (k := ts.length + 1) (by omega) (by omega) (by omega) (by simp only [List.length_map, sSeq, sIf, tCmpB, tChB, tTru, tAndB, tOrB, tNotB, eAnd, eOr, eNot, truW, truD, eBin, eCh, eIf, eVar, eC, Rs.bind, op2, bool2, view, List.getElem?_cons_zero, List.getElem?_cons_succ, ixD, at_0, at_1, at_2, at_3, gtD, ltD, leD, geD, decide_true, decide_false, bindS, seqR, sSet, eB, lCons, lNil, opN, views, Option.map, Option.some.injEq, absG, lenG, modD, addD, subD, iaddD, if_true, if_false, reduceIte, call1, call2, lo0, lo1, lo2, lo3, lo4, lo5, List.set, sPut, sAugI, sAug, frzW, eFrz, ownL, ixSet4, sRet, sExpr, eOwn, eFz, mLst, dats, sNil, sRetN, eqD_int, neD_int, oSom, oNon, eSl, slD, Bool.false_eq_true, Bool.not_true, Bool.not_false, eTup, sPar, eCall, sAsg])
  have cm := wc_run (S := S) (x0 := x0) (x2 := x2) (x7 := x7) (x8 := x8) (x9 := x9) (x10 := x10) (x12 := x12) (x13 := x13) (x14 := x14) (x15 := x15) (x16 := x16) hg m
  show ((((iRange1 (lCons (eBin addD (eB lenG (lCons (eVar 4) lNil)) (eC (.int 1))) lNil) [x0, some (.own 0), x2, some (.d (.list (ts.map tx))), some (.d (.list (ts.map fun t => tx (frame t)))), some (.d (tx (flat ts))), some (.d (.int (m : Int))), x7, x8, x9, x10, x11, x12, x13, x14, x15, x16] S).bind fun l S1 => lcRun (gNm 11) wCond (eVar 11) (wipeR [x0, some (.own 0), x2, some (.d (.list (ts.map tx))), some (.d (.list (ts.map fun t => tx (frame t)))), some (.d (tx (flat ts))), some (.d (.int (m : Int))), x7, x8, x9, x10, x11, x12, x13, x14, x15, x16] [11]) l [] S1).bind fun l S1 => .ok (.d (.list l)) S1).bind fun x S1 => (eB negG (lCons (eC (.int 1)) lNil) [x0, some (.own 0), x2, some (.d (.list (ts.map tx))), some (.d (.list (ts.map fun t => tx (frame t)))), some (.d (tx (flat ts))), some (.d (.int (m : Int))), x7, x8, x9, x10, x11, x12, x13, x14, x15, x16] S1).bind fun y S2 => op2 ixD x y S2) = _
  rw [hi]
  simp only [wipeR, Rs.bind, List.set]
  rw [cm]
  simp only [eB, lCons, eC, lNil, Rs.bind, opN, views, view, Option.map, negG, op2, ixD]
  rw [last_range]
noncomputable def wAlk : SF := (sIf (tNotB (tTru (eCall 2 f__law_alike (lCons (eCall 1 f_unframed (lCons (eSl (eVar 5) oNon (oSom (eVar 6))) lNil)) (lCons (eTup (lCons (eB tupG (lCons (eSl (eVar 3) oNon (oSom (eVar 7))) lNil)) (lCons (eB sumG (lCons (eFz (mLc (iVal (eSl (eVar 4) oNon (oSom (eVar 7)))) (gNm 15) bYes (eB lenG (lCons (eVar 15) lNil)) [15])) lNil)) lNil))) lNil))))) (sRet (eC (.bool false))) sNil)
theorem wc_alk (hg : Good ts) (hl : ts.length ≤ 4) (m : Nat) : wAlk [x0, some (.own 0), x2, some (.d (.list (ts.map tx))), some (.d (.list (ts.map fun t => tx (frame t)))), some (.d (tx (flat ts))), some (.d (.int (m : Int))), some (.d (.int (whole m ts : Nat))), x8, x9, x10, x11, x12, x13, x14, x15, x16] S = .fl (.nx [x0, some (.own 0), x2, some (.d (.list (ts.map tx))), some (.d (.list (ts.map fun t => tx (frame t)))), some (.d (tx (flat ts))), some (.d (.int (m : Int))), some (.d (.int (whole m ts : Nat))), x8, x9, x10, x11, x12, x13, x14, x15, x16]) S := by
  obtain ⟨p, hp, ep⟩ := whole_spec ts m hg
  have hg' : Good (ts.take (whole m ts)) := fun t ht => hg t (List.mem_of_mem_take ht)
  have fl := flat_len hg
  have un := unf_sem (S := S) (l := (flat ts).take m) (fun c hc => flat_asc hg c (List.mem_of_mem_take hc)) (by rw [List.length_take]; omega)
  have hu : unfD ((flat ts).take m) = .tuple [.tuple ((ts.take (whole m ts)).map tx), .int (((flat (ts.take (whole m ts))).length : Nat) : Int)] := by
    rw [ep, unfD_prefix hg' hp]
  rw [hu] at un
  have lr := len_run (S := S) (ρ := [x0, some (.own 0), x2, some (.d (.list (ts.map tx))), some (.d (.list (ts.map fun t => tx (frame t)))), some (.d (tx (flat ts))), some (.d (.int (m : Int))), some (.d (.int (whole m ts : Nat))), x8, x9, x10, x11, x12, x13, x14, none, x16]) (ts.take (whole m ts)) (by show 15 < 17; decide)
  have ct : cutD (ts.map fun t => tx (frame t)) none (some ((whole m ts : Nat) : Int)) = (ts.take (whole m ts)).map fun t => tx (frame t) := by rw [cutD_take, List.map_take]
  have ct2 : cutD (ts.map tx) none (some ((whole m ts : Nat) : Int)) = (ts.take (whole m ts)).map tx := by rw [cutD_take, List.map_take]
  have hl' : (ts.take (whole m ts)).length ≤ 4 := by rw [List.length_take]; omega
  have al := alike_sem (d := .tuple [.tuple ((ts.take (whole m ts)).map tx), .int (((flat (ts.take (whole m ts))).length : Nat) : Int)]) (S := S) (by
      rw [refl?, refls, refls, refls, refl?, refls_map (fun _ => rfl)]; rfl) (by
      rw [wgt, wgts, wgts, wgts, wgt, wgts_map (fun _ => by simp [wgt])]; simp [wgt]; omega)
  generalize hW : whole m ts = W at *
  simp only [wAlk, mLc, iVal, seqD, wipeR, cutS_take, un, ct, ct2, lr, sumG, ints_map, sum_flat, tupG, al, sSeq, sIf, tCmpB, tChB, tTru, tAndB, tOrB, tNotB, eAnd, eOr, eNot, truW, truD, eBin, eCh, eIf, eVar, eC, Rs.bind, op2, bool2, view, List.getElem?_cons_zero, List.getElem?_cons_succ, ixD, at_0, at_1, at_2, at_3, gtD, ltD, leD, geD, decide_true, decide_false, bindS, seqR, sSet, eB, lCons, lNil, opN, views, Option.map, Option.some.injEq, absG, lenG, modD, addD, subD, iaddD, if_true, if_false, reduceIte, call1, call2, lo0, lo1, lo2, lo3, lo4, lo5, List.set, sPut, sAugI, sAug, frzW, eFrz, ownL, ixSet4, sRet, sExpr, eOwn, eFz, mLst, dats, sNil, sRetN, eqD_int, neD_int, oSom, oNon, eSl, slD, Bool.false_eq_true, Bool.not_true, Bool.not_false, eTup, sPar, eCall, sAsg]
theorem q5b_eq : q5b = sSeq (sSet 7 (eBin ixD (eFz (mLc (iRange1 (lCons (eBin addD (eB lenG (lCons (eVar 4) lNil)) (eC (.int 1))) lNil)) (gNm 11) wCond (eVar 11) [11])) (eB negG (lCons (eC (.int 1)) lNil)))) wAlk := rfl
theorem q5_eq : q5 = sFor (iRange1 (lCons (eBin addD (eB lenG (lCons (eVar 5) lNil)) (eC (.int 1))) lNil)) (gNm 6) q5b := rfl
theorem q5b_sem (hg : Good ts) (hl : ts.length ≤ 4) (m : Nat) : ∃ y7, q5b [x0, some (.own 0), x2, some (.d (.list (ts.map tx))), some (.d (.list (ts.map fun t => tx (frame t)))), some (.d (tx (flat ts))), some (.d (.int (m : Int))), x7, x8, x9, x10, x11, x12, x13, x14, x15, x16] S
    = .fl (.nx [x0, some (.own 0), x2, some (.d (.list (ts.map tx))), some (.d (.list (ts.map fun t => tx (frame t)))), some (.d (tx (flat ts))), some (.d (.int (m : Int))), y7, x8, x9, x10, x11, x12, x13, x14, x15, x16]) S := by
  refine ⟨some (.d (.int (whole m ts : Nat))), ?_⟩
  have e1 := wc_set (S := S) (x0 := x0) (x2 := x2) (x7 := x7) (x8 := x8) (x9 := x9) (x10 := x10) (x11 := x11) (x12 := x12) (x13 := x13) (x14 := x14) (x15 := x15) (x16 := x16) hg hl m
  have e2 := wc_alk (S := S) (x0 := x0) (x2 := x2) (x8 := x8) (x9 := x9) (x10 := x10) (x11 := x11) (x12 := x12) (x13 := x13) (x14 := x14) (x15 := x15) (x16 := x16) hg hl m
  rw [q5b_eq]
  unfold sSeq sSet
  rw [e1]
  simp only [bindS, seqR, List.set]
  exact e2
theorem q5_sem (hg : Good ts) (hl : ts.length ≤ 4) : ∃ y6 y7, q5 [x0, some (.own 0), x2, some (.d (.list (ts.map tx))), some (.d (.list (ts.map fun t => tx (frame t)))), some (.d (tx (flat ts))), x6, x7, x8, x9, x10, x11, x12, x13, x14, x15, x16] S
    = .fl (.nx [x0, some (.own 0), x2, some (.d (.list (ts.map tx))), some (.d (.list (ts.map fun t => tx (frame t)))), some (.d (tx (flat ts))), y6, y7, x8, x9, x10, x11, x12, x13, x14, x15, x16]) S := by
  have fl := flat_len hg
  obtain ⟨ρ', S', e, y6, y7, e1, e2, _⟩ := for_inv (t := gNm 6) (b := q5b) (I := fun l ρ S1 => ∃ y6 y7, ρ = [x0, some (.own 0), x2, some (.d (.list (ts.map tx))), some (.d (.list (ts.map fun t => tx (frame t)))), some (.d (tx (flat ts))), y6, y7, x8, x9, x10, x11, x12, x13, x14, x15, x16] ∧ S1 = S ∧ ∀ d ∈ l, ∃ m : Nat, d = .int (m : Int))
    (fun d l ρ S1 ⟨y6, y7, e1, e2, h⟩ => by
      subst e1 e2
      obtain ⟨m, rfl⟩ := h d (by simp)
      obtain ⟨z7, e⟩ := q5b_sem (S := S1) (x0 := x0) (x2 := x2) (x7 := y7) (x8 := x8) (x9 := x9) (x10 := x10) (x11 := x11) (x12 := x12) (x13 := x13) (x14 := x14) (x15 := x15) (x16 := x16) hg hl m
      exact ⟨_, _, _, rfl, e, _, _, rfl, rfl, fun d hd => h d (by simp [hd])⟩) (rangeD 0 ((flat ts).length + 1)) _ S ⟨x6, x7, rfl, rfl, fun d hd => by
        unfold rangeD at hd
        obtain ⟨a, ha, rfl⟩ := List.mem_map.mp hd
        exact ⟨a, by simp⟩⟩
  have hi := ir_gen (f := (lCons (eBin addD (eB lenG (lCons (eVar 5) lNil)) (eC (.int 1))) lNil)) (ρ := [x0, some (.own 0), x2, some (.d (.list (ts.map tx))), some (.d (.list (ts.map fun t => tx (frame t)))), some (.d (tx (flat ts))), x6, x7, x8, x9, x10, x11, x12, x13, x14, x15, x16]) (S0 := S) (S := S) (i := (((flat ts).length : Nat) : Int) + 1) (k := (flat ts).length + 1) (by omega) (by omega) (by omega) (by simp only [sS_len, sSeq, sIf, tCmpB, tChB, tTru, tAndB, tOrB, tNotB, eAnd, eOr, eNot, truW, truD, eBin, eCh, eIf, eVar, eC, Rs.bind, op2, bool2, view, List.getElem?_cons_zero, List.getElem?_cons_succ, ixD, at_0, at_1, at_2, at_3, gtD, ltD, leD, geD, decide_true, decide_false, bindS, seqR, sSet, eB, lCons, lNil, opN, views, Option.map, Option.some.injEq, absG, lenG, modD, addD, subD, iaddD, if_true, if_false, reduceIte, call1, call2, lo0, lo1, lo2, lo3, lo4, lo5, List.set, sPut, sAugI, sAug, frzW, eFrz, ownL, ixSet4, sRet, sExpr, eOwn, eFz, mLst, dats, sNil, sRetN, eqD_int, neD_int, oSom, oNon, eSl, slD, Bool.false_eq_true, Bool.not_true, Bool.not_false, eTup, sPar, eCall, sAsg])
  refine ⟨y6, y7, ?_⟩
  subst e1 e2
  rw [← e]
  rw [q5_eq]
  unfold sFor
  rw [hi]
  simp only [bindS]
end
end DL

set_option Elab.async false
set_option linter.all false
set_option maxRecDepth 100000
set_option maxHeartbeats 4000000
namespace DL
open PySem PySem.Spec PyProof.Rows L2
theorem unf_len : ∀ ls : List (List Nat), (unf ls).1.length ≤ ls.length
  | [] => Nat.le_refl _
  | x :: r => by
    have ih := unf_len r
    rw [unf]
    cases textIn x with
    | none => exact Nat.zero_le _
    | some t =>
      show (t :: (unf r).1).length ≤ _
      rw [List.length_cons, List.length_cons]; omega
theorem seq_nx {f g : SF} {ρ ρ1 : Rho} {S S1 : Sto} (h : f ρ S = .fl (.nx ρ1) S1) : sSeq f g ρ S = g ρ1 S1 := by
  unfold sSeq
  rw [h]
  rfl
theorem a2_1 (a b : PyData) : atI [a, b] 1 = some b := rfl
section
variable {ts : List (List Nat)} {S : Sto} {x0 x2 x3 x4 x5 x6 x7 x8 x9 x10 x11 x12 x13 x14 x15 x16 : Option Wv} {n : Nat} {l : List Nat}
theorem q6b_sem (ha : asc l) (hl : l.length ≤ 10000) (hB : Bag (n + 3) [] S) : ∃ y9 S', q6b [x0, some (.own 0), x2, x3, x4, some (.d (tx l)), x6, x7, x8, x9, x10, x11, x12, x13, x14, x15, x16] S
    = .fl (.nx [x0, some (.own 0), x2, x3, x4, some (.d (tx l)), x6, x7, x8, y9, x10, x11, x12, x13, x14, x15, x16]) S' ∧ Bag n [] S' := by
  obtain ⟨o, S', e, oa, ol, hB'⟩ := bent_draw hB ha hl
  refine ⟨some (.d (tx o)), S', ?_, hB'⟩
  have u := unf_sem (S := S') oa (by omega)
  have w := whole_sem (S := S') oa (by omega)
  have lu := lunf_sem (S := S') oa (by omega)
  have hc := sp1_count 10 o []
  have hu := unf_len (cutD1 o)
  have hcl : (cutD1 o).length ≤ 40000 := by
    unfold cutD1
    rw [List.length_dropLast]
    omega
  unfold unfD at u lu
  have al := alike_sem (d := .list [.tuple [.tuple ((unf (cutD1 o)).1.map tx), .int (unf (cutD1 o)).2], .bool ((unf (cutD1 o)).2 == (o.length : Nat))]) (S := S') (by
      rw [refl?, refls, refls, refls, refl?, refls, refls, refls, refl?, refls_map (fun _ => rfl)]; rfl) (by
      rw [wgt, wgts, wgts, wgts, wgt, wgts, wgts, wgts, wgt, wgts_map (fun _ => by simp [wgt])]; simp [wgt]; omega)
  generalize (unf (cutD1 o)).2 = M at *
  generalize (unf (cutD1 o)).1 = FS at *
  simp only [q6b, e, u, w, lu, al, a2_1, sS_len, sSeq, sIf, tCmpB, tChB, tTru, tAndB, tOrB, tNotB, eAnd, eOr, eNot, truW, truD, eBin, eCh, eIf, eVar, eC, Rs.bind, op2, bool2, view, List.getElem?_cons_zero, List.getElem?_cons_succ, ixD, at_0, at_1, at_2, at_3, gtD, ltD, leD, geD, decide_true, decide_false, bindS, seqR, sSet, eB, lCons, lNil, opN, views, Option.map, Option.some.injEq, absG, lenG, modD, addD, subD, iaddD, if_true, if_false, reduceIte, call1, call2, lo0, lo1, lo2, lo3, lo4, lo5, List.set, sPut, sAugI, sAug, frzW, eFrz, ownL, ixSet4, sRet, sExpr, eOwn, eFz, mLst, dats, sNil, sRetN, eqD_int, neD_int, oSom, oNon, eSl, slD, Bool.false_eq_true, Bool.not_true, Bool.not_false, eTup, sPar, eCall, sAsg]
theorem q6_eq : q6 = sFor (iRange1 (lCons (eC (.int 12)) lNil)) (gNm 8) q6b := rfl
theorem q6_sem (ha : asc l) (hl : l.length ≤ 10000) (hB : Bag (n + 40) [] S) : ∃ y8 y9 S', q6 [x0, some (.own 0), x2, x3, x4, some (.d (tx l)), x6, x7, x8, x9, x10, x11, x12, x13, x14, x15, x16] S
    = .fl (.nx [x0, some (.own 0), x2, x3, x4, some (.d (tx l)), x6, x7, y8, y9, x10, x11, x12, x13, x14, x15, x16]) S' ∧ Bag n [] S' := by
  obtain ⟨ρ', S', e, y8, y9, e1, hB'⟩ := for_inv (t := gNm 8) (b := q6b) (I := fun L ρ S1 => ∃ y8 y9, ρ = [x0, some (.own 0), x2, x3, x4, some (.d (tx l)), x6, x7, y8, y9, x10, x11, x12, x13, x14, x15, x16] ∧ Bag (n + 3 * L.length) [] S1)
    (fun d L ρ S1 ⟨y8, y9, e1, h⟩ => by
      subst e1
      obtain ⟨z9, S2, e, h2⟩ := q6b_sem (S := S1) (n := n + 3 * L.length) (x0 := x0) (x2 := x2) (x3 := x3) (x4 := x4) (x6 := x6) (x7 := x7) (x8 := some (.d d)) (x9 := y9) (x10 := x10) (x11 := x11) (x12 := x12) (x13 := x13) (x14 := x14) (x15 := x15) (x16 := x16) ha hl (h.mono (by rw [List.length_cons]; omega))
      exact ⟨_, _, _, rfl, e, _, _, rfl, h2⟩) (rangeD 0 12) _ S ⟨x8, x9, rfl, hB.mono (by simp [rangeD])⟩
  have hi := ir_gen (f := (lCons (eC (.int 12)) lNil)) (ρ := [x0, some (.own 0), x2, x3, x4, some (.d (tx l)), x6, x7, x8, x9, x10, x11, x12, x13, x14, x15, x16]) (S0 := S) (S := S) (i := 12) (k := 12) (by decide) (by decide) (by decide) rfl
  refine ⟨y8, y9, S', ?_, hB'⟩
  subst e1
  rw [q6_eq]
  unfold sFor
  rw [hi]
  simp only [bindS]
  exact e
theorem cutS_drop (l : List Nat) (a : Nat) : cutS (sS l) (some (a : Int)) none = sS (l.drop a) := by
  show sS ((l.drop (HT.sIx l.length 0 (some (a : Int)))).take (HT.sIx l.length l.length none - HT.sIx l.length 0 (some (a : Int)))) = _
  rw [HT.sIx_nat, HT.sIx_none]
  by_cases h : a ≤ l.length
  · rw [Nat.min_eq_left h, List.take_of_length_le (by rw [List.length_drop]; omega)]
  · rw [Nat.min_eq_right (by omega), List.drop_length, List.drop_of_length_le (by omega), List.take_nil]
def sgn4 : List Nat := [48, 98, 32, 122]
theorem sgn4_eq : PySem.Str.ofString "0b z" = sS sgn4 := by decide +kernel
theorem q7c_sem {t : List Nat} {a c : Nat} (ht : ∀ c ∈ t, c ∈ sgL) (hl : t.length ≤ 1000) (hc : c ∈ sgL) (ha : t = [] ∨ a < t.length) : ∃ y13, q7c [x0, some (.own 0), x2, x3, x4, x5, x6, x7, x8, x9, some (.d (tx t)), some (.d (.int (a : Int))), some (.d (tx [c])), x13, x14, x15, x16] S
    = .fl (.nx [x0, some (.own 0), x2, x3, x4, x5, x6, x7, x8, x9, some (.d (tx t)), some (.d (.int (a : Int))), some (.d (tx [c])), y13, x14, x15, x16]) S := by
  refine ⟨some (.d (tx (t.take a ++ [c] ++ t.drop (a + 1)))), ?_⟩
  have a1 := addD_tx (a := t.take a) (b := [c]) (by simp; omega)
  have a2 := addD_tx (a := t.take a ++ [c]) (b := t.drop (a + 1)) (by simp; omega)
  have sl1 : slD (tx t) none (some (a : Int)) = some (tx (t.take a)) := congrArg (fun z => some (PyData.str z)) (cutS_take t a)
  have sl2 : slD (tx t) (some ((a : Int) + 1)) none = some (tx (t.drop (a + 1))) := congrArg (fun z => some (PyData.str z)) (cutS_drop t (a + 1))
  have co : ∀ d ∈ t.take a ++ [c] ++ t.drop (a + 1), d ∈ sgL := fun d hd => by
    rcases List.mem_append.mp hd with z | z
    · rcases List.mem_append.mp z with y | y
      · exact ht d (List.mem_of_mem_take y)
      · have : d = c := by simpa using y
        rw [this]; exact hc
    · exact ht d (List.mem_of_mem_drop z)
  have c1 := check_sem (S := S) co
  have c2 := check_sem (S := S) ht
  have key : (((((t.take a ++ [c] ++ t.drop (a + 1)).length : Nat) : Int) == ((t.length : Nat) : Int)) && ((!decide (t.take a ++ [c] ++ t.drop (a + 1) = t)) && (chk 0 (t.take a ++ [c] ++ t.drop (a + 1)) == chk 0 t))) = false := by
    rcases ha with e | ha
    · subst e; simp
    · have hs : t = t.take a ++ t[a] :: t.drop (a + 1) := by
        rw [List.getElem_cons_drop, List.take_append_drop]
      by_cases hq : c = t[a]
      · have : t.take a ++ [c] ++ t.drop (a + 1) = t := by
          rw [hq, List.append_assoc]
          exact hs.symm
        rw [decide_eq_true this]
        simp
      · have : (chk 0 (t.take a ++ [c] ++ t.drop (a + 1)) == chk 0 t) = false := by
          cases hz : chk 0 (t.take a ++ [c] ++ t.drop (a + 1)) == chk 0 t with
          | false => rfl
          | true =>
            have e := eq_of_beq hz
            have e2 : chk 0 (t.take a ++ c :: t.drop (a + 1)) = chk 0 (t.take a ++ t[a] :: t.drop (a + 1)) := by
              rw [← hs, ← e, List.append_assoc]
              rfl
            exact absurd (chk_differs hc (ht _ (List.getElem_mem ha)) e2) hq
        rw [this]
        simp
  generalize hO : t.take a ++ [c] ++ t.drop (a + 1) = O at *
  generalize chk 0 O = K1 at *
  generalize chk 0 t = K2 at *
  have s1 : (sSet 13 (eBin addD (eBin addD (eSl (eVar 10) oNon (oSom (eVar 11))) (eVar 12)) (eSl (eVar 10) (oSom (eBin addD (eVar 11) (eC (.int 1)))) oNon))) [x0, some (.own 0), x2, x3, x4, x5, x6, x7, x8, x9, some (.d (tx t)), some (.d (.int (a : Int))), some (.d (tx [c])), x13, x14, x15, x16] S = .fl (.nx [x0, some (.own 0), x2, x3, x4, x5, x6, x7, x8, x9, some (.d (tx t)), some (.d (.int (a : Int))), some (.d (tx [c])), some (.d (tx O)), x14, x15, x16]) S := by
    simp only [sSet, bindS, eBin, eSl, eVar, Rs.bind, List.getElem?_cons_zero, List.getElem?_cons_succ, oNon, oSom, view, sl1, sl2, op2, a1, a2, addD_int, eC, List.set]
  have e7 : q7c = sSeq (sSet 13 (eBin addD (eBin addD (eSl (eVar 10) oNon (oSom (eVar 11))) (eVar 12)) (eSl (eVar 10) (oSom (eBin addD (eVar 11) (eC (.int 1)))) oNon))) (sIf (tAndB (tCmpB eqD (eB lenG (lCons (eVar 13) lNil)) (eB lenG (lCons (eVar 10) lNil))) (tAndB (tCmpB neD (eVar 13) (eVar 10)) (tCmpB eqD (eCall 1 f_check_of (lCons (eVar 13) lNil)) (eCall 1 f_check_of (lCons (eVar 10) lNil))))) (sRet (eC (.bool false))) sNil) := rfl
  rw [e7]
  unfold sSeq
  rw [s1]
  simp only [seqR]
  cases h1 : (((O.length : Nat) : Int) == ((t.length : Nat) : Int)) with
  | false => simp only [sS_len, h1, sSeq, sIf, tCmpB, tChB, tTru, tAndB, tOrB, tNotB, eAnd, eOr, eNot, truW, truD, eBin, eCh, eIf, eVar, eC, Rs.bind, op2, bool2, view, List.getElem?_cons_zero, List.getElem?_cons_succ, ixD, at_0, at_1, at_2, at_3, gtD, ltD, leD, geD, decide_true, decide_false, bindS, seqR, sSet, eB, lCons, lNil, opN, views, Option.map, Option.some.injEq, absG, lenG, modD, addD, subD, iaddD, if_true, if_false, reduceIte, call1, call2, lo0, lo1, lo2, lo3, lo4, lo5, List.set, sPut, sAugI, sAug, frzW, eFrz, ownL, ixSet4, sRet, sExpr, eOwn, eFz, mLst, dats, sNil, sRetN, eqD_int, neD_int, oSom, oNon, eSl, slD, Bool.false_eq_true, Bool.not_true, Bool.not_false, eTup, sPar, eCall, sAsg]
  | true =>
    cases h2 : (!decide (O = t)) with
    | false => simp only [sS_len, h1, h2, neD_tx, sSeq, sIf, tCmpB, tChB, tTru, tAndB, tOrB, tNotB, eAnd, eOr, eNot, truW, truD, eBin, eCh, eIf, eVar, eC, Rs.bind, op2, bool2, view, List.getElem?_cons_zero, List.getElem?_cons_succ, ixD, at_0, at_1, at_2, at_3, gtD, ltD, leD, geD, decide_true, decide_false, bindS, seqR, sSet, eB, lCons, lNil, opN, views, Option.map, Option.some.injEq, absG, lenG, modD, addD, subD, iaddD, if_true, if_false, reduceIte, call1, call2, lo0, lo1, lo2, lo3, lo4, lo5, List.set, sPut, sAugI, sAug, frzW, eFrz, ownL, ixSet4, sRet, sExpr, eOwn, eFz, mLst, dats, sNil, sRetN, eqD_int, neD_int, oSom, oNon, eSl, slD, Bool.false_eq_true, Bool.not_true, Bool.not_false, eTup, sPar, eCall, sAsg]
    | true =>
      rw [h1, h2, Bool.true_and, Bool.true_and] at key
      simp only [sS_len, h1, h2, neD_tx, c1, c2, key, sSeq, sIf, tCmpB, tChB, tTru, tAndB, tOrB, tNotB, eAnd, eOr, eNot, truW, truD, eBin, eCh, eIf, eVar, eC, Rs.bind, op2, bool2, view, List.getElem?_cons_zero, List.getElem?_cons_succ, ixD, at_0, at_1, at_2, at_3, gtD, ltD, leD, geD, decide_true, decide_false, bindS, seqR, sSet, eB, lCons, lNil, opN, views, Option.map, Option.some.injEq, absG, lenG, modD, addD, subD, iaddD, if_true, if_false, reduceIte, call1, call2, lo0, lo1, lo2, lo3, lo4, lo5, List.set, sPut, sAugI, sAug, frzW, eFrz, ownL, ixSet4, sRet, sExpr, eOwn, eFz, mLst, dats, sNil, sRetN, eqD_int, neD_int, oSom, oNon, eSl, slD, Bool.false_eq_true, Bool.not_true, Bool.not_false, eTup, sPar, eCall, sAsg]
theorem q7c_run {t : List Nat} {a : Nat} (ht : ∀ c ∈ t, c ∈ sgL) (hl : t.length ≤ 1000) (ha : t = [] ∨ a < t.length) : ∃ y12 y13, (sFor (iVal (eC (.str (PySem.Str.ofString "0b z")))) (gNm 12) q7c) [x0, some (.own 0), x2, x3, x4, x5, x6, x7, x8, x9, some (.d (tx t)), some (.d (.int (a : Int))), x12, x13, x14, x15, x16] S
    = .fl (.nx [x0, some (.own 0), x2, x3, x4, x5, x6, x7, x8, x9, some (.d (tx t)), some (.d (.int (a : Int))), y12, y13, x14, x15, x16]) S := by
  have hsg : ∀ c ∈ sgn4, c ∈ sgL := by decide
  obtain ⟨ρ', S', e, y12, y13, e1, e2, _⟩ := for_inv (t := gNm 12) (b := q7c) (I := fun L ρ S1 => ∃ y12 y13, ρ = [x0, some (.own 0), x2, x3, x4, x5, x6, x7, x8, x9, some (.d (tx t)), some (.d (.int (a : Int))), y12, y13, x14, x15, x16] ∧ S1 = S ∧ ∀ d ∈ L, ∃ c ∈ sgL, d = tx [c])
    (fun d L ρ S1 ⟨y12, y13, e1, e2, h⟩ => by
      subst e1 e2
      obtain ⟨c, hc, rfl⟩ := h d (by simp)
      obtain ⟨z, e⟩ := q7c_sem (S := S1) (x0 := x0) (x2 := x2) (x3 := x3) (x4 := x4) (x5 := x5) (x6 := x6) (x7 := x7) (x8 := x8) (x9 := x9) (x13 := y13) (x14 := x14) (x15 := x15) (x16 := x16) ht hl hc ha
      exact ⟨_, _, _, rfl, e, _, _, rfl, rfl, fun d hd => h d (by simp [hd])⟩) (sgn4.map fun c => tx [c]) _ S ⟨x12, x13, rfl, rfl, fun d hd => by
        obtain ⟨c, hc, rfl⟩ := List.mem_map.mp hd
        exact ⟨c, hsg c hc, rfl⟩⟩
  refine ⟨y12, y13, ?_⟩
  subst e1 e2
  rw [← e]
  unfold sFor
  simp only [iVal, eC, Rs.bind, frzW, sgn4_eq, seqD, signs_S, bindS]
theorem q7b_sem {t : List Nat} (ht : ∀ c ∈ t, c ∈ sgL) (hl : t.length ≤ 1000) (hB : Bag (n + 1) [] S) : ∃ y11 y12 y13 S', q7b [x0, some (.own 0), x2, x3, x4, x5, x6, x7, x8, x9, some (.d (tx t)), x11, x12, x13, x14, x15, x16] S
    = .fl (.nx [x0, some (.own 0), x2, x3, x4, x5, x6, x7, x8, x9, some (.d (tx t)), y11, y12, y13, x14, x15, x16]) S' ∧ Bag n [] S' := by
  have hM : ∃ M : Int, maxG [.int 1, .int ((t.length : Nat) : Int)] = some (.int M) ∧ 0 < M ∧ M ≤ 1000 ∧ (M = 1 ∧ t.length ≤ 1 ∨ M = (t.length : Nat)) := by
    rw [show maxG [.int 1, .int ((t.length : Nat) : Int)] = some (.int (if ((t.length : Nat) : Int) > 1 then ((t.length : Nat) : Int) else 1)) from rfl]
    by_cases h : ((t.length : Nat) : Int) > 1
    · rw [if_pos h]; exact ⟨_, rfl, by omega, by omega, .inr rfl⟩
    · rw [if_neg h]; exact ⟨1, rfl, by decide, by decide, .inl ⟨rfl, by omega⟩⟩
  obtain ⟨M, hm, m0, m1, m2⟩ := hM
  obtain ⟨r, S', e, r0, r1, hB'⟩ := take_sem (many := M) hB m0 (by
    have : M.natAbs < 2 ^ 400 := by
      have : (1001 : Nat) < 2 ^ 400 := by decide
      omega
    exact Nat.lt_trans (lg400 _ this) (by decide))
  obtain ⟨a, rfl⟩ : ∃ a : Nat, r = (a : Int) := ⟨r.toNat, by omega⟩
  have ha : t = [] ∨ a < t.length := by
    cases t with
    | nil => exact .inl rfl
    | cons c u =>
      refine .inr ?_
      rcases m2 with ⟨h1, h2⟩ | h1
      · rw [List.length_cons] at *; omega
      · omega
  obtain ⟨y12, y13, e2⟩ := q7c_run (S := S') (x0 := x0) (x2 := x2) (x3 := x3) (x4 := x4) (x5 := x5) (x6 := x6) (x7 := x7) (x8 := x8) (x9 := x9) (x12 := x12) (x13 := x13) (x14 := x14) (x15 := x15) (x16 := x16) ht hl ha
  refine ⟨some (.d (.int (a : Int))), y12, y13, S', ?_, hB'⟩
  have s1 : (sSet 11 (eCall 2 f__law_take (lCons (eVar 1) (lCons (eB maxG (lCons (eC (.int 1)) (lCons (eB lenG (lCons (eVar 10) lNil)) lNil))) lNil)))) [x0, some (.own 0), x2, x3, x4, x5, x6, x7, x8, x9, some (.d (tx t)), x11, x12, x13, x14, x15, x16] S = .fl (.nx [x0, some (.own 0), x2, x3, x4, x5, x6, x7, x8, x9, some (.d (tx t)), some (.d (.int (a : Int))), x12, x13, x14, x15, x16]) S' := by
    simp only [hm, e, sS_len, sSeq, sIf, tCmpB, tChB, tTru, tAndB, tOrB, tNotB, eAnd, eOr, eNot, truW, truD, eBin, eCh, eIf, eVar, eC, Rs.bind, op2, bool2, view, List.getElem?_cons_zero, List.getElem?_cons_succ, ixD, at_0, at_1, at_2, at_3, gtD, ltD, leD, geD, decide_true, decide_false, bindS, seqR, sSet, eB, lCons, lNil, opN, views, Option.map, Option.some.injEq, absG, lenG, modD, addD, subD, iaddD, if_true, if_false, reduceIte, call1, call2, lo0, lo1, lo2, lo3, lo4, lo5, List.set, sPut, sAugI, sAug, frzW, eFrz, ownL, ixSet4, sRet, sExpr, eOwn, eFz, mLst, dats, sNil, sRetN, eqD_int, neD_int, oSom, oNon, eSl, slD, Bool.false_eq_true, Bool.not_true, Bool.not_false, eTup, sPar, eCall, sAsg]
  have e7 : q7b = sSeq (sSet 11 (eCall 2 f__law_take (lCons (eVar 1) (lCons (eB maxG (lCons (eC (.int 1)) (lCons (eB lenG (lCons (eVar 10) lNil)) lNil))) lNil)))) (sFor (iVal (eC (.str (PySem.Str.ofString "0b z")))) (gNm 12) q7c) := rfl
  rw [e7]
  unfold sSeq
  rw [s1]
  simp only [seqR]
  exact e2
theorem q7_eq : q7 = sFor (iVal (eVar 3)) (gNm 10) q7b := rfl
theorem q7_sem (hg : Good ts) (hl : ts.length ≤ 4) (hB : Bag (n + 4) [] S) : ∃ y10 y11 y12 y13 S', q7 [x0, some (.own 0), x2, some (.d (.list (ts.map tx))), x4, x5, x6, x7, x8, x9, x10, x11, x12, x13, x14, x15, x16] S
    = .fl (.nx [x0, some (.own 0), x2, some (.d (.list (ts.map tx))), x4, x5, x6, x7, x8, x9, y10, y11, y12, y13, x14, x15, x16]) S' ∧ Bag n [] S' := by
  obtain ⟨ρ', S', e, y10, y11, y12, y13, e1, hB', _⟩ := for_inv (t := gNm 10) (b := q7b) (I := fun L ρ S1 => ∃ y10 y11 y12 y13, ρ = [x0, some (.own 0), x2, some (.d (.list (ts.map tx))), x4, x5, x6, x7, x8, x9, y10, y11, y12, y13, x14, x15, x16] ∧ Bag (n + L.length) [] S1 ∧ ∀ d ∈ L, ∃ t, (∀ c ∈ t, c ∈ sgL) ∧ t.length ≤ 30 ∧ d = tx t)
    (fun d L ρ S1 ⟨y10, y11, y12, y13, e1, h, h2⟩ => by
      subst e1
      obtain ⟨t, g1, g2, rfl⟩ := h2 d (by simp)
      obtain ⟨z11, z12, z13, S2, e, h3⟩ := q7b_sem (S := S1) (n := n + L.length) (x0 := x0) (x2 := x2) (x3 := some (.d (.list (ts.map tx)))) (x4 := x4) (x5 := x5) (x6 := x6) (x7 := x7) (x8 := x8) (x9 := x9) (x11 := y11) (x12 := y12) (x13 := y13) (x14 := x14) (x15 := x15) (x16 := x16) g1 (by omega) (h.mono (by rw [List.length_cons]; omega))
      exact ⟨_, _, _, rfl, e, _, _, _, _, rfl, h3, fun d hd => h2 d (by simp [hd])⟩) (ts.map tx) _ S ⟨x10, x11, x12, x13, rfl, hB.mono (by rw [List.length_map]; omega), fun d hd => by
        obtain ⟨t, ht, rfl⟩ := List.mem_map.mp hd
        exact ⟨t, (hg t ht).1, (hg t ht).2, rfl⟩⟩
  refine ⟨y10, y11, y12, y13, S', ?_, hB'⟩
  subst e1
  rw [← e, q7_eq]
  unfold sFor
  simp only [iVal, eVar, List.getElem?_cons_zero, List.getElem?_cons_succ, Rs.bind, frzW, seqD, bindS]
/-- one turn -/
theorem qT_sem (hB : Bag (n + 244) [] S) : ∃ z2 z3 z4 z5 z6 z7 z8 z9 z10 z11 z12 z13 S', qT [x0, some (.own 0), x2, x3, x4, x5, x6, x7, x8, x9, x10, x11, x12, x13, x14, x15, x16] S = .fl (.nx [x0, some (.own 0), z2, z3, z4, z5, z6, z7, z8, z9, z10, z11, z12, z13, x14, x15, x16]) S' ∧ Bag n [] S' := by
  obtain ⟨ts, S1, hg, hl, hB1, e1⟩ := q012 (n := n + 44) (S := S) (x0 := x0) (x2 := x2) (x3 := x3) (x4 := x4) (x5 := x5) (x6 := x6) (x7 := x7) (x8 := x8) (x9 := x9) (x10 := x10) (x11 := x11) (x12 := x12) (x13 := x13) (x14 := x14) (x15 := x15) (x16 := x16) hB
  have fl := flat_len hg
  obtain ⟨y6, y7, e5⟩ := q5_sem (S := S1) (x0 := x0) (x2 := x2) (x6 := x6) (x7 := x7) (x8 := x8) (x9 := x9) (x10 := x10) (x11 := x11) (x12 := x12) (x13 := x13) (x14 := x14) (x15 := x15) (x16 := x16) hg hl
  obtain ⟨y8, y9, S2, e6, hB2⟩ := q6_sem (S := S1) (n := n + 4) (l := flat ts) (x0 := x0) (x2 := x2) (x3 := some (.d (.list (ts.map tx)))) (x4 := some (.d (.list (ts.map fun t => tx (frame t))))) (x6 := y6) (x7 := y7) (x8 := x8) (x9 := x9) (x10 := x10) (x11 := x11) (x12 := x12) (x13 := x13) (x14 := x14) (x15 := x15) (x16 := x16) (flat_asc hg) (by omega) hB1
  obtain ⟨y10, y11, y12, y13, S3, e7, hB3⟩ := q7_sem (S := S2) (n := n) (ts := ts) (x0 := x0) (x2 := x2) (x4 := some (.d (.list (ts.map fun t => tx (frame t))))) (x5 := some (.d (tx (flat ts)))) (x6 := y6) (x7 := y7) (x8 := y8) (x9 := y9) (x10 := x10) (x11 := x11) (x12 := x12) (x13 := x13) (x14 := x14) (x15 := x15) (x16 := x16) hg hl hB2
  refine ⟨x2, some (.d (.list (ts.map tx))), some (.d (.list (ts.map fun t => tx (frame t)))), some (.d (tx (flat ts))), y6, y7, y8, y9, y10, y11, y12, y13, S3, ?_, hB3⟩
  unfold qT
  rw [e1]
  rw [seq_nx (q3_sem hg hl), seq_nx (q4_sem hg hl), seq_nx e5, seq_nx e6, e7]
end
end DL

set_option Elab.async false
set_option linter.all false
set_option maxRecDepth 100000
set_option maxHeartbeats 4000000
namespace DL
open PySem PySem.Spec PyProof.Rows L2
/-! ### the entries -/
theorem sp_eq : PySem.Str.ofString " " = sS [32] := by decide +kernel
theorem lc_str {ρ : Rho} {S : Sto} (hρ : 1 < ρ.length) (zs : List (PyData × List Nat)) (h : ∀ z ∈ zs, strGG [z.1] = some (tx z.2)) : lcRun (gNm 1) bYes (eB strGG (lCons (eVar 1) lNil)) ρ (zs.map (·.1)) [] S = .ok ((zs.map (·.2)).map tx) S := by
  have key : ∀ (zs : List (PyData × List Nat)) (acc : List PyData), (∀ z ∈ zs, strGG [z.1] = some (tx z.2)) → lcRun (gNm 1) bYes (eB strGG (lCons (eVar 1) lNil)) ρ (zs.map (·.1)) acc S = .ok (acc ++ (zs.map (·.2)).map tx) S := by
    intro zs
    induction zs with
    | nil => intro acc _; simp [lcRun]
    | cons z zs ih =>
      intro acc h
      rw [List.map_cons, lcRun]
      simp only [gNm, bYes, List.getElem?_set_self hρ, h z (by simp), sSeq, sIf, tCmpB, tChB, tTru, tAndB, tOrB, tNotB, eAnd, eOr, eNot, truW, truD, eBin, eCh, eIf, eVar, eC, Rs.bind, op2, bool2, view, List.getElem?_cons_zero, List.getElem?_cons_succ, ixD, at_0, at_1, at_2, at_3, gtD, ltD, leD, geD, decide_true, decide_false, bindS, seqR, sSet, eB, lCons, lNil, opN, views, Option.map, Option.some.injEq, absG, lenG, modD, addD, subD, iaddD, if_true, if_false, reduceIte, call1, call2, lo0, lo1, lo2, lo3, lo4, lo5, List.set, sPut, sAugI, sAug, frzW, eFrz, ownL, ixSet4, sRet, sExpr, eOwn, eFz, mLst, dats, sNil, sRetN, eqD_int, neD_int, oSom, oNon, eSl, slD, Bool.false_eq_true, Bool.not_true, Bool.not_false, eTup, sPar, eCall, sAsg]
      rw [ih _ fun u hu => h u (by simp [hu])]
      simp
  have := key zs [] h
  simpa using this
theorem asc32 : asc [32] := fun c hc => by
  have : c = 32 := by simpa using hc
  omega
theorem spaced_sem {S : Sto} (zs : List (PyData × List Nat)) (h : ∀ z ∈ zs, strGG [z.1] = some (tx z.2)) (ha : ∀ z ∈ zs, asc z.2 ∧ z.2.length ≤ 20) (hl : zs.length ≤ 10) : f_spaced [.d (.tuple (zs.map (·.1)))] S = .ok (.d (tx (TL.joinL [32] (zs.map (·.2))))) S := by
  refine run_ret0 ?_
  show b_spaced [some (.d (.tuple (zs.map (·.1)))), none] S = _
  have e := lc_str (S := S) (ρ := [some (.d (.tuple (zs.map (·.1)))), none]) (by show 1 < 2; decide) zs h
  have hs : ∀ zs : List (PyData × List Nat), (∀ z ∈ zs, asc z.2 ∧ z.2.length ≤ 20) → ((zs.map (·.2)).map (·.length)).sum ≤ 20 * zs.length := by
    intro zs
    induction zs with
    | nil => intro _; simp
    | cons z zs ih =>
      intro ha
      have h1 := ih fun u hu => ha u (by simp [hu])
      have h2 := (ha z (by simp)).2
      rw [List.map_cons, List.map_cons, List.sum_cons, List.length_cons]
      omega
  have hs' := hs zs ha
  have j := join_tx (a := [32]) (ys := zs.map (·.2)) asc32 (fun y hy => by
    obtain ⟨z, hz, rfl⟩ := List.mem_map.mp hy
    exact (ha z hz).1) (by rw [List.length_map]; simp only [List.length_cons, List.length_nil]; omega)
  simp only [b_spaced, eMet, sp_eq, mLc, iVal, seqD, wipeR, e, j, sSeq, sIf, tCmpB, tChB, tTru, tAndB, tOrB, tNotB, eAnd, eOr, eNot, truW, truD, eBin, eCh, eIf, eVar, eC, Rs.bind, op2, bool2, view, List.getElem?_cons_zero, List.getElem?_cons_succ, ixD, at_0, at_1, at_2, at_3, gtD, ltD, leD, geD, decide_true, decide_false, bindS, seqR, sSet, eB, lCons, lNil, opN, views, Option.map, Option.some.injEq, absG, lenG, modD, addD, subD, iaddD, if_true, if_false, reduceIte, call1, call2, lo0, lo1, lo2, lo3, lo4, lo5, List.set, sPut, sAugI, sAug, frzW, eFrz, ownL, ixSet4, sRet, sExpr, eOwn, eFz, mLst, dats, sNil, sRetN, eqD_int, neD_int, oSom, oNon, eSl, slD, Bool.false_eq_true, Bool.not_true, Bool.not_false, eTup, sPar, eCall, sAsg]
theorem strGG_tx (l : List Nat) : strGG [tx l] = some (tx l) := rfl
def cSale : List Nat := [115, 97, 108, 101]
def cDrop : List Nat := [100, 114, 111, 112]
def cBack : List Nat := [98, 97, 99, 107]
def cSingle : List Nat := [115, 105, 110, 103, 108, 101]
def cDeal : List Nat := [100, 101, 97, 108]
def cTea : List Nat := [116, 101, 97]
theorem words_eq : (PySem.Str.ofString "sale" = sS cSale ∧ PySem.Str.ofString "drop" = sS cDrop ∧ PySem.Str.ofString "back" = sS cBack) ∧ (PySem.Str.ofString "single" = sS cSingle ∧ PySem.Str.ofString "deal" = sS cDeal ∧ PySem.Str.ofString "tea" = sS cTea) := by decide +kernel
theorem outs_eq : (PySem.Str.ofString "sale 2 0" = sS (TL.joinL [32] [cSale, TL.numL 2, TL.numL 0]) ∧ PySem.Str.ofString "back 3 0 1" = sS (TL.joinL [32] [cBack, TL.numL 3, TL.numL 0, TL.numL 1])) ∧ (PySem.Str.ofString "single tea 120" = sS (TL.joinL [32] [cSingle, cTea, TL.numL 120]) ∧ PySem.Str.ofString "deal 95 2 1" = sS (TL.joinL [32] [cDeal, TL.numL 95, TL.numL 2, TL.numL 1]) ∧ PySem.Str.ofString "drop 0 12" = sS (TL.joinL [32] [cDrop, TL.numL 0, TL.numL 12])) := by decide +kernel
theorem ns (n : Nat) (h : n < 1000) : strGG [.int (n : Int)] = some (tx (TL.numL n)) ∧ asc (TL.numL n) ∧ (TL.numL n).length ≤ 20 := ⟨str_num (by omega), num_asc n, Nat.le_trans (num_len (by omega)) (by decide)⟩
theorem ws (l : List Nat) (h : l.all (fun c => decide (c < 128)) = true) (h2 : l.length ≤ 20) : strGG [tx l] = some (tx l) ∧ asc l ∧ l.length ≤ 20 := ⟨rfl, fun c hc => of_decide_eq_true (List.all_eq_true.mp h c hc), h2⟩
theorem spaced_of {S : Sto} (zs : List (PyData × List Nat)) (h : ∀ z ∈ zs, strGG [z.1] = some (tx z.2) ∧ asc z.2 ∧ z.2.length ≤ 20) (hl : zs.length ≤ 10) : f_spaced [.d (.tuple (zs.map (·.1)))] S = .ok (.d (tx (TL.joinL [32] (zs.map (·.2))))) S :=
  spaced_sem zs (fun z hz => (h z hz).1) (fun z hz => (h z hz).2) hl
theorem sp_1 {S : Sto} : f_spaced [.d (.tuple [tx cSale, .int 2, .int 0])] S = .ok (.d (tx (TL.joinL [32] [cSale, TL.numL 2, TL.numL 0]))) S := spaced_of [(tx cSale, cSale), (.int 2, TL.numL 2), (.int 0, TL.numL 0)] (fun z hz => by
  simp only [List.mem_cons, List.not_mem_nil, or_false] at hz
  rcases hz with e | e | e <;> rw [e]
  · exact ws cSale (by decide) (by decide)
  · exact ns 2 (by decide)
  · exact ns 0 (by decide)) (by decide)
theorem sp_2 {S : Sto} : f_spaced [.d (.tuple [tx cBack, .int 3, .int 0, .int 1])] S = .ok (.d (tx (TL.joinL [32] [cBack, TL.numL 3, TL.numL 0, TL.numL 1]))) S := spaced_of [(tx cBack, cBack), (.int 3, TL.numL 3), (.int 0, TL.numL 0), (.int 1, TL.numL 1)] (fun z hz => by
  simp only [List.mem_cons, List.not_mem_nil, or_false] at hz
  rcases hz with e | e | e | e <;> rw [e]
  · exact ws cBack (by decide) (by decide)
  · exact ns 3 (by decide)
  · exact ns 0 (by decide)
  · exact ns 1 (by decide)) (by decide)
theorem sp_3 {S : Sto} : f_spaced [.d (.tuple [tx cSingle, tx cTea, .int 120])] S = .ok (.d (tx (TL.joinL [32] [cSingle, cTea, TL.numL 120]))) S := spaced_of [(tx cSingle, cSingle), (tx cTea, cTea), (.int 120, TL.numL 120)] (fun z hz => by
  simp only [List.mem_cons, List.not_mem_nil, or_false] at hz
  rcases hz with e | e | e <;> rw [e]
  · exact ws cSingle (by decide) (by decide)
  · exact ws cTea (by decide) (by decide)
  · exact ns 120 (by decide)) (by decide)
theorem sp_4 {S : Sto} : f_spaced [.d (.tuple [tx cDeal, .int 95, .int 2, .int 1])] S = .ok (.d (tx (TL.joinL [32] [cDeal, TL.numL 95, TL.numL 2, TL.numL 1]))) S := spaced_of [(tx cDeal, cDeal), (.int 95, TL.numL 95), (.int 2, TL.numL 2), (.int 1, TL.numL 1)] (fun z hz => by
  simp only [List.mem_cons, List.not_mem_nil, or_false] at hz
  rcases hz with e | e | e | e <;> rw [e]
  · exact ws cDeal (by decide) (by decide)
  · exact ns 95 (by decide)
  · exact ns 2 (by decide)
  · exact ns 1 (by decide)) (by decide)
theorem sp_5 {S : Sto} : f_spaced [.d (.tuple [tx cDrop, .int 0, .int 12])] S = .ok (.d (tx (TL.joinL [32] [cDrop, TL.numL 0, TL.numL 12]))) S := spaced_of [(tx cDrop, cDrop), (.int 0, TL.numL 0), (.int 12, TL.numL 12)] (fun z hz => by
  simp only [List.mem_cons, List.not_mem_nil, or_false] at hz
  rcases hz with e | e | e <;> rw [e]
  · exact ws cDrop (by decide) (by decide)
  · exact ns 0 (by decide)
  · exact ns 12 (by decide)) (by decide)
theorem ks : (k_SALE = tx cSale ∧ k_DROP = tx cDrop) ∧ (k_BACK = tx cBack ∧ k_SINGLE = tx cSingle) := by
  obtain ⟨⟨h1, h2, h3⟩, h4, h5, h6⟩ := words_eq
  refine ⟨⟨?_, ?_⟩, ?_, ?_⟩
  · unfold k_SALE; rw [h1]
  · unfold k_DROP; rw [h2]
  · unfold k_BACK; rw [h3]
  · unfold k_SINGLE; rw [h4]
theorem ne_words : ((decide (cBack = cSale) = false ∧ decide (cBack = cDrop) = false) ∧ (decide (cSingle = cSale) = false ∧ decide (cSingle = cDrop) = false ∧ decide (cSingle = cBack) = false)) ∧ ((decide (cDeal = cSale) = false ∧ decide (cDeal = cDrop) = false ∧ decide (cDeal = cBack) = false ∧ decide (cDeal = cSingle) = false) ∧ (decide (cDrop = cSale) = false)) := by decide
theorem eq_word (l : List Nat) : decide (l = l) = true := decide_eq_true rfl
theorem en_1 {S : Sto} : f_entry_text [.d (.tuple [tx cSale, .tuple [.int 2, .int 0]])] S = .ok (.d (tx (TL.joinL [32] [cSale, TL.numL 2, TL.numL 0]))) S := by
  refine run_ret0 ?_
  show b_entry_text [some (.d (.tuple [tx cSale, .tuple [.int 2, .int 0]])), none] S = _
  obtain ⟨⟨k1, k2⟩, k3, k4⟩ := ks
  simp only [b_entry_text, k1, k2, k3, k4, at_cons0, a2_1, eqD_tx, eq_word, lStar, List.map_cons, List.map_nil, List.append_nil, sp_1, sSeq, sIf, tCmpB, tChB, tTru, tAndB, tOrB, tNotB, eAnd, eOr, eNot, truW, truD, eBin, eCh, eIf, eVar, eC, Rs.bind, op2, bool2, view, List.getElem?_cons_zero, List.getElem?_cons_succ, ixD, at_0, at_1, at_2, at_3, gtD, ltD, leD, geD, decide_true, decide_false, bindS, seqR, sSet, eB, lCons, lNil, opN, views, Option.map, Option.some.injEq, absG, lenG, modD, addD, subD, iaddD, if_true, if_false, reduceIte, call1, call2, lo0, lo1, lo2, lo3, lo4, lo5, List.set, sPut, sAugI, sAug, frzW, eFrz, ownL, ixSet4, sRet, sExpr, eOwn, eFz, mLst, dats, sNil, sRetN, eqD_int, neD_int, oSom, oNon, eSl, slD, Bool.false_eq_true, Bool.not_true, Bool.not_false, eTup, sPar, eCall, sAsg]
theorem en_2 {S : Sto} : f_entry_text [.d (.tuple [tx cBack, .int 3, .tuple [.int 0, .int 1]])] S = .ok (.d (tx (TL.joinL [32] [cBack, TL.numL 3, TL.numL 0, TL.numL 1]))) S := by
  refine run_ret0 ?_
  show b_entry_text [some (.d (.tuple [tx cBack, .int 3, .tuple [.int 0, .int 1]])), none] S = _
  obtain ⟨⟨k1, k2⟩, k3, k4⟩ := ks
  simp only [b_entry_text, k1, k2, k3, k4, at_cons0, a3_1, a3_2, eqD_tx, eq_word, ne_words, lStar, List.map_cons, List.map_nil, List.append_nil, sp_2, sSeq, sIf, tCmpB, tChB, tTru, tAndB, tOrB, tNotB, eAnd, eOr, eNot, truW, truD, eBin, eCh, eIf, eVar, eC, Rs.bind, op2, bool2, view, List.getElem?_cons_zero, List.getElem?_cons_succ, ixD, at_0, at_1, at_2, at_3, gtD, ltD, leD, geD, decide_true, decide_false, bindS, seqR, sSet, eB, lCons, lNil, opN, views, Option.map, Option.some.injEq, absG, lenG, modD, addD, subD, iaddD, if_true, if_false, reduceIte, call1, call2, lo0, lo1, lo2, lo3, lo4, lo5, List.set, sPut, sAugI, sAug, frzW, eFrz, ownL, ixSet4, sRet, sExpr, eOwn, eFz, mLst, dats, sNil, sRetN, eqD_int, neD_int, oSom, oNon, eSl, slD, Bool.false_eq_true, Bool.not_true, Bool.not_false, eTup, sPar, eCall, sAsg]
theorem en_3 {S : Sto} : f_entry_text [.d (.tuple [tx cSingle, tx cTea, .int 120])] S = .ok (.d (tx (TL.joinL [32] [cSingle, cTea, TL.numL 120]))) S := by
  refine run_ret0 ?_
  show b_entry_text [some (.d (.tuple [tx cSingle, tx cTea, .int 120])), none] S = _
  obtain ⟨⟨k1, k2⟩, k3, k4⟩ := ks
  simp only [b_entry_text, k1, k2, k3, k4, at_cons0, a3_1, a3_2, eqD_tx, eq_word, ne_words, lStar, List.map_cons, List.map_nil, List.append_nil, sp_3, sSeq, sIf, tCmpB, tChB, tTru, tAndB, tOrB, tNotB, eAnd, eOr, eNot, truW, truD, eBin, eCh, eIf, eVar, eC, Rs.bind, op2, bool2, view, List.getElem?_cons_zero, List.getElem?_cons_succ, ixD, at_0, at_1, at_2, at_3, gtD, ltD, leD, geD, decide_true, decide_false, bindS, seqR, sSet, eB, lCons, lNil, opN, views, Option.map, Option.some.injEq, absG, lenG, modD, addD, subD, iaddD, if_true, if_false, reduceIte, call1, call2, lo0, lo1, lo2, lo3, lo4, lo5, List.set, sPut, sAugI, sAug, frzW, eFrz, ownL, ixSet4, sRet, sExpr, eOwn, eFz, mLst, dats, sNil, sRetN, eqD_int, neD_int, oSom, oNon, eSl, slD, Bool.false_eq_true, Bool.not_true, Bool.not_false, eTup, sPar, eCall, sAsg]
theorem en_4 {S : Sto} : f_entry_text [.d (.tuple [tx cDeal, .tuple [.int 2, .int 1], .int 95])] S = .ok (.d (tx (TL.joinL [32] [cDeal, TL.numL 95, TL.numL 2, TL.numL 1]))) S := by
  refine run_ret0 ?_
  show b_entry_text [some (.d (.tuple [tx cDeal, .tuple [.int 2, .int 1], .int 95])), none] S = _
  obtain ⟨⟨k1, k2⟩, k3, k4⟩ := ks
  simp only [b_entry_text, k1, k2, k3, k4, at_cons0, a3_1, a3_2, eqD_tx, eq_word, ne_words, lStar, List.map_cons, List.map_nil, List.append_nil, sp_4, sSeq, sIf, tCmpB, tChB, tTru, tAndB, tOrB, tNotB, eAnd, eOr, eNot, truW, truD, eBin, eCh, eIf, eVar, eC, Rs.bind, op2, bool2, view, List.getElem?_cons_zero, List.getElem?_cons_succ, ixD, at_0, at_1, at_2, at_3, gtD, ltD, leD, geD, decide_true, decide_false, bindS, seqR, sSet, eB, lCons, lNil, opN, views, Option.map, Option.some.injEq, absG, lenG, modD, addD, subD, iaddD, if_true, if_false, reduceIte, call1, call2, lo0, lo1, lo2, lo3, lo4, lo5, List.set, sPut, sAugI, sAug, frzW, eFrz, ownL, ixSet4, sRet, sExpr, eOwn, eFz, mLst, dats, sNil, sRetN, eqD_int, neD_int, oSom, oNon, eSl, slD, Bool.false_eq_true, Bool.not_true, Bool.not_false, eTup, sPar, eCall, sAsg]
theorem en_5 {S : Sto} : f_entry_text [.d (.tuple [tx cDrop, .tuple [.int 0, .int 12]])] S = .ok (.d (tx (TL.joinL [32] [cDrop, TL.numL 0, TL.numL 12]))) S := by
  refine run_ret0 ?_
  show b_entry_text [some (.d (.tuple [tx cDrop, .tuple [.int 0, .int 12]])), none] S = _
  obtain ⟨⟨k1, k2⟩, k3, k4⟩ := ks
  simp only [b_entry_text, k1, k2, k3, k4, at_cons0, a2_1, eqD_tx, eq_word, ne_words, lStar, List.map_cons, List.map_nil, List.append_nil, sp_5, sSeq, sIf, tCmpB, tChB, tTru, tAndB, tOrB, tNotB, eAnd, eOr, eNot, truW, truD, eBin, eCh, eIf, eVar, eC, Rs.bind, op2, bool2, view, List.getElem?_cons_zero, List.getElem?_cons_succ, ixD, at_0, at_1, at_2, at_3, gtD, ltD, leD, geD, decide_true, decide_false, bindS, seqR, sSet, eB, lCons, lNil, opN, views, Option.map, Option.some.injEq, absG, lenG, modD, addD, subD, iaddD, if_true, if_false, reduceIte, call1, call2, lo0, lo1, lo2, lo3, lo4, lo5, List.set, sPut, sAugI, sAug, frzW, eFrz, ownL, ixSet4, sRet, sExpr, eOwn, eFz, mLst, dats, sNil, sRetN, eqD_int, neD_int, oSom, oNon, eSl, slD, Bool.false_eq_true, Bool.not_true, Bool.not_false, eTup, sPar, eCall, sAsg]
end DL

set_option Elab.async false
set_option linter.all false
set_option maxRecDepth 100000
set_option maxHeartbeats 4000000
namespace DL
open PySem PySem.Spec PyProof.Rows L2
def outs : List PyData := [tx (TL.joinL [32] [cSale, TL.numL 2, TL.numL 0]), tx (TL.joinL [32] [cBack, TL.numL 3, TL.numL 0, TL.numL 1]), tx (TL.joinL [32] [cSingle, cTea, TL.numL 120]), tx (TL.joinL [32] [cDeal, TL.numL 95, TL.numL 2, TL.numL 1]), tx (TL.joinL [32] [cDrop, TL.numL 0, TL.numL 12])]
def ens : List PyData := [.tuple [tx cSale, .tuple [.int 2, .int 0]], .tuple [tx cBack, .int 3, .tuple [.int 0, .int 1]], .tuple [tx cSingle, tx cTea, .int 120], .tuple [tx cDeal, .tuple [.int 2, .int 1], .int 95], .tuple [tx cDrop, .tuple [.int 0, .int 12]]]
section
variable {S : Sto} {x0 x1 x2 x3 x4 x5 x6 x7 x8 x9 x10 x11 x12 x13 x14 x15 x16 : Option Wv}
theorem q8_sem : q8 [x0, x1, x2, x3, x4, x5, x6, x7, x8, x9, x10, x11, x12, x13, x14, x15, x16] S = .fl (.nx [x0, x1, x2, x3, x4, x5, x6, x7, x8, x9, x10, x11, x12, x13, some (.d (.list ens)), x15, x16]) S := by
  obtain ⟨⟨h1, h2, h3⟩, h4, h5, h6⟩ := words_eq
  simp only [q8, h1, h2, h3, h4, h5, h6, ens, sSeq, sIf, tCmpB, tChB, tTru, tAndB, tOrB, tNotB, eAnd, eOr, eNot, truW, truD, eBin, eCh, eIf, eVar, eC, Rs.bind, op2, bool2, view, List.getElem?_cons_zero, List.getElem?_cons_succ, ixD, at_0, at_1, at_2, at_3, gtD, ltD, leD, geD, decide_true, decide_false, bindS, seqR, sSet, eB, lCons, lNil, opN, views, Option.map, Option.some.injEq, absG, lenG, modD, addD, subD, iaddD, if_true, if_false, reduceIte, call1, call2, lo0, lo1, lo2, lo3, lo4, lo5, List.set, sPut, sAugI, sAug, frzW, eFrz, ownL, ixSet4, sRet, sExpr, eOwn, eFz, mLst, dats, sNil, sRetN, eqD_int, neD_int, oSom, oNon, eSl, slD, Bool.false_eq_true, Bool.not_true, Bool.not_false, eTup, sPar, eCall, sAsg]
theorem en_run : lcRun (gNm 16) bYes (eCall 1 f_entry_text (lCons (eVar 16) lNil)) [x0, x1, x2, x3, x4, x5, x6, x7, x8, x9, x10, x11, x12, x13, some (.d (.list ens)), x15, none] ens [] S = .ok outs S := by
  unfold ens
  simp only [lcRun, gNm, bYes, en_1, en_2, en_3, en_4, en_5, outs, List.nil_append, List.cons_append, sSeq, sIf, tCmpB, tChB, tTru, tAndB, tOrB, tNotB, eAnd, eOr, eNot, truW, truD, eBin, eCh, eIf, eVar, eC, Rs.bind, op2, bool2, view, List.getElem?_cons_zero, List.getElem?_cons_succ, ixD, at_0, at_1, at_2, at_3, gtD, ltD, leD, geD, decide_true, decide_false, bindS, seqR, sSet, eB, lCons, lNil, opN, views, Option.map, Option.some.injEq, absG, lenG, modD, addD, subD, iaddD, if_true, if_false, reduceIte, call1, call2, lo0, lo1, lo2, lo3, lo4, lo5, List.set, sPut, sAugI, sAug, frzW, eFrz, ownL, ixSet4, sRet, sExpr, eOwn, eFz, mLst, dats, sNil, sRetN, eqD_int, neD_int, oSom, oNon, eSl, slD, Bool.false_eq_true, Bool.not_true, Bool.not_false, eTup, sPar, eCall, sAsg]
theorem q9_sem : q9 [x0, x1, x2, x3, x4, x5, x6, x7, x8, x9, x10, x11, x12, x13, some (.d (.list ens)), x15, x16] S = .fl (.rt (.d (.bool true))) S := by
  obtain ⟨⟨o1, o2⟩, o3, o4, o5⟩ := outs_eq
  have al := alike_sem (d := .list outs) (S := S) rfl (by unfold outs; simp [wgt, wgts])
  have er := en_run (S := S) (x0 := x0) (x1 := x1) (x2 := x2) (x3 := x3) (x4 := x4) (x5 := x5) (x6 := x6) (x7 := x7) (x8 := x8) (x9 := x9) (x10 := x10) (x11 := x11) (x12 := x12) (x13 := x13) (x15 := x15)
  have ho : [PyData.str (PySem.Str.ofString "sale 2 0"), .str (PySem.Str.ofString "back 3 0 1"), .str (PySem.Str.ofString "single tea 120"), .str (PySem.Str.ofString "deal 95 2 1"), .str (PySem.Str.ofString "drop 0 12")] = outs := by
    rw [o1, o2, o3, o4, o5]
    rfl
  have hl : litOk outs.length = true := by show litOk 5 = true; decide
  simp only [q9, mLc, iVal, seqD, wipeR, er, sRet, eCall, lCons, lNil, eFz, mLst, eC, eVar, Rs.bind, List.getElem?_cons_zero, List.getElem?_cons_succ, frzW, List.set, dats, Option.map, ho, hl, if_true, call2, al, bindS]
end
theorem law_true : ∀ ns : List Int, ns.length ≤ 63 → (∀ z ∈ ns, Builtin.Int.intBits z ≤ 1048576) → f_law [.d (.list (ns.map PyData.int))] [] = .ok (.d (.bool true)) [] := by
  intro ns _ _
  obtain ⟨S0, e0, hB0⟩ := bag_sem ns
  have key : ∃ S', b_law [some (.d (.list (ns.map PyData.int))), none, none, none, none, none, none, none, none, none, none, none, none, none, none, none, none] [] = .fl (.rt (.d (.bool true))) S' := by
    rw [law_eq]
    have e1 : (sSet 1 (eCall 1 f__law_bag (lCons (eVar 0) lNil))) [some (.d (.list (ns.map PyData.int))), none, none, none, none, none, none, none, none, none, none, none, none, none, none, none, none] [] = .fl (.nx [some (.d (.list (ns.map PyData.int))), some (.own 0), none, none, none, none, none, none, none, none, none, none, none, none, none, none, none]) S0 := by
      simp only [e0, sSeq, sIf, tCmpB, tChB, tTru, tAndB, tOrB, tNotB, eAnd, eOr, eNot, truW, truD, eBin, eCh, eIf, eVar, eC, Rs.bind, op2, bool2, view, List.getElem?_cons_zero, List.getElem?_cons_succ, ixD, at_0, at_1, at_2, at_3, gtD, ltD, leD, geD, decide_true, decide_false, bindS, seqR, sSet, eB, lCons, lNil, opN, views, Option.map, Option.some.injEq, absG, lenG, modD, addD, subD, iaddD, if_true, if_false, reduceIte, call1, call2, lo0, lo1, lo2, lo3, lo4, lo5, List.set, sPut, sAugI, sAug, frzW, eFrz, ownL, ixSet4, sRet, sExpr, eOwn, eFz, mLst, dats, sNil, sRetN, eqD_int, neD_int, oSom, oNon, eSl, slD, Bool.false_eq_true, Bool.not_true, Bool.not_false, eTup, sPar, eCall, sAsg]
    rw [seq_nx e1]
    obtain ⟨ρ', S', e, z2, z3, z4, z5, z6, z7, z8, z9, z10, z11, z12, z13, e2, hB'⟩ := for_inv (t := gNm 2) (b := qT) (I := fun L ρ S1 => ∃ z2 z3 z4 z5 z6 z7 z8 z9 z10 z11 z12 z13, ρ = [some (.d (.list (ns.map PyData.int))), some (.own 0), z2, z3, z4, z5, z6, z7, z8, z9, z10, z11, z12, z13, none, none, none] ∧ Bag (244 * L.length) [] S1)
      (fun d L ρ S1 ⟨z2, z3, z4, z5, z6, z7, z8, z9, z10, z11, z12, z13, e1, h⟩ => by
        subst e1
        obtain ⟨y2, y3, y4, y5, y6, y7, y8, y9, y10, y11, y12, y13, S2, e, h2⟩ := qT_sem (S := S1) (n := 244 * L.length) (x0 := some (.d (.list (ns.map PyData.int)))) (x2 := some (.d d)) (x3 := z3) (x4 := z4) (x5 := z5) (x6 := z6) (x7 := z7) (x8 := z8) (x9 := z9) (x10 := z10) (x11 := z11) (x12 := z12) (x13 := z13) (x14 := none) (x15 := none) (x16 := none) (h.mono (by rw [List.length_cons]; omega))
        exact ⟨_, _, S2, rfl, e, y2, y3, y4, y5, y6, y7, y8, y9, y10, y11, y12, y13, rfl, h2⟩) (rangeD 0 5) [some (.d (.list (ns.map PyData.int))), some (.own 0), none, none, none, none, none, none, none, none, none, none, none, none, none, none, none] S0 ⟨none, none, none, none, none, none, none, none, none, none, none, none, rfl, hB0.mono (by simp [rangeD])⟩
    have hi := ir_gen (f := (lCons (eC (.int 5)) lNil)) (ρ := [some (.d (.list (ns.map PyData.int))), some (.own 0), none, none, none, none, none, none, none, none, none, none, none, none, none, none, none]) (S0 := S0) (S := S0) (i := 5) (k := 5) (by decide) (by decide) (by decide) rfl
    have e3 : (sFor (iRange1 (lCons (eC (.int 5)) lNil)) (gNm 2) qT) [some (.d (.list (ns.map PyData.int))), some (.own 0), none, none, none, none, none, none, none, none, none, none, none, none, none, none, none] S0 = .fl (.nx ρ') S' := by
      unfold sFor
      rw [hi]
      simp only [bindS]
      exact e
    refine ⟨S', ?_⟩
    rw [seq_nx e3, e2, seq_nx q8_sem, q9_sem]
  obtain ⟨S', e⟩ := key
  exact run_ret (nn := 17) (ar := 1) (ws := [.d (.list (ns.map PyData.int))]) e
end DL

open PySem PySem.W PyProof.Rows
set_option maxRecDepth 100000 in
set_option maxHeartbeats 0 in
theorem PySem.Challenge.cw_basketfair_k71_frames_and_texts_of_entri_holds : PySem.Challenge.rw_basketfair_k71_frames_and_texts_of_entri.Holds := by
  w_on; o_law; k_head; (case hw => w_witness2)
  k_fill
  refine DL.walkD (l := PySem.Challenge.rw_basketfair_k71_frames_and_texts_of_entri) (k := 5) rfl rfl ⟨rfl, by decide, by decide⟩ (fun w h Y => PySem.W.kIn_of Y) ?F
  case F =>
    intro w mg fa h KX G hmg
    refine' DL.all_mk KX G hmg DL.law_true ?z_abs ?z_all ?z_bool ?z_int ?z_isinstance ?z_len ?z_list ?z_max ?z_range ?z_str ?z_sum ?z_tuple ?z_zip ?v_SIGNS ?v_DIGITS ?v_FACTOR ?v_MODULUS ?v_MARK ?v_END ?v_MOST_FIGURES ?v_SALE ?v_BACK ?v_SINGLE ?v_DROP ?a_is_inner ?l_is_inner ?c_is_inner ?k_is_inner ?a_check_of ?l_check_of ?c_check_of ?k_check_of ?a_framed ?l_framed ?c_framed ?k_framed ?a_is_number ?l_is_number ?c_is_number ?k_is_number ?a_text_in ?l_text_in ?c_text_in ?k_text_in ?a_unframed ?l_unframed ?c_unframed ?k_unframed ?a_is_whole ?l_is_whole ?c_is_whole ?k_is_whole ?a_spaced ?l_spaced ?c_spaced ?k_spaced ?a_entry_text ?l_entry_text ?c_entry_text ?k_entry_text ?a__law_bag ?l__law_bag ?c__law_bag ?k__law_bag ?a__law_take ?l__law_take ?c__law_take ?k__law_take ?a__law_some ?l__law_some ?c__law_some ?k__law_some ?a__law_alike ?l__law_alike ?c__law_alike ?k__law_alike ?a__law_check ?l__law_check ?c__law_check ?k__law_check ?a__law_framed ?l__law_framed ?c__law_framed ?k__law_framed ?a__law_number ?l__law_number ?c__law_number ?k__law_number ?a__law_unframed ?l__law_unframed ?c__law_unframed ?k__law_unframed ?a__law_text ?l__law_text ?c__law_text ?k__law_text ?a__law_bent ?l__law_bent ?c__law_bent ?k__law_bent ?a_law ?l_law ?c_law ?k_law
    (case z_abs => k_is)
    (case z_all => k_is)
    (case z_bool => k_is)
    (case z_int => k_is)
    (case z_isinstance => k_is)
    (case z_len => k_is)
    (case z_list => k_is)
    (case z_max => k_is)
    (case z_range => k_is)
    (case z_str => k_is)
    (case z_sum => k_is)
    (case z_tuple => k_is)
    (case z_zip => k_is)
    (case v_SIGNS => k_is)
    (case v_DIGITS => k_is)
    (case v_FACTOR => k_is)
    (case v_MODULUS => k_is)
    (case v_MARK => k_is)
    (case v_END => k_is)
    (case v_MOST_FIGURES => k_is)
    (case v_SALE => k_is)
    (case v_BACK => k_is)
    (case v_SINGLE => k_is)
    (case v_DROP => k_is)
    (case a_is_inner => k_is)
    (case l_is_inner => k_is)
    (case c_is_inner => k_is)
    (case k_is_inner => k_is)
    (case a_check_of => k_is)
    (case l_check_of => k_is)
    (case c_check_of => k_is)
    (case k_check_of => k_is)
    (case a_framed => k_is)
    (case l_framed => k_is)
    (case c_framed => k_is)
    (case k_framed => k_is)
    (case a_is_number => k_is)
    (case l_is_number => k_is)
    (case c_is_number => k_is)
    (case k_is_number => k_is)
    (case a_text_in => k_is)
    (case l_text_in => k_is)
    (case c_text_in => k_is)
    (case k_text_in => k_is)
    (case a_unframed => k_is)
    (case l_unframed => k_is)
    (case c_unframed => k_is)
    (case k_unframed => k_is)
    (case a_is_whole => k_is)
    (case l_is_whole => k_is)
    (case c_is_whole => k_is)
    (case k_is_whole => k_is)
    (case a_spaced => k_is)
    (case l_spaced => k_is)
    (case c_spaced => k_is)
    (case k_spaced => k_is)
    (case a_entry_text => k_is)
    (case l_entry_text => k_is)
    (case c_entry_text => k_is)
    (case k_entry_text => k_is)
    (case a__law_bag => k_is)
    (case l__law_bag => k_is)
    (case c__law_bag => k_is)
    (case k__law_bag => k_is)
    (case a__law_take => k_is)
    (case l__law_take => k_is)
    (case c__law_take => k_is)
    (case k__law_take => k_is)
    (case a__law_some => k_is)
    (case l__law_some => k_is)
    (case c__law_some => k_is)
    (case k__law_some => k_is)
    (case a__law_alike => k_is)
    (case l__law_alike => k_is)
    (case c__law_alike => k_is)
    (case k__law_alike => k_is)
    (case a__law_check => k_is)
    (case l__law_check => k_is)
    (case c__law_check => k_is)
    (case k__law_check => k_is)
    (case a__law_framed => k_is)
    (case l__law_framed => k_is)
    (case c__law_framed => k_is)
    (case k__law_framed => k_is)
    (case a__law_number => k_is)
    (case l__law_number => k_is)
    (case c__law_number => k_is)
    (case k__law_number => k_is)
    (case a__law_unframed => k_is)
    (case l__law_unframed => k_is)
    (case c__law_unframed => k_is)
    (case k__law_unframed => k_is)
    (case a__law_text => k_is)
    (case l__law_text => k_is)
    (case c__law_text => k_is)
    (case k__law_text => k_is)
    (case a__law_bent => k_is)
    (case l__law_bent => k_is)
    (case c__law_bent => k_is)
    (case k__law_bent => k_is)
    (case a_law => k_is)
    (case l_law => k_is)
    (case c_law => k_is)
    (case k_law => k_is)

